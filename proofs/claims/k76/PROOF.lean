import PyProof.Rows.All
import Wide.All
import OpenK.AllK
import Wide.FinOn
import KE.KStateDown
import HandS.ForMost
import HandS.Exc
import HandS.Lambda
import HandS.Nested
import HandS.TupAny
import HandS.TupMul
import HandS.Style
import HandS.Wide
import HandS.IsInst
import HandS.Conv
import HandS.Strs
import HandS.Deep
import HandS.Call
import HandS.CallLocal
import HandS.ExcIs
import HandS.ExcInit
import HandS.Small
import HandS.DictTup
import HandS.More
import HandS.SortOrd
import HandS.SortInts
import HandS.TupSets
import HandS.SetFor
import HandS.Zip
import HandS.HeadEnd
import HandS.HeadHook4
import HandS.HeadWalk
import HandS.Head2
import KE.GoesEnum
import HandS.EndTab
import HandS.WordsExc
import HandS.TryMany
import KE.DataFind
import PyProof.ReprRoads
import HandS.Spec
import HandS.Defaults
import PyProof.ExcBaseAll.ValueError
import PyProof.ReprBulk
import PyProof.FitsInt
import PySem.Challenge.RW_pricesforever_k76_whole_taxes_gross_and
section
set_option Elab.async false
set_option linter.all false
set_option maxRecDepth 100000
/-! P1: plain data, the store, the combinators that a def's text becomes. -/
namespace Pf
open PySem L2

/-- the error that a suite holds: its class, where it lies -/
abbrev XAt := Option (Str × Addr)
/-- a lambda of the text: its qualified name, its words, its parameters, what it captures, all its names by slot -/
structure LamI where
  qual : Str
  params : Arguments
  body : Expr
  scope : Scope
  ps : List Str
  fr : List Str
  N : List Str

/-- a tuple's flag: it is known to have no dict of its own; it is one of the walk's own -/
inductive TF where
  | any | hard | own
  deriving DecidableEq, Inhabited
/-- plain values (a tuple's flag says what is known of its object): an object that changes is a number in the store; a closure is its text and what it captured -/
inductive D where
  | non | bl (b : Bool) | int (i : Int) | str (x : Str) | tup (n : TF) (ds : List D) | rol (ds : List D) | ref (n : Nat) | clo (li : LamI) (caps : List D) | exn (c : Str)
  deriving Inhabited

inductive MO where
  | lst (ds : List D) | dK (kvs : List (Key × D)) | dT (kvs : List (List Key × D))
  deriving Inhabited

abbrev Store := List MO
abbrev Env := List (Option D)
inductive R (α : Type) where
  | ok (a : α) (S : Store) | exc (c : Str) (S : Store) | bad
def R.bind {α β : Type} (r : R α) (f : α → Store → R β) : R β := match r with
  | .ok a S => f a S
  | .exc c S => .exc c S
  | .bad => .bad
abbrev Ex := Env → Store → R D
abbrev Ts := Env → Store → R Bool
abbrev Ar := Env → Store → R (List D)
inductive SO where
  | nx (ρ : Env) (S : Store) | rt (d : D) (S : Store) | bk (ρ : Env) (S : Store) | ct (ρ : Env) (S : Store) | ex (c : Str) (ρ : Env) (S : Store) | bad
abbrev St := Env → Store → SO
/-- what calls give: of defs, of closures -/
structure Calls where
  f : Nat → List D → Store → R D
  l : LamI → List D → List D → Store → R D

/-! ### looks at data -/
mutual
def isD : D → Bool
  | .clo _ _ => false
  | .exn _ => false
  | .tup _ ds => isDs ds
  | .rol ds => isDs ds
  | _ => true
def isDs : List D → Bool
  | [] => true
  | d :: ds => isD d && isDs ds
end
mutual
/-- no closure, and every object's number below n -/
def wfD (n : Nat) : D → Bool
  | .clo _ _ => false
  | .exn _ => false
  | .tup _ ds => wfDs n ds
  | .rol ds => wfDs n ds
  | .ref m => decide (m < n)
  | _ => true
def wfDs (n : Nat) : List D → Bool
  | [] => true
  | d :: ds => wfD n d && wfDs n ds
end
mutual
/-- no object that changes, no closure -/
def flD : D → Bool
  | .clo _ _ => false
  | .exn _ => false
  | .tup _ ds => flDs ds
  | .rol ds => flDs ds
  | .ref _ => false
  | _ => true
def flDs : List D → Bool
  | [] => true
  | d :: ds => flD d && flDs ds
end
def wfO (n : Nat) : MO → Bool
  | .lst ds => wfDs n ds
  | .dK kvs => wfDs n (kvs.map (·.2))
  | .dT kvs => wfDs n (kvs.map (·.2))
mutual
def toPy : D → PyData
  | .non => .none
  | .bl b => .bool b
  | .int i => .int i
  | .str x => .str x
  | .tup _ ds => .tuple (toPys ds)
  | .rol ds => .list (toPys ds)
  | _ => .none
def toPys : List D → List PyData
  | [] => []
  | d :: ds => toPy d :: toPys ds
end
def itemsOf (S : Store) : D → Option (List D)
  | .tup _ ds => some ds
  | .rol ds => some ds
  | .ref n => match S[n]? with
    | some (.lst ds) => some ds
    | _ => none
  | _ => none
def slot : Env → Nat → Option D
  | [], _ => none
  | d :: _, 0 => d
  | _ :: r, n + 1 => slot r n
def wipeD (ρ : Env) : List Nat → Env
  | [] => ρ
  | v :: vs => (wipeD ρ vs).set v none

/-! ### operators by values -/
mutual
/-- data of depth n at most, texts of a length that the model bears -/
def okD : Nat → D → Bool
  | _, .non => true
  | _, .bl _ => true
  | _, .int _ => true
  | _, .str x => PyData.canLay0 (.str x)
  | n + 1, .tup _ ds => okDs n ds
  | n + 1, .rol ds => okDs n ds
  | _, _ => false
def okDs : Nat → List D → Bool
  | _, [] => true
  | n, d :: ds => okD n d && okDs n ds
end
/-- a list's number read -/
def drf (S : Store) : D → D
  | .ref n => match S[n]? with
    | some (.lst ds) => .rol ds
    | _ => .ref n
  | d => d
def eqD (x y : D) : Bool := PyData.eqv (toPy x) (toPy y)
def oEq (x y : D) (S : Store) : R D := if okD 60 (drf S x) && okD 60 (drf S y) then .ok (.bl (eqD (drf S x) (drf S y))) S else .bad
def oNe (x y : D) (S : Store) : R D := if okD 60 (drf S x) && okD 60 (drf S y) then .ok (.bl (!eqD (drf S x) (drf S y))) S else .bad
def addF (f g : TF) : TF := if f = .own ∧ g = .own then .own else .any
def oAdd : D → D → Store → R D
  | .int i, .int j, S => .ok (.int (i + j)) S
  | .tup f xs, .tup g ys, S => if xs.length + ys.length ≤ sizeLine then .ok (.tup (addF f g) (xs ++ ys)) S else .bad
  | .str x, .str y, S => if x.length + y.length ≤ sizeLine then .ok (.str (x ++ y)) S else .bad
  | _, _, _ => .bad
def oSub : D → D → Store → R D
  | .int i, .int j, S => .ok (.int (i - j)) S
  | _, _, _ => .bad
def oMul : D → D → Store → R D
  | .int i, .int j, S => if i.natAbs.log2 + j.natAbs.log2 < 1000000 then .ok (.int (i * j)) S else .bad
  | _, _, _ => .bad
/-- a tuple times a number -/
def oRepT : D → D → Store → R D
  | .tup _ xs, .int k, S => if 0 ≤ k ∧ k ≤ 100000 ∧ xs.length ≤ 100000 ∧ xs.length * k.toNat ≤ 1000000 then .ok (.tup .any (List.replicate k.toNat xs).flatten) S else .bad
  | _, _, _ => .bad
def oDiv : D → D → Store → R D
  | .int i, .int j, S => if 0 < j ∧ j.natAbs.log2 < 9000 then .ok (.int (i / j)) S else .bad
  | _, _, _ => .bad
def oMod : D → D → Store → R D
  | .int i, .int j, S => if 0 < j then .ok (.int (i % j)) S else .bad
  | _, _, _ => .bad
def oPow : D → D → Store → R D
  | .int i, .int j, S => if 0 ≤ j ∧ j ≤ 1000000 ∧ i.natAbs < 2 ^ 64 then .ok (.int (i ^ j.toNat)) S else .bad
  | _, _, _ => .bad
def oNeg : D → Store → R D
  | .int i, S => .ok (.int (-i)) S
  | _, _ => .bad
def oLt : D → D → Store → R D
  | .int i, .int j, S => .ok (.bl (decide (i < j))) S
  | _, _, _ => .bad
def oLe : D → D → Store → R D
  | .int i, .int j, S => .ok (.bl (decide (i ≤ j))) S
  | _, _, _ => .bad
def oGt : D → D → Store → R D
  | .int i, .int j, S => .ok (.bl (decide (j < i))) S
  | _, _, _ => .bad
def oGe : D → D → Store → R D
  | .int i, .int j, S => .ok (.bl (decide (j ≤ i))) S
  | _, _, _ => .bad
/-- is None -/
def isNon : D → Bool
  | .non => true
  | _ => false
def oIsN (x : D) (S : Store) : R D := .ok (.bl (isNon x)) S
def oNotN (x : D) (S : Store) : R D := .ok (.bl (!isNon x)) S
/-- is True, is not True: of truths -/
def oIsB : D → D → Store → R D
  | .bl a, .bl b, S => .ok (.bl (decide (a = b))) S
  | _, _, _ => .bad
def oNotB : D → D → Store → R D
  | .bl a, .bl b, S => .ok (.bl (!decide (a = b))) S
  | _, _, _ => .bad
def inD (x : D) (ys : List D) : Bool := ys.any fun z => eqD z x
/-! ### dicts -/
def keyD : D → Option L2.Key
  | .int i => some (.inl i)
  | .str x => some (.inr x)
  | _ => none
def keysD : List D → Option (List L2.Key)
  | [] => some []
  | d :: r => match keyD d, keysD r with
    | some k, some ks => some (k :: ks)
    | _, _ => none
def valD {κ : Type} [DecidableEq κ] (kvs : List (κ × D)) (k : κ) : Option D := (kvs.find? fun kv => decide (kv.1 = k)).map (·.2)
def putD {κ : Type} [DecidableEq κ] (kvs : List (κ × D)) (k : κ) (v : D) : List (κ × D) :=
  if (kvs.any fun kv => decide (kv.1 = k)) = true then kvs.map (fun kv => if kv.1 = k then (kv.1, v) else kv) else kvs ++ [(k, v)]
/-- a dict of the store at a key: none where this is not served -/
def dgetO (x y : D) (S : Store) : Option (Option D) := match x with
  | .ref n => (match S[n]? with
    | some (.dK kvs) => (keyD y).map (valD kvs)
    | some (.dT kvs) => (match y with
      | .tup .own ds => (keysD ds).map (valD kvs)
      | _ => none)
    | _ => none)
  | _ => none
def oPutD (o i v : D) (S : Store) : R Unit := match o with
  | .ref n => (match S[n]? with
    | some (.dK kvs) => (match keyD i with
      | some k => if kvs.length < sizeLine ∧ isD v = true then .ok () (S.set n (.dK (putD kvs k v))) else .bad
      | none => .bad)
    | some (.dT kvs) => (match i with
      | .tup .own ds => (match keysD ds with
        | some k => if kvs.length < sizeLine ∧ isD v = true then .ok () (S.set n (.dT (putD kvs k v))) else .bad
        | none => .bad)
      | _ => .bad)
    | _ => .bad)
  | _ => .bad
def oIn (x y : D) (S : Store) : R D := match itemsOf S y with
  | some ys => if okD 50 x && okDs 50 ys then .ok (.bl (inD x ys)) S else .bad
  | none => (match dgetO y x S with
    | some o => .ok (.bl o.isSome) S
    | none => .bad)
def oNotIn (x y : D) (S : Store) : R D := match itemsOf S y with
  | some ys => if okD 50 x && okDs 50 ys then .ok (.bl (!inD x ys)) S else .bad
  | none => (match dgetO y x S with
    | some o => .ok (.bl (!o.isSome)) S
    | none => .bad)
def oIx (x y : D) (S : Store) : R D := match itemsOf S x, y with
  | some xs, .int i => (match atI xs i with
    | some d => .ok d S
    | none => .bad)
  | _, _ => (match dgetO x y S with
    | some (some d) => .ok d S
    | _ => .bad)
/-! ### built-in functions by values -/
def tyD (S : Store) : D → Option String
  | .non => some "NoneType"
  | .bl _ => some "bool"
  | .int _ => some "int"
  | .str _ => some "str"
  | .tup _ _ => some "tuple"
  | .rol _ => some "list"
  | .ref n => match S[n]? with
    | some (.lst _) => some "list"
    | some _ => some "dict"
    | none => none
  | .clo _ _ => none
  | .exn _ => none
def isTy (t n : String) : Bool := t == n || (t == "bool" && n == "int")
def oIsI (n : String) (x : D) (S : Store) : R D := match tyD S x with
  | some t => .ok (.bl (isTy t n)) S
  | none => .bad
def oLen : List D → Store → R D
  | [x], S => (match itemsOf S x with
    | some ds => .ok (.int ds.length) S
    | none => .bad)
  | _, _ => .bad
def intsOf : List D → Option (List Int)
  | [] => some []
  | .int i :: r => (intsOf r).map (i :: ·)
  | _ :: _ => none
def blsOf : List D → Option (List Bool)
  | [] => some []
  | .bl i :: r => (blsOf r).map (i :: ·)
  | _ :: _ => none
def maxL : List Int → Int
  | [] => 0
  | [x] => x
  | x :: r => if maxL r > x then maxL r else x
def minL : List Int → Int
  | [] => 0
  | [x] => x
  | x :: r => if minL r < x then minL r else x
/-- of a list's items -/
def kAll (ds : List D) (S : Store) : R D := match blsOf ds with
  | some bs => .ok (.bl (bs.all id)) S
  | none => .bad
def kAny (ds : List D) (S : Store) : R D := match blsOf ds with
  | some bs => .ok (.bl (bs.any id)) S
  | none => .bad
def kSum (ds : List D) (S : Store) : R D := match intsOf ds with
  | some ns => .ok (.int ns.sum) S
  | none => .bad
def kMax (ds : List D) (S : Store) : R D := match intsOf ds with
  | some ns => if 0 < ns.length then .ok (.int (maxL ns)) S else .bad
  | none => .bad
def kMin (ds : List D) (S : Store) : R D := match intsOf ds with
  | some ns => if 0 < ns.length then .ok (.int (minL ns)) S else .bad
  | none => .bad
def kTup (ds : List D) (S : Store) : R D := .ok (.tup .hard ds) S
def kLen (ds : List D) (S : Store) : R D := .ok (.int ds.length) S
/-- the items of a list that a name holds -/
def lstOf (S : Store) : D → Option (List D)
  | .rol ds => some ds
  | .ref n => match S[n]? with
    | some (.lst ds) => some ds
    | _ => none
  | _ => none
def oK (k : List D → Store → R D) : List D → Store → R D
  | [x], S => (match lstOf S x with
    | some ds => k ds S
    | none => .bad)
  | _, _ => .bad
def oMax2 : List D → Store → R D
  | [.int i, .int j], S => .ok (.int (if j > i then j else i)) S
  | _, _ => .bad
def oMin2 : List D → Store → R D
  | [.int i, .int j], S => .ok (.int (if j < i then j else i)) S
  | _, _ => .bad
def oAbs : List D → Store → R D
  | [.int i], S => .ok (.int (if i < 0 then -i else i)) S
  | _, _ => .bad
def oInt : List D → Store → R D
  | [.int i], S => .ok (.int i) S
  | _, _ => .bad
/-- tuple(x), x a tuple or a list -/
def oTupOf : List D → Store → R D
  | [.tup n ds], S => .ok (.tup n ds) S
  | [x], S => (match lstOf S x with
    | some ds => .ok (.tup .hard ds) S
    | none => .bad)
  | _, _ => .bad
/-! ### methods by values -/
def oAppend (x y : D) (S : Store) : R D := match x with
  | .ref n => (match S[n]? with
    | some (.lst ds) => if ds.length < sizeLine ∧ isD y = true then .ok .non (S.set n (.lst (ds ++ [y]))) else .bad
    | _ => .bad)
  | _ => .bad
/-- xs[i] = v -/
def oSetL (o i v : D) (S : Store) : R Unit := match o, i with
  | .ref n, .int k => (match S[n]? with
    | some (.lst ds) => (match ixN ds.length k with
      | some j => if isD v = true then .ok () (S.set n (.lst (ds.set j v))) else .bad
      | none => .bad)
    | _ => oPutD o i v S)
  | _, _ => oPutD o i v S
/-- xs.pop() -/
def oPop (x : D) (S : Store) : R D := match x with
  | .ref n => (match S[n]? with
    | some (.lst ds) => (match ds[ds.length - 1]? with
      | some d => .ok d (S.set n (.lst ds.dropLast))
      | none => .bad)
    | _ => .bad)
  | _ => .bad
/-- xs.extend(ys), ys a list of the store -/
def oExtend (x y : D) (S : Store) : R D := match x, y with
  | .ref n, .ref m => (match S[n]?, S[m]? with
    | some (.lst ds), some (.lst es) => if ds.length + es.length ≤ sizeLine then .ok .non (S.set n (.lst (ds ++ es))) else .bad
    | _, _ => .bad)
  | _, _ => .bad
def findD (x : D) : Nat → List D → Option Nat
  | _, [] => none
  | i, d :: ds => if eqD d x = true then some i else findD x (i + 1) ds
/-- xs.index(x) -/
def oIndex (x y : D) (S : Store) : R D := match lstOf S x with
  | some ds => if okD 50 y && okDs 50 ds then (match findD y 0 ds with
    | some i => .ok (.int (i : Nat)) S
    | none => .bad) else .bad
  | none => .bad

def rgSmall (i : Int) : Prop := -(2 ^ 62) ≤ i ∧ i < 2 ^ 62
instance (i : Int) : Decidable (rgSmall i) := by unfold rgSmall; exact inferInstance
def rgD (lo : Int) (n : Nat) : List D := (List.range n).map fun i => .int (lo + (i : Nat))
def oIndexT (x y : D) (S : Store) : R D := match x with
  | .tup .hard ds => if okD 50 y && okDs 50 ds then (match findD y 0 ds with
    | some i => .ok (.int (i : Nat)) S
    | none => .bad) else .bad
  | _ => .bad

/-! ### expressions -/
def cD (d : D) : Ex := fun _ S => .ok d S
def cV (i : Nat) : Ex := fun ρ S => match slot ρ i with
  | some d => .ok d S
  | none => .bad
def c1 (op : D → Store → R D) (a : Ex) : Ex := fun ρ S => (a ρ S).bind fun x S1 => op x S1
def c2 (op : D → D → Store → R D) (a b : Ex) : Ex := fun ρ S => (a ρ S).bind fun x S1 => (b ρ S1).bind fun y S2 => op x y S2
def aNil : Ar := fun _ S => .ok [] S
def aCons (a : Ex) (as : Ar) : Ar := fun ρ S => (a ρ S).bind fun x S1 => (as ρ S1).bind fun xs S2 => .ok (x :: xs) S2
def cN (op : List D → Store → R D) (as : Ar) : Ex := fun ρ S => (as ρ S).bind fun xs S1 => op xs S1
def oTup (xs : List D) (S : Store) : R D := if xs.length ≤ sizeLine then .ok (.tup .any xs) S else .bad
def oTupO (xs : List D) (S : Store) : R D := if xs.length ≤ sizeLine then .ok (.tup .own xs) S else .bad
def oLst (xs : List D) (S : Store) : R D := if isDs xs = true ∧ xs.length ≤ sizeLine then .ok (.ref S.length) (S ++ [.lst xs]) else .bad
def cIf (t : Ts) (a b : Ex) : Ex := fun ρ S => (t ρ S).bind fun c S1 => if c = true then a ρ S1 else b ρ S1
def cAnd (a b : Ex) : Ex := fun ρ S => (a ρ S).bind fun x S1 => match x with
  | .bl c => if c = true then b ρ S1 else .ok (.bl false) S1
  | _ => .bad
def cOr (a b : Ex) : Ex := fun ρ S => (a ρ S).bind fun x S1 => match x with
  | .bl c => if c = true then .ok (.bl true) S1 else b ρ S1
  | _ => .bad
def oNot : D → Store → R D
  | .bl c, S => .ok (.bl (!c)) S
  | _, _ => .bad
/-- a op b op' c -/
def cChain (op op' : D → D → Store → R D) (a b c : Ex) : Ex := fun ρ S => (a ρ S).bind fun x S1 => (b ρ S1).bind fun y S2 => (op x y S2).bind fun z S3 => match z with
  | .bl k => if k = true then (c ρ S3).bind fun w S4 => op' y w S4 else .ok (.bl false) S3
  | _ => .bad
def cCall (C : Calls) (i : Nat) (as : Ar) : Ex := fun ρ S => (as ρ S).bind fun xs S1 => C.f i xs S1
/-- a call of what slot i holds, a closure -/
def cCallV (C : Calls) (i : Nat) (as : Ar) : Ex := fun ρ S => match slot ρ i with
  | some (.clo j caps) => (as ρ S).bind fun xs S1 => C.l j caps xs S1
  | _ => .bad
def capsOf (ρ : Env) : List Nat → Option (List D)
  | [] => some []
  | i :: is => match slot ρ i with
    | some d => (capsOf ρ is).map (d :: ·)
    | none => none
/-- the arguments of a call, the last one a lambda: its text's number, where what it captures stands -/
def aLam (j : LamI) (is : List Nat) : Ar := fun ρ S => match capsOf ρ is with
  | some caps => if isDs caps = true then .ok [.clo j caps] S else .bad
  | none => .bad
/-- a slice of a list, a tuple -/
def cutD (xs : List D) (lo hi : Option Int) : List D := (xs.drop (HT.sIx xs.length 0 lo)).take (HT.sIx xs.length xs.length hi - HT.sIx xs.length 0 lo)
abbrev Pt := Env → Store → R (Option Int)
def pNo : Pt := fun _ S => .ok none S
def pSome (a : Ex) : Pt := fun ρ S => (a ρ S).bind fun x S1 => match x with
  | .int i => .ok (some i) S1
  | _ => .bad
/-- a[lo:hi]: of a tuple; of a list the items -/
def cCutT (a : Ex) (lo hi : Pt) : Ex := fun ρ S => (a ρ S).bind fun x S1 => (lo ρ S1).bind fun l S2 => (hi ρ S2).bind fun h S3 => match x with
  | .tup _ xs => .ok (.tup .any (cutD xs l h)) S3
  | _ => .bad
def aCutL (a : Ex) (lo hi : Pt) : Ar := fun ρ S => (a ρ S).bind fun x S1 => (lo ρ S1).bind fun l S2 => (hi ρ S2).bind fun h S3 => match x with
  | .rol xs => .ok (cutD xs l h) S3
  | .ref n => (match S3[n]? with
    | some (.lst xs) => .ok (cutD xs l h) S3
    | _ => .bad)
  | _ => .bad
/-- a new list of items -/
def cNew (as : Ar) : Ex := cN oLst as

/-- a built-in asked of a list just made -/
def cK (k : List D → Store → R D) (as : Ar) : Ex := fun ρ S => (as ρ S).bind fun ds S1 => k ds S1
/-- a op [..] -/
def cEqL (op : D → D → Store → R D) (a : Ex) (bs : Ar) : Ex := fun ρ S => (a ρ S).bind fun x S1 => (bs ρ S1).bind fun ys S2 => op x (.rol ys) S2
/-- the items of a list that stands -/
def aOf (a : Ex) : Ar := fun ρ S => (a ρ S).bind fun x S1 => match lstOf S1 x with
  | some ds => .ok ds S1
  | none => .bad
/-- [..][i] -/
def cIxL (as : Ar) (i : Ex) : Ex := fun ρ S => (as ρ S).bind fun xs S1 => (i ρ S1).bind fun y S2 => match y with
  | .int k => (match atI xs k with
    | some d => .ok d S2
    | none => .bad)
  | _ => .bad
/-- list(range(a, b)) -/
def aRg (a b : Ex) : Ar := fun ρ S => (a ρ S).bind fun x S1 => (b ρ S1).bind fun y S2 => match x, y with
  | .int i, .int j => if rgSmall i ∧ rgSmall j ∧ (j - i).toNat ≤ 2 ^ 24 then .ok (rgD i (j - i).toNat) S2 else .bad
  | _, _ => .bad

/-- {}: its keys will be numbers and texts; tuples of these -/
def cDictK : Ex := fun _ S => .ok (.ref S.length) (S ++ [.dK []])
def cDictT : Ex := fun _ S => .ok (.ref S.length) (S ++ [.dT []])
/-- T[a], a in T, a not in T: T a dict of the module -/
def oIxF (kvs : List (Str × D)) (y : D) (S : Store) : R D := match y with
  | .str z => (match kvs.lookup z with
    | some d => .ok d S
    | none => .bad)
  | _ => .bad
def oInF (kvs : List (Str × D)) (y : D) (S : Store) : R D := match y with
  | .str z => .ok (.bl (kvs.lookup z).isSome) S
  | _ => .bad
def oNotInF (kvs : List (Str × D)) (y : D) (S : Store) : R D := match y with
  | .str z => .ok (.bl (!(kvs.lookup z).isSome)) S
  | _ => .bad
/-! ### tests -/
def tV (a : Ex) : Ts := fun ρ S => (a ρ S).bind fun x S1 => match x with
  | .bl c => .ok c S1
  | _ => .bad
def tNot (t : Ts) : Ts := fun ρ S => (t ρ S).bind fun c S1 => .ok (!c) S1
def tAnd (t u : Ts) : Ts := fun ρ S => (t ρ S).bind fun c S1 => if c = true then u ρ S1 else .ok false S1
def tOr (t u : Ts) : Ts := fun ρ S => (t ρ S).bind fun c S1 => if c = true then .ok true S1 else u ρ S1

/-! ### what is walked: the items, and the list that must stay as it is -/
abbrev Gd := List (Nat × List D)
abbrev It := Env → Store → R (List D × Gd)
def gdOk : Gd → Store → Prop
  | [], _ => True
  | (n, ds) :: r, S => S[n]? = some (.lst ds) ∧ gdOk r S
def seqL (x : D) (S1 : Store) : R (List D × Gd) := match x with
  | .tup _ ds => .ok (ds, []) S1
  | .rol ds => .ok (ds, []) S1
  | .ref n => (match S1[n]? with
    | some (.lst ds) => .ok (ds, [(n, ds)]) S1
    | _ => .bad)
  | _ => .bad
def iE (a : Ex) : It := fun ρ S => (a ρ S).bind seqL
/-- a list just made -/
def iA (a : Ar) : It := fun ρ S => (a ρ S).bind fun ds S1 => .ok (ds, []) S1
def iR (a b : Ex) : It := fun ρ S => (a ρ S).bind fun x S1 => (b ρ S1).bind fun y S2 => match x, y with
  | .int i, .int j => if rgSmall i ∧ rgSmall j then .ok (rgD i (j - i).toNat, []) S2 else .bad
  | _, _ => .bad
def iR1 (b : Ex) : It := fun ρ S => (b ρ S).bind fun y S2 => match y with
  | .int j => if rgSmall j then .ok (rgD 0 j.toNat, []) S2 else .bad
  | _ => .bad
/-- range(a, b, -1) -/
def rgDown (lo : Int) (n : Nat) : List D := (List.range n).map fun i => .int (lo + (i : Nat) * (-1))
def iRdn (a b : Ex) : It := fun ρ S => (a ρ S).bind fun x S1 => (b ρ S1).bind fun y S2 => match x, y with
  | .int i, .int j => if rgSmall i ∧ rgSmall j then .ok (rgDown i (i - j).toNat, []) S2 else .bad
  | _, _ => .bad
def enumD : Nat → List D → List D
  | _, [] => []
  | i, d :: ds => .tup .any [.int (i : Nat), d] :: enumD (i + 1) ds
def iEnum (a : Ex) : It := fun ρ S => (a ρ S).bind fun x S1 => (seqL x S1).bind fun p S2 => .ok (enumD 0 p.1, p.2) S2
def zipD : List D → List D → List D
  | a :: as, b :: bs => .tup .any [a, b] :: zipD as bs
  | _, _ => []
def isTp : D → Bool
  | .tup _ _ => true
  | _ => false
/-- zip of two lists, of two tuples -/
def iZip (a b : Ex) : It := fun ρ S => (a ρ S).bind fun x S1 => (b ρ S1).bind fun y S2 => if isTp x = isTp y then (seqL x S2).bind fun p S3 => (seqL y S3).bind fun q S4 => .ok (zipD p.1 q.1, p.2 ++ q.2) S4 else .bad
/-- a list of the store -/
def refL (x : D) (S1 : Store) : R (List D × Gd) := match x with
  | .ref n => (match S1[n]? with
    | some (.lst ds) => .ok (ds, [(n, ds)]) S1
    | _ => .bad)
  | _ => .bad
def iL (a : Ex) : It := fun ρ S => (a ρ S).bind refL
open Classical in
/-- xs + ys of lists -/
noncomputable def aCat (a b : It) : Ar := fun ρ S => (a ρ S).bind fun p S1 => (b ρ S1).bind fun q S2 => if gdOk p.2 S2 ∧ gdOk q.2 S2 ∧ p.1.length + q.1.length ≤ sizeLine then .ok (p.1 ++ q.1) S2 else .bad
/-- o.m(..), o a list -/
def cM (o : D → List D → Store → R D) (a : Ex) (as : Ar) : Ex := fun ρ S => (a ρ S).bind fun x S1 => if (lstOf S1 x).isSome = true then (as ρ S1).bind fun ys S2 => o x ys S2 else .bad
/-- t.m(..), t a tuple that is known to have no dict -/
def cMT (o : D → List D → Store → R D) (a : Ex) (as : Ar) : Ex := fun ρ S => (a ρ S).bind fun x S1 => match x with
  | .tup .hard ds => (as ρ S1).bind fun ys S2 => o (.tup .hard ds) ys S2
  | _ => .bad
def m0 (o : D → Store → R D) (x : D) (ys : List D) (S : Store) : R D := match ys with
  | [] => o x S
  | _ => .bad
def m1 (o : D → D → Store → R D) (x : D) (ys : List D) (S : Store) : R D := match ys with
  | [y] => o x y S
  | _ => .bad

/-! ### targets -/
abbrev Tg := D → Env → Option Env
def gV (i : Nat) : Tg := fun d ρ => some (ρ.set i (some d))
abbrev Tgs := List D → Env → Option Env
def gNil : Tgs := fun ds ρ => match ds with
  | [] => some ρ
  | _ :: _ => none
def gCons (g : Tg) (gs : Tgs) : Tgs := fun ds ρ => match ds with
  | [] => none
  | d :: r => (g d ρ).bind fun ρ1 => gs r ρ1
def gTup (gs : Tgs) : Tg := fun d ρ => match d with
  | .tup _ ds => gs ds ρ
  | _ => none

/-! ### comprehensions: what is raised within is not served -/
open Classical in
noncomputable def compF (g : Gd) (tg : Tg) (t : Ts) (e : Ex) (ρ0 : Env) : List D → List D → Store → R (List D)
  | [], acc, S => if gdOk g S then .ok acc S else .bad
  | d :: r, acc, S => if gdOk g S then (match tg d ρ0 with
    | some ρ1 => (match t ρ1 S with
      | .ok true S1 => (match e ρ1 S1 with
        | .ok v S2 => if acc.length < sizeLine then compF g tg t e ρ0 r (acc ++ [v]) S2 else .bad
        | _ => .bad)
      | .ok false S1 => compF g tg t e ρ0 r acc S1
      | _ => .bad)
    | none => .bad) else .bad
def tYes : Ts := fun _ S => .ok true S
noncomputable def aComp (own : List Nat) (it : It) (tg : Tg) (t : Ts) (e : Ex) : Ar := fun ρ S => (it ρ S).bind fun p S1 => compF p.2 tg t e (wipeD ρ own) p.1 [] S1

/-! ### statements -/
def sNx : St := fun ρ S => .nx ρ S
def sSeq (a b : St) : St := fun ρ S => match a ρ S with
  | .nx ρ1 S1 => b ρ1 S1
  | o => o
def sX {α : Type} (r : R α) (ρ : Env) (f : α → Store → SO) : SO := match r with
  | .ok a S => f a S
  | .exc c S => .ex c ρ S
  | .bad => .bad
def sSet (tg : Tg) (a : Ex) : St := fun ρ S => sX (a ρ S) ρ fun d S1 => match tg d ρ with
  | some ρ1 => .nx ρ1 S1
  | none => .bad
/-- several names at once -/
def sPar (tgs : Tgs) (as : Ar) : St := fun ρ S => sX (as ρ S) ρ fun ds S1 => match tgs ds ρ with
  | some ρ1 => .nx ρ1 S1
  | none => .bad
def sDrop (a : Ex) : St := fun ρ S => sX (a ρ S) ρ fun _ S1 => .nx ρ S1
def sRet (a : Ex) : St := fun ρ S => sX (a ρ S) ρ fun d S1 => .rt d S1
def sIf (t : Ts) (a b : St) : St := fun ρ S => sX (t ρ S) ρ fun c S1 => if c = true then a ρ S1 else b ρ S1
def sBrk : St := fun ρ S => .bk ρ S
def sCnt : St := fun ρ S => .ct ρ S
def sRaise (c : Str) : St := fun ρ S => .ex c ρ S
/-- an error made with one argument -/
def sRaise1 (c : Str) (a : Ex) : St := fun ρ S => sX (a ρ S) ρ fun _ S1 => .ex c ρ S1
/-- o[i] = e -/
def sSub (op : D → D → D → Store → R Unit) (o i e : Ex) : St := fun ρ S => sX (e ρ S) ρ fun v S1 => sX (o ρ S1) ρ fun ov S2 => sX (i ρ S2) ρ fun iv S3 => sX (op ov iv v S3) ρ fun _ S4 => .nx ρ S4
open Classical in
noncomputable def forF (g : Gd) (tg : Tg) (b : St) : List D → Env → Store → SO
  | [], ρ, S => if gdOk g S then .nx ρ S else .bad
  | d :: r, ρ, S => if gdOk g S then (match tg d ρ with
    | some ρ1 => (match b ρ1 S with
      | .nx ρ2 S2 => forF g tg b r ρ2 S2
      | .ct ρ2 S2 => forF g tg b r ρ2 S2
      | .bk ρ2 S2 => .nx ρ2 S2
      | o => o)
    | none => .bad) else .bad
noncomputable def sFor (it : It) (tg : Tg) (b : St) : St := fun ρ S => sX (it ρ S) ρ fun p S1 => forF p.2 tg b p.1 ρ S1
def whileF (t : Ts) (b : St) : Nat → Env → Store → SO
  | 0, _, _ => .bad
  | n + 1, ρ, S => sX (t ρ S) ρ fun c S1 => if c = true then (match b ρ S1 with
    | .nx ρ2 S2 => whileF t b n ρ2 S2
    | .ct ρ2 S2 => whileF t b n ρ2 S2
    | .bk ρ2 S2 => .nx ρ2 S2
    | o => o) else .nx ρ S1
@[irreducible] def fuel : Nat := 2 ^ 200
def sWhile (t : Ts) (b : St) : St := fun ρ S => whileF t b fuel ρ S

/-! ### defs -/
def runB (b : St) (nN np : Nat) (args : List D) (S : Store) : R D := if args.length = np then (match b (args.map some ++ List.replicate (nN - args.length) none) S with
  | .nx _ S1 => .ok .non S1
  | .rt d S1 => .ok d S1
  | .ex c _ S1 => .exc c S1
  | _ => .bad) else .bad
/-- what a call leaves: the objects that it made and nobody holds are gone -/
def keepOk (S S' : Store) : Prop := ∀ n o, n < S.length → S'[n]? = some o → S[n]? = some o ∨ wfO S.length o = true
open Classical in
noncomputable def gcR (S : Store) : R D → R D
  | .ok d S' => if isD d = true then (if S'.length ≤ S.length then .ok d S'
    else if wfD S.length d = true ∧ keepOk S S' then .ok d (S'.take S.length)
    else match d with
      | .ref n => (match S'[n]? with
        | some (.lst ds) => if S.length ≤ n ∧ wfDs S.length ds = true ∧ keepOk S S' then .ok (.ref S.length) (S'.take S.length ++ [.lst ds]) else .ok d S'
        | _ => .ok d S')
      | _ => .ok d S') else .bad
  | .exc c S' => if S'.length ≤ S.length then .exc c S' else if keepOk S S' then .exc c (S'.take S.length) else .exc c S'
  | .bad => .bad
end Pf
end

section
set_option Elab.async false
set_option linter.all false
set_option maxRecDepth 100000
set_option maxHeartbeats 1000000
/-! P2: how plain data lies in the abstract heap; what a reading of a combinator is. -/
namespace Pf
open PySem PySem.Spec PyProof.Rows L2

def FixO (c : Addr) (o : Obj) : HO := .ext fun h => h.get? c = some o
structure CellsOk (H : Hp) (cl : List (Str × Addr)) (fr : List Str) (vs : List V) : Prop where
  len : vs.length = fr.length
  inj : ∀ x y c, cl.lookup x = some c → cl.lookup y = some c → x = y
  all : ∀ y c, cl.lookup y = some c → y ∈ fr
  at_ : ∀ (i : Nat) x v, fr[i]? = some x → vs[i]? = some v → ∃ c oc u, cl.lookup x = some c ∧ H c = some (FixO c oc) ∧ oc.data = .cell (some u) ∧ RelV v u
/-- a list that nobody changes -/
def RolAt (K : PySem.W.Frag) (H : Hp) (a : Addr) (xs : List V) : Prop :=
  (∃ o, H a = some (.frz o (.lst xs))) ∨
    ∃ (o : Obj) (its : Array Value) (n : Nat), K.lookup a = some o ∧ o.cls = .type "list" ∧ o.dict = none ∧ o.data = .seq its n ∧ its.size ≤ sizeLine ∧ Vals xs its.toList
theorem RolAt.sq {K : PySem.W.Frag} {H : Hp} {a : Addr} {xs : List V} (h : RolAt K H a xs) : SqL K H a xs := by
  rcases h with h | h
  · exact .inl (.inr h)
  · exact .inr h
/-- a tuple that is known to have no dict -/
def HardT (H : Hp) (a : Addr) (xs : List V) : Prop := ∃ o, H a = some (.frz o (.tup xs)) ∧ o.dict = none
mutual
inductive RepV (K : PySem.W.Frag) (LT : XAt) (L : List Addr) (H : Hp) : D → V → Prop
  | non : RepV K LT L H .non .non
  | bl (b : Bool) : RepV K LT L H (.bl b) (.bl b)
  | int (i : Int) : RepV K LT L H (.int i) (.int i)
  | str (x : Str) : RepV K LT L H (.str x) (.str x)
  | tup {n : TF} {a : Addr} {vs : List V} {ds : List D} : SqT K H a vs → (n = .hard → HardT H a vs) → (n = .own → H a = some (.tup vs)) → RepVs K LT L H ds vs → RepV K LT L H (.tup n ds) (.ref a)
  | rol {a : Addr} {vs : List V} {ds : List D} : RolAt K H a vs → RepVs K LT L H ds vs → RepV K LT L H (.rol ds) (.ref a)
  | ref {n : Nat} {a : Addr} : L[n]? = some a → RepV K LT L H (.ref n) (.ref a)
  | clo {li : LamI} {f c' : Addr} {cl : List (Str × Addr)} {vs : List V} {caps : List D} {pm ctv : Value} : H f = some (FixO f (PySem.W.kla_obj "<lambda>" li.qual li.params li.body li.scope cl pm c' ctv)) → H c' = some (LamX.CodeO c' li.qual) →
      CellsOk H cl li.fr vs → RepVs K LT L H caps vs → RepV K LT L H (.clo li caps) (.ref f)
  | exn {c : Str} {a : Addr} : LT = some (c, a) → RepV K LT L H (.exn c) (.ref a)
inductive RepVs (K : PySem.W.Frag) (LT : XAt) (L : List Addr) (H : Hp) : List D → List V → Prop
  | nil : RepVs K LT L H [] []
  | cons {d : D} {ds : List D} {v : V} {vs : List V} : RepV K LT L H d v → RepVs K LT L H ds vs → RepVs K LT L H (d :: ds) (v :: vs)
end
section
variable {K : PySem.W.Frag} {LT : XAt} {L : List Addr} {H : Hp}
theorem RepVs.length : ∀ {ds : List D} {vs : List V}, RepVs K LT L H ds vs → ds.length = vs.length
  | _, _, .nil => rfl
  | _, _, .cons _ t => by rw [List.length_cons, List.length_cons, RepVs.length t]
theorem RepVs.get : ∀ {ds : List D} {vs : List V} {i : Nat} {d : D}, RepVs K LT L H ds vs → ds[i]? = some d → ∃ v, vs[i]? = some v ∧ RepV K LT L H d v
  | _, _, _, _, .nil, e => by simp at e
  | _, _, 0, _, .cons r _, e => by simp at e; subst e; exact ⟨_, rfl, r⟩
  | _, _, i + 1, _, .cons _ t, e => by
    obtain ⟨v, h1, h2⟩ := RepVs.get (i := i) t (by simpa using e)
    exact ⟨v, by simpa using h1, h2⟩
theorem RepVs.getV : ∀ {ds : List D} {vs : List V} {i : Nat} {v : V}, RepVs K LT L H ds vs → vs[i]? = some v → ∃ d, ds[i]? = some d ∧ RepV K LT L H d v
  | _, _, _, _, .nil, e => by simp at e
  | _, _, 0, _, .cons r _, e => by simp at e; subst e; exact ⟨_, rfl, r⟩
  | _, _, i + 1, _, .cons _ t, e => by
    obtain ⟨d, h1, h2⟩ := RepVs.getV (i := i) t (by simpa using e)
    exact ⟨d, by simpa using h1, h2⟩
theorem RepVs.app : ∀ {ds es : List D} {vs ws : List V}, RepVs K LT L H ds vs → RepVs K LT L H es ws → RepVs K LT L H (ds ++ es) (vs ++ ws)
  | _, _, _, _, .nil, s => s
  | _, _, _, _, .cons r t, s => .cons r (RepVs.app t s)
theorem RepVs.take : ∀ {ds : List D} {vs : List V} (n : Nat), RepVs K LT L H ds vs → RepVs K LT L H (ds.take n) (vs.take n)
  | _, _, 0, _ => .nil
  | _, _, _ + 1, .nil => .nil
  | _, _, n + 1, .cons r t => .cons r (RepVs.take n t)
theorem RepVs.drop : ∀ {ds : List D} {vs : List V} (n : Nat), RepVs K LT L H ds vs → RepVs K LT L H (ds.drop n) (vs.drop n)
  | _, _, 0, r => r
  | _, _, _ + 1, .nil => .nil
  | _, _, n + 1, .cons _ t => RepVs.drop n t
theorem RepVs.set {d : D} {v : V} (r : RepV K LT L H d v) : ∀ {ds : List D} {vs : List V} (i : Nat), RepVs K LT L H ds vs → RepVs K LT L H (ds.set i d) (vs.set i v)
  | _, _, _, .nil => .nil
  | _, _, 0, .cons _ t => .cons r t
  | _, _, i + 1, .cons q t => .cons q (RepVs.set r i t)
theorem RepVs.cut {ds : List D} {vs : List V} (r : RepVs K LT L H ds vs) (lo hi : Option Int) : RepVs K LT L H (cutD ds lo hi) (cutV vs lo hi) := by
  unfold cutD cutV
  rw [r.length]
  exact (r.drop _).take _
theorem RepVs.rev : ∀ {ds : List D} {vs : List V}, RepVs K LT L H ds vs → RepVs K LT L H ds.reverse vs.reverse
  | _, _, .nil => .nil
  | _, _, .cons r t => by
    rw [List.reverse_cons, List.reverse_cons]
    exact (RepVs.rev t).app (.cons r .nil)
theorem RepVs.flatten : ∀ {dss : List (List D)} {vss : List (List V)}, Paired (RepVs K LT L H) dss vss → RepVs K LT L H dss.flatten vss.flatten
  | _, _, .nil => .nil
  | _, _, .cons r t => by
    rw [List.flatten_cons, List.flatten_cons]
    exact r.app (RepVs.flatten t)
theorem RepVs.rep {ds : List D} {vs : List V} (r : RepVs K LT L H ds vs) : ∀ n : Nat, RepVs K LT L H (List.replicate n ds).flatten (List.replicate n vs).flatten
  | 0 => .nil
  | n + 1 => by
    rw [List.replicate_succ, List.replicate_succ, List.flatten_cons, List.flatten_cons]
    exact r.app (RepVs.rep r n)
theorem RepVs.one {d : D} {vs : List V} (r : RepVs K LT L H [d] vs) : ∃ v, vs = [v] ∧ RepV K LT L H d v := by
  cases r with
  | cons r t => cases t; exact ⟨_, rfl, r⟩
theorem RepVs.two {d e : D} {vs : List V} (r : RepVs K LT L H [d, e] vs) : ∃ v w, vs = [v, w] ∧ RepV K LT L H d v ∧ RepV K LT L H e w := by
  cases r with
  | cons r t =>
    obtain ⟨w, rfl, r2⟩ := RepVs.one t
    exact ⟨_, _, rfl, r, r2⟩
theorem RepVs.ints : ∀ {ns : List Int} {vs : List V}, RepVs K LT L H (ns.map D.int) vs → vs = ns.map V.int
  | [], _, .nil => rfl
  | n :: ns, _, .cons r t => by cases r; rw [RepVs.ints t]; rfl
theorem RepVs.bls : ∀ {ns : List Bool} {vs : List V}, RepVs K LT L H (ns.map D.bl) vs → vs = ns.map V.bl
  | [], _, .nil => rfl
  | n :: ns, _, .cons r t => by cases r; rw [RepVs.bls t]; rfl
theorem repInts : ∀ ns : List Int, RepVs K LT L H (ns.map D.int) (ns.map V.int)
  | [] => .nil
  | n :: ns => .cons (.int n) (repInts ns)
end

/-! ### objects -/
def RepO (K : PySem.W.Frag) (LT : XAt) (L : List Addr) (H : Hp) : MO → Addr → Prop
  | .lst ds, a => ∃ vs, H a = some (.lst vs) ∧ RepVs K LT L H ds vs ∧ isDs ds = true
  | .dK kvs, a => ∃ ws : List (Key × V), H a = some (.dK ws) ∧ ws.map (·.1) = kvs.map (·.1) ∧ RepVs K LT L H (kvs.map (·.2)) (ws.map (·.2)) ∧ isDs (kvs.map (·.2)) = true
  | .dT kvs, a => ∃ ws : List (List Key × V), H a = some (.dT ws) ∧ ws.map (·.1) = kvs.map (·.1) ∧ RepVs K LT L H (kvs.map (·.2)) (ws.map (·.2)) ∧ isDs (kvs.map (·.2)) = true
def HO.plainMut : HO → Bool
  | .lst _ => true
  | .dK _ => true
  | .dT _ => true
  | _ => false
theorem RepO.mut {K : PySem.W.Frag} {LT : XAt} {L : List Addr} {H : Hp} {o : MO} {a : Addr} (r : RepO K LT L H o a) : ∃ u, H a = some u ∧ HO.plainMut u = true := by
  cases o with
  | lst ds => obtain ⟨vs, e, _⟩ := r; exact ⟨_, e, rfl⟩
  | dK ds => obtain ⟨vs, e, _⟩ := r; exact ⟨_, e, rfl⟩
  | dT ds => obtain ⟨vs, e, _⟩ := r; exact ⟨_, e, rfl⟩
structure SR (K : PySem.W.Frag) (LT : XAt) (T : List (Addr × Str)) (L : List Addr) (S : Store) (H : Hp) : Prop where
  len : L.length = S.length
  objs : ∀ (n : Nat) o a, S[n]? = some o → L[n]? = some a → RepO K LT L H o a
  sep : ∀ (n m : Nat) a, L[n]? = some a → L[m]? = some a → n = m
  tabs : LamX.Tabs T H
/-- what stays: all but the store's objects and the tables -/
structure Ext (L : List Addr) (H : Hp) (L' : List Addr) (H' : Hp) : Prop where
  pre : ∃ M, L' = L ++ M ∧ ∀ a ∈ M, ∀ o, H a = some o → a ∉ L → (∀ ps, o ≠ .tbl ps) → False
  keep : ∀ b o, H b = some o → b ∉ L → (∀ ps, o ≠ .tbl ps) → H' b = some o
section
variable {K : PySem.W.Frag} {LT : XAt} {T : List (Addr × Str)} {L L' L1 L2 : List Addr} {S S' : Store} {H H' H1 H2 : Hp} {d : D} {v : V}
theorem Ext.refl (L : List Addr) (H : Hp) : Ext L H L H := ⟨⟨[], by simp, fun a h => by cases h⟩, fun _ _ h _ _ => h⟩
theorem Ext.trans (a : Ext L H L1 H1) (b : Ext L1 H1 L2 H2) : Ext L H L2 H2 := by
  obtain ⟨⟨M, e, hm⟩, k⟩ := a
  obtain ⟨⟨M2, e2, hm2⟩, k2⟩ := b
  have n1 : ∀ c o, H c = some o → c ∉ L → (∀ ps, o ≠ .tbl ps) → c ∉ L1 := fun c o h n t z => by
    rw [e] at z
    rcases List.mem_append.mp z with z | z
    · exact n z
    · exact hm c z o h n t
  refine ⟨⟨M ++ M2, by rw [e2, e, List.append_assoc], fun c hc o h n t => ?_⟩, fun b o h n t => k2 b o (k b o h n t) (n1 b o h n t) t⟩
  rcases List.mem_append.mp hc with z | z
  · exact hm c z o h n t
  · exact hm2 c z o (k c o h n t) (n1 c o h n t) t
theorem Ext.notIn (e : Ext L H L' H') {b : Addr} {o : HO} (h : H b = some o) (n : b ∉ L) (t : ∀ ps, o ≠ .tbl ps) : b ∉ L' := fun z => by
  obtain ⟨M, rfl, hm⟩ := e.pre
  rcases List.mem_append.mp z with z | z
  · exact n z
  · exact hm b z o h n t
theorem Ext.get (e : Ext L H L' H') {n : Nat} {a : Addr} (h : L[n]? = some a) : L'[n]? = some a := by
  obtain ⟨M, rfl, _⟩ := e.pre
  rw [List.getElem?_append_left (List.getElem?_eq_some_iff.mp h).1]
  exact h
theorem SR.at_ (sr : SR K LT T L S H) {n : Nat} {a : Addr} (h : L[n]? = some a) : ∃ o, S[n]? = some o ∧ RepO K LT L H o a := by
  have hn : n < S.length := by rw [← sr.len]; exact (List.getElem?_eq_some_iff.mp h).1
  exact ⟨S[n], List.getElem?_eq_getElem hn, sr.objs n _ a (List.getElem?_eq_getElem hn) h⟩
theorem SR.addr (sr : SR K LT T L S H) {n : Nat} {o : MO} (h : S[n]? = some o) : ∃ a, L[n]? = some a ∧ RepO K LT L H o a := by
  have hn : n < L.length := by rw [sr.len]; exact (List.getElem?_eq_some_iff.mp h).1
  exact ⟨L[n], List.getElem?_eq_getElem hn, sr.objs n o _ h (List.getElem?_eq_getElem hn)⟩
theorem SR.notMut (sr : SR K LT T L S H) {b : Addr} {o : HO} (h : H b = some o) (p : HO.plainMut o = false) : b ∉ L := fun z => by
  obtain ⟨n, hn, e⟩ := List.mem_iff_getElem.mp z
  obtain ⟨mo, _, r⟩ := sr.at_ (n := n) (a := b) (by rw [List.getElem?_eq_getElem hn, e])
  obtain ⟨u, h1, h2⟩ := r.mut
  rw [h] at h1; cases h1
  rw [p] at h2; cases h2
theorem SR.notNone (sr : SR K LT T L S H) {b : Addr} (h : H b = none) : b ∉ L := fun z => by
  obtain ⟨n, hn, e⟩ := List.mem_iff_getElem.mp z
  obtain ⟨mo, _, r⟩ := sr.at_ (n := n) (a := b) (by rw [List.getElem?_eq_getElem hn, e])
  obtain ⟨u, h1, h2⟩ := r.mut
  rw [h] at h1; cases h1
/-- what is told of an unchanging object stays -/
theorem SR.keep (sr : SR K LT T L S H) (e : Ext L H L' H') {b : Addr} {o : HO} (h : H b = some o) (p : HO.plainMut o = false) (t : ∀ ps, o ≠ .tbl ps) : H' b = some o := e.keep b o h (sr.notMut h p) t
theorem SqT.ext (sr : SR K LT T L S H) (e : Ext L H L' H') {a : Addr} {xs : List V} (h : SqT K H a xs) : SqT K H' a xs := by
  rcases h with (h | ⟨o, h⟩) | h
  · exact .inl (.inl (sr.keep e h rfl (fun ps z => by cases z)))
  · exact .inl (.inr ⟨o, sr.keep e h rfl (fun ps z => by cases z)⟩)
  · exact .inr h
theorem HardT.ext (sr : SR K LT T L S H) (e : Ext L H L' H') {a : Addr} {xs : List V} (h : HardT H a xs) : HardT H' a xs := by
  obtain ⟨o, h1, h2⟩ := h
  exact ⟨o, sr.keep e h1 rfl (fun ps z => by cases z), h2⟩
theorem RolAt.ext (sr : SR K LT T L S H) (e : Ext L H L' H') {a : Addr} {xs : List V} (h : RolAt K H a xs) : RolAt K H' a xs := by
  rcases h with ⟨o, h⟩ | h
  · exact .inl ⟨o, sr.keep e h rfl (fun ps z => by cases z)⟩
  · exact .inr h
theorem CellsOk.ext (sr : SR K LT T L S H) (e : Ext L H L' H') {cl : List (Str × Addr)} {fr : List Str} {vs : List V} (h : CellsOk H cl fr vs) : CellsOk H' cl fr vs :=
  ⟨h.len, h.inj, h.all, fun i x v h1 h2 => by
    obtain ⟨c, oc, u, q1, q2, q3, q4⟩ := h.at_ i x v h1 h2
    exact ⟨c, oc, u, q1, sr.keep e q2 rfl (fun ps z => by unfold FixO at z; cases z), q3, q4⟩⟩
mutual
theorem RepV.ext (sr : SR K LT T L S H) (e : Ext L H L' H') : ∀ {d : D} {v : V}, RepV K LT L H d v → RepV K LT L' H' d v
  | _, _, .non => .non
  | _, _, .bl b => .bl b
  | _, _, .int i => .int i
  | _, _, .str x => .str x
  | _, _, .tup h hd ho r => .tup (SqT.ext sr e h) (fun z => HardT.ext sr e (hd z)) (fun z => sr.keep e (ho z) rfl (fun ps z => by cases z)) (RepVs.ext sr e r)
  | _, _, .rol h r => .rol (RolAt.ext sr e h) (RepVs.ext sr e r)
  | _, _, .ref h => .ref (e.get h)
  | _, _, .clo h2 h3 h4 r => .clo (sr.keep e h2 rfl (fun ps z => by unfold FixO at z; cases z)) (sr.keep e h3 rfl (fun ps z => by unfold LamX.CodeO at z; cases z)) (h4.ext sr e) (RepVs.ext sr e r)
  | _, _, .exn h => .exn h
theorem RepVs.ext (sr : SR K LT T L S H) (e : Ext L H L' H') : ∀ {ds : List D} {vs : List V}, RepVs K LT L H ds vs → RepVs K LT L' H' ds vs
  | _, _, .nil => .nil
  | _, _, .cons r t => .cons (RepV.ext sr e r) (RepVs.ext sr e t)
end
theorem RepO.ext (sr : SR K LT T L S H) (e : Ext L H L' H') {o : MO} {a : Addr} (r : RepO K LT L H o a) (h : ∀ u, H a = some u → H' a = some u) : RepO K LT L' H' o a := by
  cases o with
  | lst ds => obtain ⟨vs, q1, q2, q3⟩ := r; exact ⟨vs, h _ q1, q2.ext sr e, q3⟩
  | dK kvs => obtain ⟨vs, q1, q2, q3, q4⟩ := r; exact ⟨vs, h _ q1, q2, q3.ext sr e, q4⟩
  | dT kvs => obtain ⟨vs, q1, q2, q3, q4⟩ := r; exact ⟨vs, h _ q1, q2, q3.ext sr e, q4⟩
theorem tabs_same (t : LamX.Tabs T H) (h : ∀ b o, H b = some o → H' b = some o) : LamX.Tabs T H' := t.ext h
/-- a new object, not of the store -/
theorem Ext.new {p : Addr} {o : HO} (hp : H p = none) : Ext L H L (upd H p o) := ⟨⟨[], by simp, fun a h => by cases h⟩, fun b u h _ _ => by rw [upd_ne (ne_of_none h hp)]; exact h⟩
theorem SR.new {p : Addr} {o : HO} (sr : SR K LT T L S H) (hp : H p = none) : SR K LT T L S (upd H p o) :=
  ⟨sr.len, fun n mo a h1 h2 => RepO.ext sr (Ext.new hp) (sr.objs n mo a h1 h2) fun u h => by rw [upd_ne (ne_of_none h hp)]; exact h, sr.sep, sr.tabs.ext fun b u h => by rw [upd_ne (ne_of_none h hp)]; exact h⟩
/-- a new list, of the store from now on (it may stand already, if nobody of the store is it) -/
theorem Ext.adopt {p : Addr} (hp : ∀ o, H p = some o → p ∉ L → (∀ ps, o ≠ .tbl ps) → False) : Ext L H (L ++ [p]) H :=
  ⟨⟨[p], rfl, fun a h => by rw [List.mem_singleton.mp h]; exact hp⟩, fun _ _ h _ _ => h⟩
theorem SR.alloc {p : Addr} {ds : List D} {vs : List V} (sr : SR K LT T L S H) (hp : H p = none) (r : RepVs K LT L H ds vs) (hd : isDs ds = true) :
    SR K LT T (L ++ [p]) (S ++ [.lst ds]) (upd H p (.lst vs)) ∧ Ext L H (L ++ [p]) (upd H p (.lst vs)) := by
  have e : Ext L H (L ++ [p]) (upd H p (.lst vs)) := ⟨⟨[p], rfl, fun a h o q => by rw [List.mem_singleton.mp h, hp] at q; cases q⟩, fun b u h _ _ => by rw [upd_ne (ne_of_none h hp)]; exact h⟩
  have np := sr.notNone hp
  refine ⟨⟨by rw [List.length_append, List.length_append, sr.len]; rfl, fun n mo a h1 h2 => ?_, fun n m a h1 h2 => ?_, sr.tabs.ext fun b u h => by rw [upd_ne (ne_of_none h hp)]; exact h⟩, e⟩
  · by_cases hn : n < S.length
    · rw [List.getElem?_append_left hn] at h1
      rw [List.getElem?_append_left (by rw [sr.len]; exact hn)] at h2
      exact RepO.ext sr e (sr.objs n mo a h1 h2) fun u h => by rw [upd_ne (ne_of_none h hp)]; exact h
    · rw [List.getElem?_append_right (by omega)] at h1
      rw [List.getElem?_append_right (by rw [sr.len]; omega), sr.len] at h2
      cases q : n - S.length with
      | zero =>
        rw [q] at h1 h2
        cases h1
        cases h2
        exact ⟨vs, upd_same, r.ext sr e, hd⟩
      | succ m => rw [q] at h1; cases h1
  · have key : ∀ (n : Nat), (L ++ [p])[n]? = some a → (L[n]? = some a) ∨ (n = L.length ∧ a = p) := fun n h => by
      by_cases hn : n < L.length
      · rw [List.getElem?_append_left hn] at h; exact .inl h
      · rw [List.getElem?_append_right (by omega)] at h
        cases q : n - L.length with
        | zero => rw [q] at h; cases h; exact .inr ⟨by omega, rfl⟩
        | succ m => rw [q] at h; cases h
    rcases key n h1 with k1 | ⟨k1, k1'⟩ <;> rcases key m h2 with k2 | ⟨k2, k2'⟩
    · exact sr.sep n m a k1 k2
    · exact absurd (List.mem_of_getElem? k1) (by rw [k2']; exact np)
    · exact absurd (List.mem_of_getElem? k2) (by rw [k1']; exact np)
    · omega
/-- a list of the store is written -/
theorem SR.write {n : Nat} {a : Addr} {ds0 ds : List D} {vs : List V} (sr : SR K LT T L S H) (hl : L[n]? = some a) (hs : S[n]? = some (.lst ds0)) (r : RepVs K LT L H ds vs) (hd : isDs ds = true) :
    SR K LT T L (S.set n (.lst ds)) (upd H a (.lst vs)) ∧ Ext L H L (upd H a (.lst vs)) := by
  have ha : a ∈ L := List.mem_of_getElem? hl
  have e : Ext L H L (upd H a (.lst vs)) := ⟨⟨[], by simp, fun a h => by cases h⟩, fun b u h nb _ => by rw [upd_ne (fun z => nb (by rw [z]; exact ha))]; exact h⟩
  obtain ⟨vs0, h0, _⟩ := sr.objs n _ a hs hl
  have keepN : ∀ b u, H b = some u → HO.plainMut u = false → upd H a (.lst vs) b = some u := fun b u h p => by
    rw [upd_ne (fun z => by rw [z, h0] at h; cases h; cases p)]; exact h
  refine ⟨⟨by rw [List.length_set]; exact sr.len, fun m mo b h1 h2 => ?_, sr.sep, fun p hp => ?_⟩, e⟩
  · by_cases hm : m = n
    · subst hm
      have hb : b = a := Option.some.inj (h2.symm.trans hl)
      subst hb
      rw [List.getElem?_set_self (List.getElem?_eq_some_iff.mp hs).1] at h1
      cases h1
      exact ⟨vs, upd_same, r.ext sr e, hd⟩
    · rw [List.getElem?_set_ne (Ne.symm hm)] at h1
      have nb : b ≠ a := fun z => hm (sr.sep m n b h2 (by rw [z]; exact hl))
      exact RepO.ext sr e (sr.objs m mo b h1 h2) fun u h => by rw [upd_ne nb]; exact h
  · obtain ⟨ps, q1, q2, q3⟩ := sr.tabs p hp
    refine ⟨ps, keepN _ _ q1 rfl, q2, fun pos cv hc => ?_⟩
    obtain ⟨c, e1, e2⟩ := q3 pos cv hc
    exact ⟨c, e1, keepN _ _ e2 (by unfold LamX.CodeO; rfl)⟩
end

section
variable {K : PySem.W.Frag} {LT : XAt} {T : List (Addr × Str)} {L L' : List Addr} {S S' : Store} {H H' : Hp}
/-- any object is laid -/
theorem SR.allocO {p : Addr} {mo : MO} {ho : HO} (sr : SR K LT T L S H) (hp : H p = none) (hr : RepO K LT (L ++ [p]) (upd H p ho) mo p) :
    SR K LT T (L ++ [p]) (S ++ [mo]) (upd H p ho) ∧ Ext L H (L ++ [p]) (upd H p ho) := by
  have e : Ext L H (L ++ [p]) (upd H p ho) := ⟨⟨[p], rfl, fun a h o q => by rw [List.mem_singleton.mp h, hp] at q; cases q⟩, fun b u h _ _ => by rw [upd_ne (ne_of_none h hp)]; exact h⟩
  have np := sr.notNone hp
  refine ⟨⟨by rw [List.length_append, List.length_append, sr.len]; rfl, fun n mo a h1 h2 => ?_, fun n m a h1 h2 => ?_, sr.tabs.ext fun b u h => by rw [upd_ne (ne_of_none h hp)]; exact h⟩, e⟩
  · by_cases hn : n < S.length
    · rw [List.getElem?_append_left hn] at h1
      rw [List.getElem?_append_left (by rw [sr.len]; exact hn)] at h2
      exact RepO.ext sr e (sr.objs n mo a h1 h2) fun u h => by rw [upd_ne (ne_of_none h hp)]; exact h
    · rw [List.getElem?_append_right (by omega)] at h1
      rw [List.getElem?_append_right (by rw [sr.len]; omega), sr.len] at h2
      cases q : n - S.length with
      | zero =>
        rw [q] at h1 h2
        cases h1
        cases h2
        exact hr
      | succ m => rw [q] at h1; cases h1
  · have key : ∀ (n : Nat), (L ++ [p])[n]? = some a → (L[n]? = some a) ∨ (n = L.length ∧ a = p) := fun n h => by
      by_cases hn : n < L.length
      · rw [List.getElem?_append_left hn] at h; exact .inl h
      · rw [List.getElem?_append_right (by omega)] at h
        cases q : n - L.length with
        | zero => rw [q] at h; cases h; exact .inr ⟨by omega, rfl⟩
        | succ m => rw [q] at h; cases h
    rcases key n h1 with k1 | ⟨k1, k1'⟩ <;> rcases key m h2 with k2 | ⟨k2, k2'⟩
    · exact sr.sep n m a k1 k2
    · exact absurd (List.mem_of_getElem? k1) (by rw [k2']; exact np)
    · exact absurd (List.mem_of_getElem? k2) (by rw [k1']; exact np)
    · omega
/-- what a write leaves as it was -/
theorem SR.writeExt {n : Nat} {a : Addr} {ho : HO} (hl : L[n]? = some a) : Ext L H L (upd H a ho) :=
  ⟨⟨[], by simp, fun a h => by cases h⟩, fun b u h nb _ => by rw [upd_ne (fun z => nb (by rw [z]; exact List.mem_of_getElem? hl))]; exact h⟩
/-- an object of the store is written -/
theorem SR.writeO {n : Nat} {a : Addr} {mo0 mo : MO} {ho : HO} (sr : SR K LT T L S H) (hl : L[n]? = some a) (hs : S[n]? = some mo0) (hr : RepO K LT L (upd H a ho) mo a) :
    SR K LT T L (S.set n mo) (upd H a ho) := by
  have e : Ext L H L (upd H a ho) := SR.writeExt hl
  obtain ⟨u0, h0, p0⟩ := (sr.objs n _ a hs hl).mut
  have keepN : ∀ b u, H b = some u → HO.plainMut u = false → upd H a ho b = some u := fun b u h p => by
    rw [upd_ne (fun z => by rw [z, h0] at h; cases h; rw [p0] at p; cases p)]; exact h
  refine ⟨by rw [List.length_set]; exact sr.len, fun m mo' b h1 h2 => ?_, sr.sep, fun p hp => ?_⟩
  · by_cases hm : m = n
    · subst hm
      have hb : b = a := Option.some.inj (h2.symm.trans hl)
      subst hb
      rw [List.getElem?_set_self (List.getElem?_eq_some_iff.mp hs).1] at h1
      cases h1
      exact hr
    · rw [List.getElem?_set_ne (Ne.symm hm)] at h1
      have nb : b ≠ a := fun z => hm (sr.sep m n b h2 (by rw [z]; exact hl))
      exact RepO.ext sr e (sr.objs m mo' b h1 h2) fun u h => by rw [upd_ne nb]; exact h
  · obtain ⟨ps, q1, q2, q3⟩ := sr.tabs p hp
    refine ⟨ps, keepN _ _ q1 rfl, q2, fun pos cv hc => ?_⟩
    obtain ⟨c, e1, e2⟩ := q3 pos cv hc
    exact ⟨c, e1, keepN _ _ e2 (by unfold LamX.CodeO; rfl)⟩
/-! ### dicts -/
theorem keyD_rep {d : D} {v : V} {k : Key} (r : RepV K LT L H d v) (h : keyD d = some k) : v = kV k := by
  cases r <;> simp only [keyD, Option.some.injEq, reduceCtorEq] at h <;> subst h <;> rfl
theorem keysD_rep : ∀ {ds : List D} {vs : List V} {k : List Key}, RepVs K LT L H ds vs → keysD ds = some k → vs = k.map kV
  | _, _, k, .nil, h => by cases h; rfl
  | _, _, k, .cons (d := d) (ds := ds) r t, h => by
    unfold keysD at h
    cases q : keyD d with
    | none => rw [q] at h; cases h
    | some k1 =>
      cases q2 : keysD ds with
      | none => rw [q, q2] at h; cases h
      | some ks =>
        rw [q, q2] at h
        cases h
        rw [keyD_rep r q, keysD_rep t q2]; rfl
theorem val_rep {κ : Type} [DecidableEq κ] {k : κ} : ∀ {kvs : List (κ × D)} {ws : List (κ × V)}, ws.map (·.1) = kvs.map (·.1) → RepVs K LT L H (kvs.map (·.2)) (ws.map (·.2)) →
    (valD kvs k = none ∧ valV ws k = none) ∨ ∃ d v, valD kvs k = some d ∧ valV ws k = some v ∧ RepV K LT L H d v
  | [], [], _, _ => .inl ⟨rfl, rfl⟩
  | [], _ :: _, e, _ => by cases e
  | _ :: _, [], e, _ => by cases e
  | (a, d) :: kvs, (b, v) :: ws, e, r => by
    simp only [List.map_cons, List.cons.injEq] at e
    obtain ⟨e1, e2⟩ := e
    subst e1
    cases r with
    | cons r t =>
      by_cases h : b = k
      · right
        exact ⟨d, v, by simp [valD, List.find?_cons, h], by simp [valV, List.find?_cons, h], r⟩
      · have := val_rep (k := k) e2 t
        simpa [valD, valV, List.find?_cons, h] using this
theorem put_rep {κ : Type} [DecidableEq κ] {k : κ} {d : D} {v : V} (rv : RepV K LT L H d v) {kvs : List (κ × D)} {ws : List (κ × V)} (e : ws.map (·.1) = kvs.map (·.1)) (r : RepVs K LT L H (kvs.map (·.2)) (ws.map (·.2))) :
    (putK ws k v).map (·.1) = (putD kvs k d).map (·.1) ∧ RepVs K LT L H ((putD kvs k d).map (·.2)) ((putK ws k v).map (·.2)) := by
  have hany : (ws.any fun kv => decide (kv.1 = k)) = kvs.any fun kv => decide (kv.1 = k) := by
    have h1 : (ws.any fun kv => decide (kv.1 = k)) = (ws.map (·.1)).any fun x => decide (x = k) := by rw [List.any_map]; rfl
    have h2 : (kvs.any fun kv => decide (kv.1 = k)) = (kvs.map (·.1)).any fun x => decide (x = k) := by rw [List.any_map]; rfl
    rw [h1, h2, e]
  unfold putK putD
  rw [hany]
  split
  · rename_i hx
    clear hx hany
    induction kvs generalizing ws with
    | nil => cases ws with
      | nil => exact ⟨rfl, .nil⟩
      | cons _ _ => cases e
    | cons p kvs ih => cases ws with
      | nil => cases e
      | cons q ws =>
        simp only [List.map_cons, List.cons.injEq] at e
        cases r with
        | cons r t =>
          obtain ⟨i1, i2⟩ := ih e.2 t
          by_cases h : p.1 = k
          · have h' : q.1 = k := e.1.trans h
            simp only [List.map_cons, h, h', if_true]
            exact ⟨by rw [i1], .cons rv i2⟩
          · have h' : ¬ q.1 = k := fun z => h (e.1.symm.trans z)
            simp only [List.map_cons, h, h', if_false]
            exact ⟨by rw [i1, e.1], .cons r i2⟩
  · exact ⟨by rw [List.map_append, List.map_append, e]; rfl, by rw [List.map_append, List.map_append]; exact r.app (.cons rv .nil)⟩
theorem isDs_put {κ : Type} [DecidableEq κ] {k : κ} {d : D} (hd : isD d = true) : ∀ {kvs : List (κ × D)}, isDs (kvs.map (·.2)) = true → isDs ((putD kvs k d).map (·.2)) = true := by
  intro kvs h
  have h1 : ∀ (l m : List D), isDs l = true → isDs m = true → isDs (l ++ m) = true := by
    intro l
    induction l with
    | nil => intro m _ h; exact h
    | cons x l ih =>
      intro m a b
      simp only [List.cons_append, isDs, Bool.and_eq_true] at a ⊢
      exact ⟨a.1, ih m a.2 b⟩
  unfold putD
  split
  · rename_i hx
    clear hx h1
    induction kvs with
    | nil => rfl
    | cons p kvs ih =>
      simp only [List.map_cons, isDs, Bool.and_eq_true] at h ⊢
      refine ⟨?_, ih h.2⟩
      split
      · exact hd
      · exact h.1
  · rw [List.map_append]
    exact h1 _ _ h (by simp only [List.map_cons, List.map_nil, isDs, hd, Bool.and_self])
/-- a dict of the store at a key, in the heap -/
theorem dget_rep {x y : D} {v u : V} {o : Option D} (sr : SR K LT T L S H) (rx : RepV K LT L H x v) (ry : RepV K LT L H y u) (h : dgetO x y S = some o) :
    ∃ a ov, v = .ref a ∧ DGet H a u ov ∧ ((o = none ∧ ov = none) ∨ ∃ d w, o = some d ∧ ov = some w ∧ RepV K LT L H d w) := by
  cases rx with
  | @ref n a hl =>
    unfold dgetO at h
    dsimp only at h
    cases q : S[n]? with
    | none => rw [q] at h; cases h
    | some mo =>
      rw [q] at h
      have ro := sr.objs n mo a q hl
      cases mo with
      | lst ds => cases h
      | dK kvs =>
        obtain ⟨ws, h1, h2, h3, _⟩ := ro
        dsimp only at h
        cases qk : keyD y with
        | none => rw [qk] at h; cases h
        | some k =>
          rw [qk] at h
          cases h
          refine ⟨a, valV ws k, rfl, by rw [keyD_rep ry qk]; exact DGet.k h1, ?_⟩
          rcases val_rep (k := k) h2 h3 with ⟨e1, e2⟩ | ⟨d, w, e1, e2, e3⟩
          · exact .inl ⟨e1, e2⟩
          · exact .inr ⟨d, w, e1, e2, e3⟩
      | dT kvs =>
        obtain ⟨ws, h1, h2, h3, _⟩ := ro
        dsimp only at h
        cases ry with
        | @tup f b us ds hq hd ho rr =>
          cases f with
          | own =>
            dsimp only at h
            cases qk : keysD ds with
            | none => rw [qk] at h; cases h
            | some k =>
              rw [qk] at h
              cases h
              refine ⟨a, valV ws k, rfl, DGet.t h1 (by rw [← keysD_rep rr qk]; exact ho rfl), ?_⟩
              rcases val_rep (k := k) h2 h3 with ⟨e1, e2⟩ | ⟨d, w, e1, e2, e3⟩
              · exact .inl ⟨e1, e2⟩
              · exact .inr ⟨d, w, e1, e2, e3⟩
          | any => cases h
          | hard => cases h
        | _ => cases h
  | _ => cases h
end
/-! ### slots -/
structure ER (K : PySem.W.Frag) (LT : XAt) (L : List Addr) (H : Hp) (ρ : Env) (σ : L2.St) : Prop where
  len : ρ.length = σ.length
  at_ : ∀ (i : Nat) d, slot ρ i = some d → ∃ v, σ[i]? = some (some v) ∧ RepV K LT L H d v
theorem slot_get : ∀ {ρ : Env} {i : Nat}, slot ρ i = (ρ[i]?).getD none
  | [], i => by cases i <;> rfl
  | d :: r, 0 => rfl
  | d :: r, i + 1 => by
    show slot r i = _
    rw [slot_get, List.getElem?_cons_succ]
theorem slot_set {ρ : Env} {i j : Nat} {d : Option D} : slot (ρ.set i d) j = if i = j then (if i < ρ.length then d else none) else slot ρ j := by
  rw [slot_get, slot_get]
  by_cases h : i = j
  · subst h
    rw [if_pos rfl]
    by_cases hl : i < ρ.length
    · rw [List.getElem?_set_self hl, if_pos hl]; rfl
    · rw [List.getElem?_eq_none (by rw [List.length_set]; omega), if_neg hl]; rfl
  · rw [if_neg h, List.getElem?_set_ne h]
section
variable {K : PySem.W.Frag} {LT : XAt} {T : List (Addr × Str)} {L L' : List Addr} {S S' : Store} {H H' : Hp} {d : D} {v : V} {ρ : Env} {σ : L2.St}
theorem ER.ext (er : ER K LT L H ρ σ) (sr : SR K LT T L S H) (e : Ext L H L' H') : ER K LT L' H' ρ σ :=
  ⟨er.len, fun i d h => let ⟨v, h1, h2⟩ := er.at_ i d h; ⟨v, h1, h2.ext sr e⟩⟩
theorem ER.set (er : ER K LT L H ρ σ) (i : Nat) (r : RepV K LT L H d v) : ER K LT L H (ρ.set i (some d)) (σ.set i (some v)) := by
  refine ⟨by rw [List.length_set, List.length_set, er.len], fun j e h => ?_⟩
  rw [slot_set] at h
  by_cases hj : i = j
  · subst hj
    rw [if_pos rfl] at h
    by_cases hl : i < ρ.length
    · rw [if_pos hl] at h
      cases h
      exact ⟨v, List.getElem?_set_self (by rw [← er.len]; exact hl), r⟩
    · rw [if_neg hl] at h; cases h
  · rw [if_neg hj] at h
    obtain ⟨w, h1, h2⟩ := er.at_ j e h
    exact ⟨w, by rw [List.getElem?_set_ne hj]; exact h1, h2⟩
theorem ER.wipe (er : ER K LT L H ρ σ) : ∀ vs : List Nat, ER K LT L H (wipeD ρ vs) (L2.wipe σ vs)
  | [] => er
  | i :: vs => by
    have ih := ER.wipe er vs
    refine ⟨by unfold wipeD L2.wipe; rw [List.length_set, List.length_set, ih.len], fun j e h => ?_⟩
    unfold wipeD at h
    rw [slot_set] at h
    by_cases hj : i = j
    · rw [if_pos hj] at h
      by_cases hl : i < (wipeD ρ vs).length
      · rw [if_pos hl] at h; cases h
      · rw [if_neg hl] at h; cases h
    · rw [if_neg hj] at h
      obtain ⟨w, h1, h2⟩ := ih.at_ j e h
      exact ⟨w, by unfold L2.wipe; rw [List.getElem?_set_ne hj]; exact h1, h2⟩
theorem ER.start {ds : List D} {vs : List V} (r : RepVs K LT L H ds vs) (N : List Str) (n : Nat) (h : n = N.length) : ER K LT L H (ds.map some ++ List.replicate (n - ds.length) none) (L2.start N vs) := by
  subst h
  refine ⟨by unfold L2.start; simp only [List.length_append, List.length_map, List.length_replicate, r.length], fun i d h => ?_⟩
  rw [slot_get] at h
  unfold L2.start
  by_cases hi : i < ds.length
  · rw [List.getElem?_append_left (by simpa using hi), List.getElem?_map] at h
    obtain ⟨d', hd'⟩ : ∃ d', ds[i]? = some d' := ⟨_, List.getElem?_eq_getElem hi⟩
    rw [hd'] at h
    have e : d' = d := Option.some.inj h
    subst e
    obtain ⟨v, h1, h2⟩ := r.get hd'
    refine ⟨v, ?_, h2⟩
    rw [List.getElem?_append_left (by rw [List.length_map, ← r.length]; exact hi), List.getElem?_map, h1]
    rfl
  · rw [List.getElem?_append_right (by simpa using hi), List.getElem?_replicate] at h
    split at h <;> cases h
end

/-! ### what a reading of a combinator asks -/
/-- classes without an __init__ of their own: their errors have no dict -/
def plainX (c : Str) : Bool := !(["BadEdits", "BadRows", "BadScript", "BadText", "NotAhead", "StillUsed", "TooMany"].map Str.ofString).contains c
abbrev DX (c : Str) : Type := { dx : Option Addr // plainX c = false ∨ dx = none }
/-- the caller's wish about exceptions -/
abbrev XW := Value → Option Addr → Hp → Prop
section
variable (K : PySem.W.Frag) (LT : XAt) (T : List (Addr × Str))
def Post (L : List Addr) (H : Hp) (W : XW) (r : R D) (Q : VK) : Prop := match r with
  | .ok d S' => ∀ v H' L', RepV K LT L' H' d v → SR K LT T L' S' H' → Ext L H L' H' → Q v H'
  | .exc c S' => ∀ (dx : DX c) H' L', SR K LT T L' S' H' → Ext L H L' H' → W (.ref (He.ga K c)) dx.1 H'
  | .bad => False
def PostA (L : List Addr) (H : Hp) (W : XW) (r : R (List D)) (Q : List V → Hp → Prop) : Prop := match r with
  | .ok ds S' => ∀ vs H' L', RepVs K LT L' H' ds vs → SR K LT T L' S' H' → Ext L H L' H' → Q vs H'
  | .exc c S' => ∀ (dx : DX c) H' L', SR K LT T L' S' H' → Ext L H L' H' → W (.ref (He.ga K c)) dx.1 H'
  | .bad => False
/-- a value without an object of its own -/
def PostP {α : Type} (L : List Addr) (H : Hp) (W : XW) (r : R α) (Q : α → Hp → Prop) : Prop := match r with
  | .ok a S' => ∀ H' L', SR K LT T L' S' H' → Ext L H L' H' → Q a H'
  | .exc c S' => ∀ (dx : DX c) H' L', SR K LT T L' S' H' → Ext L H L' H' → W (.ref (He.ga K c)) dx.1 H'
  | .bad => False
/-- a new list that the store does not hold -/
def PostL (L : List Addr) (H : Hp) (W : XW) (r : R (List D)) (Q : VK) : Prop := match r with
  | .ok ds S' => ∀ a vs H' L', H' a = some (.lst vs) → a ∉ L' → (∀ o, H a = some o → a ∉ L → (∀ ps, o ≠ .tbl ps) → False) → RepVs K LT L' H' ds vs → SR K LT T L' S' H' → Ext L H L' H' → Q (.ref a) H'
  | .exc c S' => ∀ (dx : DX c) H' L', SR K LT T L' S' H' → Ext L H L' H' → W (.ref (He.ga K c)) dx.1 H'
  | .bad => False
abbrev at_ (W : WX) (σ : L2.St) : XW := fun c d H => W c d σ H
def tE (f : Ex) (W : WX) : TE := fun σ H Q => ∃ ρ S L, ER K LT L H ρ σ ∧ SR K LT T L S H ∧ Post K LT T L H (at_ W σ) (f ρ S) Q
def tT (f : Ts) (W : WX) : TT := fun σ H Q => ∃ ρ S L, ER K LT L H ρ σ ∧ SR K LT T L S H ∧ PostP K LT T L H (at_ W σ) (f ρ S) Q
def tA (f : Ar) (W : WX) : TA := fun σ H Q => ∃ ρ S L, ER K LT L H ρ σ ∧ SR K LT T L S H ∧ PostA K LT T L H (at_ W σ) (f ρ S) Q
def tL (f : Ar) (W : WX) : TE := fun σ H Q => ∃ ρ S L, ER K LT L H ρ σ ∧ SR K LT T L S H ∧ PostL K LT T L H (at_ W σ) (f ρ S) Q
def tP (f : Pt) (W : WX) : TO := fun σ H Q => ∃ ρ S L, ER K LT L H ρ σ ∧ SR K LT T L S H ∧ PostP K LT T L H (at_ W σ) (f ρ S) Q
end
section
variable {K : PySem.W.Frag} {LT : XAt} {T : List (Addr × Str)} {L L1 : List Addr} {H H1 : Hp} {W : XW}
theorem Post.weak {r : R D} {Q : VK} (h : Post K LT T L H W r Q) (e : Ext L H L1 H1) : Post K LT T L1 H1 W r Q := by
  cases r with
  | ok d S => exact fun v H' L' r1 s1 e1 => h v H' L' r1 s1 (e.trans e1)
  | exc c S => exact fun dx H' L' s1 e1 => h dx H' L' s1 (e.trans e1)
  | bad => exact h
theorem PostP.weak {α : Type} {r : R α} {Q : α → Hp → Prop} (h : PostP K LT T L H W r Q) (e : Ext L H L1 H1) : PostP K LT T L1 H1 W r Q := by
  cases r with
  | ok d S => exact fun H' L' s1 e1 => h H' L' s1 (e.trans e1)
  | exc c S => exact fun dx H' L' s1 e1 => h dx H' L' s1 (e.trans e1)
  | bad => exact h
theorem PostA.weak {r : R (List D)} {Q : List V → Hp → Prop} (h : PostA K LT T L H W r Q) (e : Ext L H L1 H1) : PostA K LT T L1 H1 W r Q := by
  cases r with
  | ok d S => exact fun vs H' L' r1 s1 e1 => h vs H' L' r1 s1 (e.trans e1)
  | exc c S => exact fun dx H' L' s1 e1 => h dx H' L' s1 (e.trans e1)
  | bad => exact h
theorem PostL.weak {r : R (List D)} {Q : VK} (h : PostL K LT T L H W r Q) (e : Ext L H L1 H1) (sr : ∃ S, SR K LT T L S H) : PostL K LT T L1 H1 W r Q := by
  cases r with
  | ok d S => exact fun a vs H' L' h1 h2 h3 r1 s1 e1 => h a vs H' L' h1 h2 (fun o q n t => h3 o (e.keep a o q n t) (e.notIn q n t) t) r1 s1 (e.trans e1)
  | exc c S => exact fun dx H' L' s1 e1 => h dx H' L' s1 (e.trans e1)
  | bad => exact h
end
end Pf
end

section
set_option Elab.async false
set_option linter.all false
set_option maxRecDepth 100000
set_option maxHeartbeats 1000000
/-! P3: the operators, built-ins and methods by values. -/
namespace Pf
open PySem PySem.Spec PyProof.Rows L2
section
variable {K : PySem.W.Frag} {LT : XAt} {T : List (Addr × Str)} {L : List Addr} {S : Store} {H : Hp}
mutual
theorem dp_of : ∀ (n : Nat) {d : D} {v : V}, okD n d = true → RepV K LT L H d v → Dp K H v (toPy d)
  | _, .non, _, _, .non => .non
  | _, .bl b, _, _, .bl _ => .bl b
  | _, .int i, _, _, .int _ => .int i
  | _, .str x, _, _, .str _ => .str x
  | n + 1, .tup _ ds, _, h, .tup hq _ _ r => .tup hq (dps_of n (by simpa [okD] using h) r)
  | n + 1, .rol ds, _, h, .rol hq r => .lst hq.sq (dps_of n (by simpa [okD] using h) r)
  | 0, .tup _ ds, _, h, _ => by simp [okD] at h
  | 0, .rol ds, _, h, _ => by simp [okD] at h
  | n, .ref _, _, h, _ => by cases n <;> simp [okD] at h
  | n, .clo _ _, _, h, _ => by cases n <;> simp [okD] at h
theorem dps_of : ∀ (n : Nat) {ds : List D} {vs : List V}, okDs n ds = true → RepVs K LT L H ds vs → DpAll K H vs (toPys ds)
  | _, [], _, _, .nil => .nil
  | n, d :: ds, _, h, .cons r t => by
    have h' : okD n d = true ∧ okDs n ds = true := by cases n <;> simpa [okDs] using h
    exact .cons (dp_of n h'.1 r) (dps_of n h'.2 t)
end
mutual
theorem lay_of : ∀ (n : Nat) (d : D), okD n d = true → (toPy d).canLay0 = true ∧ (toPy d).depth ≤ n
  | n, .non, _ => ⟨rfl, Nat.zero_le _⟩
  | n, .bl b, _ => ⟨rfl, Nat.zero_le _⟩
  | n, .int i, _ => ⟨rfl, Nat.zero_le _⟩
  | n, .str x, h => ⟨by cases n <;> simpa [okD, toPy] using h, Nat.zero_le _⟩
  | n + 1, .tup _ ds, h => by
    have q := lays_of n ds (by simpa [okD] using h)
    exact ⟨by simp only [toPy, PyData.canLay0]; exact q.1, by simp only [toPy, PyData.depth]; omega⟩
  | n + 1, .rol ds, h => by
    have q := lays_of n ds (by simpa [okD] using h)
    exact ⟨by simp only [toPy, PyData.canLay0]; exact q.1, by simp only [toPy, PyData.depth]; omega⟩
  | 0, .tup _ ds, h => by simp [okD] at h
  | 0, .rol ds, h => by simp [okD] at h
  | n, .ref _, h => by cases n <;> simp [okD] at h
  | n, .clo _ _, h => by cases n <;> simp [okD] at h
theorem lays_of : ∀ (n : Nat) (ds : List D), okDs n ds = true → PyData.canLayAll0 (toPys ds) = true ∧ PyData.depthAll (toPys ds) ≤ n
  | n, [], _ => ⟨by simp [toPys, PyData.canLayAll0], by simp [toPys, PyData.depthAll]⟩
  | n, d :: ds, h => by
    have h' : okD n d = true ∧ okDs n ds = true := by cases n <;> simpa [okDs] using h
    have q1 := lay_of n d h'.1
    have q2 := lays_of n ds h'.2
    exact ⟨by simp only [toPys, PyData.canLayAll0, q1.1, q2.1, Bool.and_self], by simp only [toPys, PyData.depthAll]; omega⟩
end
theorem shaped_of {n : Nat} {d : D} (h : okD n d = true) (hn : n ≤ 64) : SeqAt.shaped (toPy d) = true := by
  have q := lay_of n d h
  show ((toPy d).canLay0 && decide ((toPy d).depth ≤ 64)) = true
  rw [Bool.and_eq_true]
  exact ⟨q.1, decide_eq_true (by omega)⟩
/-- a list's number, read -/
theorem dp_drf (sr : SR K LT T L S H) {n : Nat} {d : D} {v : V} (h : okD n (drf S d) = true) (r : RepV K LT L H d v) : Dp K H v (toPy (drf S d)) := by
  cases d with
  | ref m =>
    unfold drf at h ⊢
    dsimp only at h ⊢
    cases q : S[m]? with
    | none =>
      rw [q] at h
      cases n <;> simp [okD] at h
    | some o =>
      rw [q] at h
      cases o with
      | lst ds =>
        cases r with
        | ref hl =>
          obtain ⟨vs, h1, h2, _⟩ := sr.objs m _ _ q hl
          cases n with
          | zero => simp [okD] at h
          | succ n => exact .lst (SqL.of h1) (dps_of n (by simpa [okD] using h) h2)
      | dK kvs => cases n <;> simp [okD] at h
      | dT kvs => cases n <;> simp [okD] at h
  | _ => exact dp_of n h r
/-- the items of what stands -/
theorem items_of (sr : SR K LT T L S H) {d : D} {v : V} {ds : List D} (h : itemsOf S d = some ds) (r : RepV K LT L H d v) :
    ∃ a vs, v = .ref a ∧ RepVs K LT L H ds vs ∧ (SqL K H a vs ∨ SqT K H a vs) := by
  cases d with
  | tup nb es =>
    cases h
    cases r with
    | tup hq _ _ rs => exact ⟨_, _, rfl, rs, .inr hq⟩
  | rol es =>
    cases h
    cases r with
    | rol hq rs => exact ⟨_, _, rfl, rs, .inl hq.sq⟩
  | ref m =>
    unfold itemsOf at h
    dsimp only at h
    cases q : S[m]? with
    | none => rw [q] at h; cases h
    | some o =>
      rw [q] at h
      cases o with
      | lst es =>
        cases h
        cases r with
        | ref hl =>
          obtain ⟨vs, h1, h2, _⟩ := sr.objs m _ _ q hl
          exact ⟨_, _, rfl, h2, .inl (SqL.of h1)⟩
      | dK kvs => cases h
      | dT kvs => cases h
  | _ => cases h
theorem lst_of (sr : SR K LT T L S H) {d : D} {v : V} {ds : List D} (h : lstOf S d = some ds) (r : RepV K LT L H d v) :
    ∃ a vs, v = .ref a ∧ RepVs K LT L H ds vs ∧ SqL K H a vs := by
  cases d with
  | rol es =>
    cases h
    cases r with
    | rol hq rs => exact ⟨_, _, rfl, rs, hq.sq⟩
  | ref m =>
    unfold lstOf at h
    dsimp only at h
    cases q : S[m]? with
    | none => rw [q] at h; cases h
    | some o =>
      rw [q] at h
      cases o with
      | lst es =>
        cases h
        cases r with
        | ref hl =>
          obtain ⟨vs, h1, h2, _⟩ := sr.objs m _ _ q hl
          exact ⟨_, _, rfl, h2, SqL.of h1⟩
      | dK kvs => cases h
      | dT kvs => cases h
  | _ => cases h
theorem intsOf_eq : ∀ {ds : List D} {ns : List Int}, intsOf ds = some ns → ds = ns.map D.int
  | [], _, h => by cases h; rfl
  | .int i :: r, ns, h => by
    unfold intsOf at h
    cases q : intsOf r with
    | none => rw [q] at h; cases h
    | some ms =>
      rw [q] at h
      cases h
      rw [intsOf_eq q]; rfl
  | .non :: _, _, h => by cases h
  | .bl _ :: _, _, h => by cases h
  | .str _ :: _, _, h => by cases h
  | .tup _ _ :: _, _, h => by cases h
  | .rol _ :: _, _, h => by cases h
  | .ref _ :: _, _, h => by cases h
  | .clo _ _ :: _, _, h => by cases h
theorem blsOf_eq : ∀ {ds : List D} {ns : List Bool}, blsOf ds = some ns → ds = ns.map D.bl
  | [], _, h => by cases h; rfl
  | .bl i :: r, ns, h => by
    unfold blsOf at h
    cases q : blsOf r with
    | none => rw [q] at h; cases h
    | some ms =>
      rw [q] at h
      cases h
      rw [blsOf_eq q]; rfl
  | .non :: _, _, h => by cases h
  | .int _ :: _, _, h => by cases h
  | .str _ :: _, _, h => by cases h
  | .tup _ _ :: _, _, h => by cases h
  | .rol _ :: _, _, h => by cases h
  | .ref _ :: _, _, h => by cases h
  | .clo _ _ :: _, _, h => by cases h
end
/-! ### the shapes -/
section
variable (K : PySem.W.Frag) (LT : XAt) (T : List (Addr × Str))
def rB (o : D → D → Store → R D) : R2 := fun x y H Q => ∃ dx dy S L W, RepV K LT L H dx x ∧ RepV K LT L H dy y ∧ SR K LT T L S H ∧ Post K LT T L H W (o dx dy S) Q
def rU1 (o : D → Store → R D) : V → Hp → VK → Prop := fun x H Q => ∃ dx S L W, RepV K LT L H dx x ∧ SR K LT T L S H ∧ Post K LT T L H W (o dx S) Q
def rC (o : List D → Store → R D) : List V → Hp → VK → Prop := fun vs H Q => ∃ ds S L W, RepVs K LT L H ds vs ∧ SR K LT T L S H ∧ Post K LT T L H W (o ds S) Q
def rM (o : D → List D → Store → R D) : V → List V → Hp → VK → Prop := fun x vs H Q => ∃ dx ds S L W, RepV K LT L H dx x ∧ RepVs K LT L H ds vs ∧ SR K LT T L S H ∧ Post K LT T L H W (o dx ds S) Q
/-- a built-in of one list, just made -/
def rK (k : List D → Store → R D) : List V → Hp → VK → Prop := fun vs H Q => ∃ a ws ds S L W, vs = [.ref a] ∧ SqL K H a ws ∧ RepVs K LT L H ds ws ∧ SR K LT T L S H ∧ Post K LT T L H W (k ds S) Q
end
section
variable {X : Cx} {LT : XAt} {T : List (Addr × Str)}
theorem or_add : OpR X (binaryOp .Add) (rB X.K LT T oAdd) := by
  intro pins s σ H x y v u Q I rx ry h
  obtain ⟨dx, dy, S, L, W, r1, r2, sr, p⟩ := h
  unfold oAdd at p
  split at p
  · cases r1; cases r2
    exact op_add pins s σ H _ _ v u Q I rx ry ⟨_, _, rfl, rfl, p _ _ _ (.int _) sr (Ext.refl _ _)⟩
  · split at p
    · rename_i hz
      cases r1 with
      | tup h1 _ o1 q1 =>
        cases r2 with
        | tup h2 _ o2 q2 =>
          have own_ : ∀ {f g : TF}, addF f g = .own → f = .own ∧ g = .own := fun {f g} z => by
            unfold addF at z
            split at z
            · assumption
            · cases z
          have hard_ : ∀ {f g : TF}, addF f g ≠ .hard := fun {f g} z => by
            unfold addF at z
            split at z <;> cases z
          refine op_catA pins s σ H _ _ v u Q I rx ry ⟨_, _, _, _, rfl, rfl, h1, h2, by rw [← q1.length, ← q2.length]; exact hz, fun e => ?_, fun e1 e2 => ?_, fun _ _ p' hp => ?_⟩
          · subst e
            have q := q1.app q2
            exact p _ _ _ (.tup h2 (fun z => absurd z hard_) (fun z => o2 (own_ z).2) q) sr (Ext.refl _ _)
          · subst e2
            have q := q1.app q2
            rw [List.append_nil] at q
            exact p _ _ _ (.tup h1 (fun z => absurd z hard_) (fun z => by have := o1 (own_ z).1; simpa using this) q) sr (Ext.refl _ _)
          · exact p _ _ _ (.tup (SqT.of upd_same) (fun z => absurd z hard_) (fun _ => upd_same) ((q1.app q2).ext sr (Ext.new hp))) (sr.new hp) (Ext.new hp)
    · exact p.elim
  · split at p
    · rename_i hz
      cases r1; cases r2
      exact op_add_str pins s σ H _ _ v u Q I rx ry ⟨_, _, rfl, rfl, hz, p _ _ _ (.str _) sr (Ext.refl _ _)⟩
    · exact p.elim
  · exact p.elim
theorem or_sub : OpR X (binaryOp .Sub) (rB X.K LT T oSub) := by
  intro pins s σ H x y v u Q I rx ry h
  obtain ⟨dx, dy, S, L, W, r1, r2, sr, p⟩ := h
  unfold oSub at p
  split at p
  · cases r1; cases r2
    exact op_sub pins s σ H _ _ v u Q I rx ry ⟨_, _, rfl, rfl, p _ _ _ (.int _) sr (Ext.refl _ _)⟩
  · exact p.elim
theorem or_mul : OpR X (binaryOp .Mult) (rB X.K LT T oMul) := by
  intro pins s σ H x y v u Q I rx ry h
  obtain ⟨dx, dy, S, L, W, r1, r2, sr, p⟩ := h
  unfold oMul at p
  split at p
  · split at p
    · rename_i hz
      cases r1; cases r2
      exact op_mulW pins s σ H _ _ v u Q I rx ry ⟨_, _, rfl, rfl, hz, p _ _ _ (.int _) sr (Ext.refl _ _)⟩
    · exact p.elim
  · exact p.elim
theorem or_div : OpR X (binaryOp .FloorDiv) (rB X.K LT T oDiv) := by
  intro pins s σ H x y v u Q I rx ry h
  obtain ⟨dx, dy, S, L, W, r1, r2, sr, p⟩ := h
  unfold oDiv at p
  split at p
  · split at p
    · rename_i hz
      cases r1; cases r2
      exact op_fdivW pins s σ H _ _ v u Q I rx ry ⟨_, _, rfl, rfl, hz, p _ _ _ (.int _) sr (Ext.refl _ _)⟩
    · exact p.elim
  · exact p.elim
theorem or_mod : OpR X (binaryOp .Mod) (rB X.K LT T oMod) := by
  intro pins s σ H x y v u Q I rx ry h
  obtain ⟨dx, dy, S, L, W, r1, r2, sr, p⟩ := h
  unfold oMod at p
  split at p
  · split at p
    · rename_i hz
      cases r1; cases r2
      exact op_mod pins s σ H _ _ v u Q I rx ry ⟨_, _, rfl, rfl, hz, p _ _ _ (.int _) sr (Ext.refl _ _)⟩
    · exact p.elim
  · exact p.elim
theorem or_pow : OpR X (binaryOp .Pow) (rB X.K LT T oPow) := by
  intro pins s σ H x y v u Q I rx ry h
  obtain ⟨dx, dy, S, L, W, r1, r2, sr, p⟩ := h
  unfold oPow at p
  split at p
  · split at p
    · rename_i hz
      cases r1; cases r2
      exact op_pow pins s σ H _ _ v u Q I rx ry ⟨_, _, rfl, rfl, hz, p _ _ _ (.int _) sr (Ext.refl _ _)⟩
    · exact p.elim
  · exact p.elim
theorem ur_neg : UnR X (unaryOp .USub) (rU1 X.K LT T oNeg) := by
  intro pins s σ H x v Q I rx h
  obtain ⟨dx, S, L, W, r1, sr, p⟩ := h
  unfold oNeg at p
  split at p
  · cases r1
    exact un_neg pins s σ H _ v Q I rx ⟨_, rfl, p _ _ _ (.int _) sr (Ext.refl _ _)⟩
  · exact p.elim
theorem or_lt : OpR X (compareOp .Lt) (rB X.K LT T oLt) := by
  intro pins s σ H x y v u Q I rx ry h
  obtain ⟨dx, dy, S, L, W, r1, r2, sr, p⟩ := h
  unfold oLt at p
  split at p
  · cases r1; cases r2
    exact op_lt pins s σ H _ _ v u Q I rx ry ⟨_, _, rfl, rfl, p _ _ _ (.bl _) sr (Ext.refl _ _)⟩
  · exact p.elim
theorem or_le : OpR X (compareOp .LtE) (rB X.K LT T oLe) := by
  intro pins s σ H x y v u Q I rx ry h
  obtain ⟨dx, dy, S, L, W, r1, r2, sr, p⟩ := h
  unfold oLe at p
  split at p
  · cases r1; cases r2
    exact op_le pins s σ H _ _ v u Q I rx ry ⟨_, _, rfl, rfl, p _ _ _ (.bl _) sr (Ext.refl _ _)⟩
  · exact p.elim
theorem or_gt : OpR X (compareOp .Gt) (rB X.K LT T oGt) := by
  intro pins s σ H x y v u Q I rx ry h
  obtain ⟨dx, dy, S, L, W, r1, r2, sr, p⟩ := h
  unfold oGt at p
  split at p
  · cases r1; cases r2
    exact op_gt pins s σ H _ _ v u Q I rx ry ⟨_, _, rfl, rfl, p _ _ _ (.bl _) sr (Ext.refl _ _)⟩
  · exact p.elim
theorem or_ge : OpR X (compareOp .GtE) (rB X.K LT T oGe) := by
  intro pins s σ H x y v u Q I rx ry h
  obtain ⟨dx, dy, S, L, W, r1, r2, sr, p⟩ := h
  unfold oGe at p
  split at p
  · cases r1; cases r2
    exact op_ge pins s σ H _ _ v u Q I rx ry ⟨_, _, rfl, rfl, p _ _ _ (.bl _) sr (Ext.refl _ _)⟩
  · exact p.elim
theorem or_eq (hu : X.A.units + 64 < cLine) : OpR X (compareOp .Eq) (rB X.K LT T oEq) := by
  intro pins s σ H x y v u Q I rx ry h
  obtain ⟨dx, dy, S, L, W, r1, r2, sr, p⟩ := h
  unfold oEq at p
  split at p
  · rename_i hz
    rw [Bool.and_eq_true] at hz
    exact op_eqD hu pins s σ H _ _ v u Q I rx ry ⟨_, _, dp_drf sr hz.1 r1, dp_drf sr hz.2 r2, shaped_of hz.1 (by omega), shaped_of hz.2 (by omega), p _ _ _ (.bl _) sr (Ext.refl _ _)⟩
  · exact p.elim
theorem or_ne (hu : X.A.units + 64 < cLine) : OpR X (compareOp .NotEq) (rB X.K LT T oNe) := by
  intro pins s σ H x y v u Q I rx ry h
  obtain ⟨dx, dy, S, L, W, r1, r2, sr, p⟩ := h
  unfold oNe at p
  split at p
  · rename_i hz
    rw [Bool.and_eq_true] at hz
    exact op_neD hu pins s σ H _ _ v u Q I rx ry ⟨_, _, dp_drf sr hz.1 r1, dp_drf sr hz.2 r2, shaped_of hz.1 (by omega), shaped_of hz.2 (by omega), p _ _ _ (.bl _) sr (Ext.refl _ _)⟩
  · exact p.elim
theorem isNon_of {K : PySem.W.Frag} {L : List Addr} {H : Hp} {d : D} {v : V} (r : RepV K LT L H d v) : decide (v = .non) = isNon d := by
  cases r <;> first | rfl | simp [isNon]
theorem or_isN : OpR X (compareOp .Is) (rB X.K LT T fun x y S => if isNon y = true then oIsN x S else .bad) := by
  intro pins s σ H x y v u Q I rx ry h
  obtain ⟨dx, dy, S, L, W, r1, r2, sr, p⟩ := h
  dsimp only at p
  split at p
  · rename_i hz
    rw [← isNon_of r2] at hz
    exact op_isN pins s σ H _ _ v u Q I rx ry ⟨of_decide_eq_true hz, by rw [isNon_of r1]; exact p _ _ _ (.bl _) sr (Ext.refl _ _)⟩
  · exact p.elim
theorem or_notN : OpR X (compareOp .IsNot) (rB X.K LT T fun x y S => if isNon y = true then oNotN x S else .bad) := by
  intro pins s σ H x y v u Q I rx ry h
  obtain ⟨dx, dy, S, L, W, r1, r2, sr, p⟩ := h
  dsimp only at p
  split at p
  · rename_i hz
    rw [← isNon_of r2] at hz
    exact op_notN pins s σ H _ _ v u Q I rx ry ⟨of_decide_eq_true hz, by rw [isNon_of r1]; exact p _ _ _ (.bl _) sr (Ext.refl _ _)⟩
  · exact p.elim
theorem or_isB : OpR X (compareOp .Is) (rB X.K LT T oIsB) := by
  intro pins s σ H x y v u Q I rx ry h
  obtain ⟨dx, dy, S, L, W, r1, r2, sr, p⟩ := h
  unfold oIsB at p
  split at p
  · cases r1; cases r2
    exact op_isBl pins s σ H _ _ v u Q I rx ry ⟨_, _, rfl, rfl, p _ _ _ (.bl _) sr (Ext.refl _ _)⟩
  · exact p.elim
theorem or_notB : OpR X (compareOp .IsNot) (rB X.K LT T oNotB) := by
  intro pins s σ H x y v u Q I rx ry h
  obtain ⟨dx, dy, S, L, W, r1, r2, sr, p⟩ := h
  unfold oNotB at p
  split at p
  · cases r1; cases r2
    exact op_notBl pins s σ H _ _ v u Q I rx ry ⟨_, _, rfl, rfl, p _ _ _ (.bl _) sr (Ext.refl _ _)⟩
  · exact p.elim
theorem any_toPys (d : D) : ∀ ds : List D, (toPys ds).any (fun z => PyData.eqv z (toPy d)) = inD d ds
  | [] => rfl
  | e :: es => by
    have ih := any_toPys d es
    unfold inD at ih ⊢
    simp only [toPys, List.any_cons, ih]
    rfl
theorem or_in (hu : X.A.units + 65 < cLine) : OpR X (compareOp .In) (rB X.K LT T oIn) := by
  intro pins s σ H x y v u Q I rx ry h
  obtain ⟨dx, dy, S, L, W, r1, r2, sr, p⟩ := h
  unfold oIn at p
  split at p
  · rename_i ys hys
    split at p
    · rename_i hz
      rw [Bool.and_eq_true] at hz
      obtain ⟨a, vs, rfl, rs, hq⟩ := items_of sr hys r2
      have q := p _ _ _ (.bl _) sr (Ext.refl _ _)
      have l1 := lay_of 50 dx hz.1
      have l2 := lays_of 50 ys hz.2
      obtain ⟨as, e1⟩ := Dp.reads I _ x v (dp_of 50 hz.1 r1) rx
      have room : X.A.units + 1 + min (PyData.depthAll (toPys ys)) (toPy dx).depth < cLine := by
        have : min (PyData.depthAll (toPys ys)) (toPy dx).depth ≤ 50 := Nat.le_trans (Nat.min_le_left _ _) l2.2
        omega
      rcases hq with hq | hq
      · obtain ⟨bs, e2⟩ := Dp.reads I _ _ u (Dp.lst hq (dps_of 50 hz.2 rs)) ry
        exact SeqAt.in_list_reads e2 e1 l2.1 l1.1 room ⟨.bl _, H, I, rfl, by rw [any_toPys]; exact q⟩
      · obtain ⟨bs, e2⟩ := Dp.reads I _ _ u (Dp.tup hq (dps_of 50 hz.2 rs)) ry
        exact SeqAt.in_tuple_reads e2 e1 l2.1 l1.1 room ⟨.bl _, H, I, rfl, by rw [any_toPys]; exact q⟩
    · exact p.elim
  · split at p
    · rename_i o ho
      obtain ⟨a, ov, rfl, g, hov⟩ := dget_rep sr r2 r1 ho
      have e : o.isSome = ov.isSome := by rcases hov with ⟨rfl, rfl⟩ | ⟨_, _, rfl, rfl, _⟩ <;> rfl
      cases ry
      exact d_in (by omega) I g rx fun s' I' => ⟨.bl _, H, I', by rw [← e]; rfl, p _ _ _ (.bl _) sr (Ext.refl _ _)⟩
    · exact p.elim
theorem or_notIn (hu : X.A.units + 65 < cLine) : OpR X (compareOp .NotIn) (rB X.K LT T oNotIn) := by
  intro pins s σ H x y v u Q I rx ry h
  obtain ⟨dx, dy, S, L, W, r1, r2, sr, p⟩ := h
  unfold oNotIn at p
  split at p
  · rename_i ys hys
    split at p
    · rename_i hz
      rw [Bool.and_eq_true] at hz
      obtain ⟨a, vs, rfl, rs, hq⟩ := items_of sr hys r2
      have q := p _ _ _ (.bl _) sr (Ext.refl _ _)
      have l1 := lay_of 50 dx hz.1
      have l2 := lays_of 50 ys hz.2
      obtain ⟨as, e1⟩ := Dp.reads I _ x v (dp_of 50 hz.1 r1) rx
      have room : X.A.units + 1 + min (PyData.depthAll (toPys ys)) (toPy dx).depth < cLine := by
        have : min (PyData.depthAll (toPys ys)) (toPy dx).depth ≤ 50 := Nat.le_trans (Nat.min_le_left _ _) l2.2
        omega
      rcases hq with hq | hq
      · obtain ⟨bs, e2⟩ := Dp.reads I _ _ u (Dp.lst hq (dps_of 50 hz.2 rs)) ry
        exact SeqAt.notIn_list_reads e2 e1 l2.1 l1.1 room ⟨.bl _, H, I, rfl, by rw [any_toPys]; exact q⟩
      · obtain ⟨bs, e2⟩ := Dp.reads I _ _ u (Dp.tup hq (dps_of 50 hz.2 rs)) ry
        exact SeqAt.notIn_tuple_reads e2 e1 l2.1 l1.1 room ⟨.bl _, H, I, rfl, by rw [any_toPys]; exact q⟩
    · exact p.elim
  · split at p
    · rename_i o ho
      obtain ⟨a, ov, rfl, g, hov⟩ := dget_rep sr r2 r1 ho
      have e : o.isSome = ov.isSome := by rcases hov with ⟨rfl, rfl⟩ | ⟨_, _, rfl, rfl, _⟩ <;> rfl
      cases ry
      exact d_notIn (by omega) I g rx fun s' I' => ⟨.bl _, H, I', by rw [← e]; rfl, p _ _ _ (.bl _) sr (Ext.refl _ _)⟩
    · exact p.elim
theorem atI_rep {K : PySem.W.Frag} {L : List Addr} {H : Hp} {ds : List D} {vs : List V} {i : Int} {d : D} (r : RepVs K LT L H ds vs) (h : atI ds i = some d) : ∃ v, atI vs i = some v ∧ RepV K LT L H d v := by
  unfold atI at h ⊢
  rw [← r.length]
  cases q : ixN ds.length i with
  | none => rw [q] at h; cases h
  | some j =>
    rw [q] at h
    exact r.get h
theorem ir_ix (hu : X.A.units + 65 < cLine) : IxR X (rB X.K LT T oIx) := by
  intro value slice pins s σ H x y v u Q I rx ry h hsub
  obtain ⟨dx, dy, S, L, W, r1, r2, sr, p⟩ := h
  unfold oIx at p
  split at p
  · rename_i xs i hxs
    split at p
    · rename_i d hd
      cases r2
      obtain ⟨a, vs, rfl, rs, hq⟩ := items_of sr hxs r1
      obtain ⟨w, hw, rw'⟩ := atI_rep rs hd
      have q := p _ _ _ rw' sr (Ext.refl _ _)
      rcases hq with hq | hq
      · exact ix_list value slice pins s σ H _ _ v u Q I rx ry ⟨_, _, _, _, rfl, rfl, hq, hw, q⟩ hsub
      · exact ix_tup value slice pins s σ H _ _ v u Q I rx ry ⟨_, _, _, _, rfl, rfl, hq, hw, q⟩ hsub
    · exact p.elim
  · split at p
    · rename_i d hd
      obtain ⟨a, ov, rfl, g, hov⟩ := dget_rep sr r1 r2 hd
      rcases hov with ⟨e, _⟩ | ⟨d', w, e, rfl, rw'⟩
      · cases e
      · cases e
        cases rx
        exact tail_any (dict_typeIs I g) slot_dict_getitem.lookup (d_getItem (by omega) I g ry fun w' s' I' r' => ⟨w, H, I', r', p _ _ _ rw' sr (Ext.refl _ _)⟩) hsub
    · exact p.elim
end
end Pf
end

section
set_option Elab.async false
set_option linter.all false
set_option maxRecDepth 100000
set_option maxHeartbeats 1000000
/-! P3b: built-in functions and methods by values. -/
namespace Pf
open PySem PySem.Spec PyProof.Rows L2
section
variable {K : PySem.W.Frag} {LT : XAt} {T : List (Addr × Str)} {L : List Addr} {S : Store} {H : Hp}
theorem ty_of (sr : SR K LT T L S H) {d : D} {v : V} {t : String} (h : tyD S d = some t) (r : RepV K LT L H d v) : TyX K H v (.type t) := by
  cases r with
  | non => cases h; exact .base .non
  | bl b => cases h; exact .base (.bl b)
  | int i => cases h; exact .base (.int i)
  | str x => cases h; exact .base (.str x)
  | tup hq _ _ _ =>
    cases h
    rcases hq with (hq | ⟨o, hq⟩) | ⟨o, its, n, hk, hc, _⟩
    · exact .base (.tup hq)
    · exact .fTuple hq
    · exact .kTuple hk hc
  | rol hq _ =>
    cases h
    rcases hq with ⟨o, hq⟩ | ⟨o, its, n, hk, hc, _⟩
    · exact .base (.frz hq)
    · exact .kList hk hc
  | @ref n a hl =>
    unfold tyD at h
    dsimp only at h
    obtain ⟨mo, hs, ro⟩ := sr.at_ hl
    rw [hs] at h
    cases mo with
    | lst ds => cases h; obtain ⟨vs, e, _⟩ := ro; exact .base (.lst e)
    | dK kvs => cases h; obtain ⟨vs, e, _⟩ := ro; exact .base (.dK e)
    | dT kvs => cases h; obtain ⟨vs, e, _⟩ := ro; exact .base (.dT e)
  | clo _ _ _ _ => cases h
  | exn _ => cases h
end
def tys : List String := ["NoneType", "bool", "int", "str", "tuple", "list", "dict"]
theorem tyD_mem {S : Store} {d : D} {t : String} (h : tyD S d = some t) : t ∈ tys := by
  unfold tyD at h
  split at h <;> first
    | (cases h; done)
    | (cases h; decide)
    | (split at h <;> first | (cases h; decide) | cases h)
    | cases h
theorem kit_all : ∀ t ∈ tys, ∀ n ∈ ["int", "bool", "tuple", "str", "dict", "list"], kitB t n = some (isTy t n) := by decide +kernel
section
variable (K : PySem.W.Frag) (LT : XAt) (T : List (Addr × Str))
def rIsD (n : String) : List V → Hp → VK → Prop := fun vs H Q => ∃ x dx S L W, vs = [x, .ty n] ∧ RepV K LT L H dx x ∧ SR K LT T L S H ∧ Post K LT T L H W (oIsI n dx S) Q
end
section
variable {X : Cx} {LT : XAt} {T : List (Addr × Str)}
theorem cr_isI {n : String} (hn : n ∈ ["int", "bool", "tuple", "str", "dict", "list"]) : CallR X (.builtin "isinstance") (rIsD X.K LT T n) := by
  intro pins s σ H xs us Q I r h
  obtain ⟨x, dx, S, L, W, rfl, r1, sr, p⟩ := h
  unfold oIsI at p
  split at p
  · rename_i t ht
    exact call_isi pins s σ H _ us Q I r ⟨x, _, _, _, _, rfl, .ty n, ty_of sr ht r1, kit_ty (kit_all t (tyD_mem ht) n hn), p _ _ _ (.bl _) sr (Ext.refl _ _)⟩
  · exact p.elim
theorem cr_len : CallR X (.builtin "len") (rC X.K LT T oLen) := by
  intro pins s σ H xs us Q I r h
  obtain ⟨ds, S, L, W, rs, sr, p⟩ := h
  unfold oLen at p
  split at p
  · split at p
    · rename_i es hes
      obtain ⟨v, rfl, rv⟩ := rs.one
      obtain ⟨a, vs, rfl, rr, hq⟩ := items_of sr hes rv
      exact call_len_seq pins s σ H _ us Q I r ⟨a, vs, rfl, hq, by rw [← rr.length]; exact p _ _ _ (.int _) sr (Ext.refl _ _)⟩
    · exact p.elim
  · exact p.elim
theorem crk_len : CallR X (.builtin "len") (rK X.K LT T kLen) := by
  intro pins s σ H xs us Q I r h
  obtain ⟨a, ws, ds, S, L, W, rfl, hq, rs, sr, p⟩ := h
  exact call_len_seq pins s σ H _ us Q I r ⟨a, ws, rfl, .inl hq, by rw [← rs.length]; exact p _ _ _ (.int _) sr (Ext.refl _ _)⟩
theorem crk_all (hc : X.calm = true) : CallR X (.builtin "all") (rK X.K LT T kAll) := by
  intro pins s σ H xs us Q I r h
  obtain ⟨a, ws, ds, S, L, W, rfl, hq, rs, sr, p⟩ := h
  unfold kAll at p
  split at p
  · rename_i bs hb
    rw [blsOf_eq hb] at rs
    rw [rs.bls] at hq
    exact L2.cr_all hc pins s σ H _ us Q I r ⟨a, bs, rfl, hq, p _ _ _ (.bl _) sr (Ext.refl _ _)⟩
  · exact p.elim
theorem crk_any (hc : X.calm = true) : CallR X (.builtin "any") (rK X.K LT T kAny) := by
  intro pins s σ H xs us Q I r h
  obtain ⟨a, ws, ds, S, L, W, rfl, hq, rs, sr, p⟩ := h
  unfold kAny at p
  split at p
  · rename_i bs hb
    rw [blsOf_eq hb] at rs
    rw [rs.bls] at hq
    exact L2.cr_any hc pins s σ H _ us Q I r ⟨a, bs, rfl, hq, p _ _ _ (.bl _) sr (Ext.refl _ _)⟩
  · exact p.elim
theorem crk_sum (hc : X.calm = true) : CallR X (.builtin "sum") (rK X.K LT T kSum) := by
  intro pins s σ H xs us Q I r h
  obtain ⟨a, ws, ds, S, L, W, rfl, hq, rs, sr, p⟩ := h
  unfold kSum at p
  split at p
  · rename_i bs hb
    rw [intsOf_eq hb] at rs
    rw [rs.ints] at hq
    exact cr_sum hc pins s σ H _ us Q I r ⟨a, bs, rfl, hq, p _ _ _ (.int _) sr (Ext.refl _ _)⟩
  · exact p.elim
theorem maxL_is : ∀ {ns : List Int}, ns ≠ [] → maxL ns ∈ ns ∧ ∀ y ∈ ns, y ≤ maxL ns
  | [], h => absurd rfl h
  | [x], _ => ⟨by simp [maxL], fun y hy => by simp at hy; subst hy; simp [maxL]⟩
  | x :: y :: r, _ => by
    obtain ⟨h1, h2⟩ := maxL_is (ns := y :: r) (by simp)
    have e : maxL (x :: y :: r) = if maxL (y :: r) > x then maxL (y :: r) else x := rfl
    rw [e]
    by_cases hc : maxL (y :: r) > x
    · rw [if_pos hc]
      refine ⟨List.mem_cons_of_mem _ h1, fun z hz => ?_⟩
      rcases List.mem_cons.mp hz with rfl | hz
      · omega
      · exact h2 z hz
    · rw [if_neg hc]
      refine ⟨List.mem_cons_self, fun z hz => ?_⟩
      rcases List.mem_cons.mp hz with rfl | hz
      · omega
      · have := h2 z hz; omega
theorem minL_is : ∀ {ns : List Int}, ns ≠ [] → minL ns ∈ ns ∧ ∀ y ∈ ns, minL ns ≤ y
  | [], h => absurd rfl h
  | [x], _ => ⟨by simp [minL], fun y hy => by simp at hy; subst hy; simp [minL]⟩
  | x :: y :: r, _ => by
    obtain ⟨h1, h2⟩ := minL_is (ns := y :: r) (by simp)
    have e : minL (x :: y :: r) = if minL (y :: r) < x then minL (y :: r) else x := rfl
    rw [e]
    by_cases hc : minL (y :: r) < x
    · rw [if_pos hc]
      refine ⟨List.mem_cons_of_mem _ h1, fun z hz => ?_⟩
      rcases List.mem_cons.mp hz with rfl | hz
      · omega
      · exact h2 z hz
    · rw [if_neg hc]
      refine ⟨List.mem_cons_self, fun z hz => ?_⟩
      rcases List.mem_cons.mp hz with rfl | hz
      · omega
      · have := h2 z hz; omega
theorem crk_max (hc : X.calm = true) : CallR X (.builtin "max") (rK X.K LT T kMax) := by
  intro pins s σ H xs us Q I r h
  obtain ⟨a, ws, ds, S, L, W, rfl, hq, rs, sr, p⟩ := h
  unfold kMax at p
  split at p
  · rename_i bs hb
    split at p
    · rename_i hn
      rw [intsOf_eq hb] at rs
      rw [rs.ints] at hq
      have hne : bs ≠ [] := fun z => by subst z; simp at hn
      refine L2.cr_max hc pins s σ H _ us Q I r ⟨a, bs, rfl, hq, hn, fun m h1 h2 => ?_⟩
      have e : m = maxL bs := by
        have q := maxL_is hne
        have := h2 _ q.1
        have := q.2 _ h1
        omega
      rw [e]
      exact p _ _ _ (.int _) sr (Ext.refl _ _)
    · exact p.elim
  · exact p.elim
theorem crk_min (hc : X.calm = true) : CallR X (.builtin "min") (rK X.K LT T kMin) := by
  intro pins s σ H xs us Q I r h
  obtain ⟨a, ws, ds, S, L, W, rfl, hq, rs, sr, p⟩ := h
  unfold kMin at p
  split at p
  · rename_i bs hb
    split at p
    · rename_i hn
      rw [intsOf_eq hb] at rs
      rw [rs.ints] at hq
      have hne : bs ≠ [] := fun z => by subst z; simp at hn
      refine L2.cr_min hc pins s σ H _ us Q I r ⟨a, bs, rfl, hq, hn, fun m h1 h2 => ?_⟩
      have e : m = minL bs := by
        have q := minL_is hne
        have := h2 _ q.1
        have := q.2 _ h1
        omega
      rw [e]
      exact p _ _ _ (.int _) sr (Ext.refl _ _)
    · exact p.elim
  · exact p.elim
/-- tuple(a list): a new tuple, known -/
def rTupL (K : PySem.W.Frag) : List V → Hp → VK → Prop := fun xs H Q => ∃ p ys, xs = [.ref p] ∧ SqL K H p ys ∧ ∀ l o, H l = none → o.dict = none → Q (.ref l) (upd H l (.frz o (.tup ys)))
theorem cr_tupL : CallR X (.type "tuple") (rTupL X.K) := by
  intro pins s σ H xs us Q I r h
  obtain ⟨p, ys, rfl, hq, q⟩ := h
  obtain ⟨u, rfl, rx⟩ := vals1 r
  cases rx
  obtain ⟨its, r', pl, hz⟩ := I.list hq
  have hlen := r'.length
  refine call_tuple_list pl.isList (fun h' kp => ?_) (by simp only [List.size_toArray] <;> omega)
  have I1 : Inv X pins σ H { s with heap := h' } := I.kept (t' := s.toks) kp
  have e0 : (h'.push { cls := .type "tuple", data := .seq its.toArray }).get? h'.objs.size = some { cls := .type "tuple", data := .seq its.toArray } := Heap.get?_push_size _ rfl
  have I2 : Inv X pins σ (upd H h'.objs.size (.frz { cls := .type "tuple", data := .seq its.toArray } (.tup ys))) { s with heap := h'.push { cls := .type "tuple", data := .seq its.toArray } } :=
    I1.laid (t' := s.toks) (fun b o e => Heap.get?_push_of_some _ e) (Nat.le_refl _) (show ObjOk X.prog X.w _ _ _ (.frz _ (.tup ys)) from ⟨e0, hz, its, r', IsTup.new _ _⟩)
  exact ⟨.ref h'.objs.size, _, I2, rfl, q _ _ (I1.hok.fresh (Nat.le_refl _)) rfl⟩
theorem crk_tup : CallR X (.type "tuple") (rK X.K LT T kTup) := by
  intro pins s σ H xs us Q I r h
  obtain ⟨a, ws, ds, S, L, W, rfl, hq, rs, sr, p⟩ := h
  refine cr_tupL pins s σ H _ us Q I r ⟨a, ws, rfl, hq, fun l o hl ho => ?_⟩
  exact p _ _ _ (.tup (.inl (.inr ⟨o, upd_same⟩)) (fun _ => ⟨o, upd_same, ho⟩) (fun z => nomatch z) (rs.ext sr (Ext.new hl))) (sr.new hl) (Ext.new hl)
theorem cr_tupOf : CallR X (.type "tuple") (rC X.K LT T oTupOf) := by
  intro pins s σ H xs us Q I r h
  obtain ⟨ds, S, L, W, rs, sr, p⟩ := h
  unfold oTupOf at p
  split at p
  · obtain ⟨v, rfl, rv⟩ := rs.one
    cases rv with
    | tup hq hd ho rr => exact call_tupleT pins s σ H _ us Q I r ⟨_, _, rfl, hq, p _ _ _ (.tup hq hd ho rr) sr (Ext.refl _ _)⟩
  · split at p
    · rename_i es hes
      obtain ⟨v, rfl, rv⟩ := rs.one
      obtain ⟨a, vs, rfl, rr, hq⟩ := lst_of sr hes rv
      refine cr_tupL pins s σ H _ us Q I r ⟨a, vs, rfl, hq, fun l o hl ho => ?_⟩
      exact p _ _ _ (.tup (.inl (.inr ⟨o, upd_same⟩)) (fun _ => ⟨o, upd_same, ho⟩) (fun z => nomatch z) (rr.ext sr (Ext.new hl))) (sr.new hl) (Ext.new hl)
    · exact p.elim
  · exact p.elim
/-- a built-in of a list that stands -/
theorem cr_oK {f : Value} {k : List D → Store → R D} (h : CallR X f (rK X.K LT T k)) : CallR X f (rC X.K LT T (oK k)) := by
  intro pins s σ H xs us Q I r hh
  obtain ⟨ds, S, L, W, rs, sr, p⟩ := hh
  unfold oK at p
  split at p
  · split at p
    · rename_i es hes
      obtain ⟨v, rfl, rv⟩ := rs.one
      obtain ⟨a, vs, rfl, rr, hq⟩ := lst_of sr hes rv
      exact h pins s σ H _ us Q I r ⟨a, vs, es, S, L, W, rfl, hq, rr, sr, p⟩
    · exact p.elim
  · exact p.elim
theorem cr_max2 (hc : X.calm = true) : CallR X (.builtin "max") (rC X.K LT T oMax2) := by
  intro pins s σ H xs us Q I r h
  obtain ⟨ds, S, L, W, rs, sr, p⟩ := h
  unfold oMax2 at p
  split at p
  · obtain ⟨v, w, rfl, r1, r2⟩ := rs.two
    cases r1; cases r2
    exact call_max2 hc pins s σ H _ us Q I r ⟨_, _, rfl, p _ _ _ (.int _) sr (Ext.refl _ _)⟩
  · exact p.elim
theorem cr_min2 (hc : X.calm = true) : CallR X (.builtin "min") (rC X.K LT T oMin2) := by
  intro pins s σ H xs us Q I r h
  obtain ⟨ds, S, L, W, rs, sr, p⟩ := h
  unfold oMin2 at p
  split at p
  · obtain ⟨v, w, rfl, r1, r2⟩ := rs.two
    cases r1; cases r2
    exact call_min2 hc pins s σ H _ us Q I r ⟨_, _, rfl, p _ _ _ (.int _) sr (Ext.refl _ _)⟩
  · exact p.elim
theorem cr_abs : CallR X (.builtin "abs") (rC X.K LT T oAbs) := by
  intro pins s σ H xs us Q I r h
  obtain ⟨ds, S, L, W, rs, sr, p⟩ := h
  unfold oAbs at p
  split at p
  · obtain ⟨v, rfl, r1⟩ := rs.one
    cases r1
    exact call_abs pins s σ H _ us Q I r ⟨_, rfl, p _ _ _ (.int _) sr (Ext.refl _ _)⟩
  · exact p.elim
theorem cr_int : CallR X (.type "int") (rC X.K LT T oInt) := by
  intro pins s σ H xs us Q I r h
  obtain ⟨ds, S, L, W, rs, sr, p⟩ := h
  unfold oInt at p
  split at p
  · obtain ⟨v, rfl, r1⟩ := rs.one
    cases r1
    exact call_int1 pins s σ H _ us Q I r (.inl ⟨_, rfl, p _ _ _ (.int _) sr (Ext.refl _ _)⟩)
  · exact p.elim
/-! ### methods -/
theorem isDs_app : ∀ {ds es : List D}, isDs ds = true → isDs es = true → isDs (ds ++ es) = true
  | [], _, _, h => h
  | d :: ds, es, h, h2 => by
    have h' : isD d = true ∧ isDs ds = true := by simpa [isDs] using h
    show isDs (d :: (ds ++ es)) = true
    simp only [isDs, h'.1, isDs_app h'.2 h2, Bool.and_self]
theorem isDs_set : ∀ {ds : List D} (i : Nat) {d : D}, isDs ds = true → isD d = true → isDs (ds.set i d) = true
  | [], _, _, h, _ => h
  | e :: ds, 0, d, h, h2 => by
    have h' : isD e = true ∧ isDs ds = true := by simpa [isDs] using h
    show isDs (d :: ds) = true
    simp only [isDs, h2, h'.2, Bool.and_self]
  | e :: ds, i + 1, d, h, h2 => by
    have h' : isD e = true ∧ isDs ds = true := by simpa [isDs] using h
    show isDs (e :: ds.set i d) = true
    simp only [isDs, h'.1, isDs_set i h'.2 h2, Bool.and_self]
theorem mr_append : MtR X "list.append" (rM X.K LT T (m1 oAppend)) := by
  intro pins s σ H x xs v us Q I rx rs h
  obtain ⟨dx, ds, S, L, W, r1, r2, sr, p⟩ := h
  unfold m1 at p
  split at p
  · rename_i y
    obtain ⟨w, rfl, rw'⟩ := r2.one
    unfold oAppend at p
    split at p
    · rename_i n
      split at p
      · rename_i es hs
        split at p
        · rename_i hz
          cases r1 with
          | ref hl =>
            obtain ⟨vs, h1, h2, h3⟩ := sr.objs n _ _ hs hl
            obtain ⟨sr', e'⟩ := sr.write hl hs (h2.app (.cons rw' .nil)) (isDs_app h3 (by simp only [isDs, hz.2, Bool.and_self]))
            exact mt_append pins s σ H _ _ v us Q I rx rs ⟨_, vs, w, rfl, rfl, h1, by rw [← h2.length]; exact hz.1, p _ _ _ .non sr' e'⟩
        · exact p.elim
      · exact p.elim
    · exact p.elim
  · exact p.elim
theorem find_is {x : D} : ∀ {ds : List D} {i j : Nat}, findD x i ds = some j → i ≤ j ∧ (∃ d, ds[j - i]? = some d ∧ eqD d x = true) ∧ ∀ m d, m < j - i → ds[m]? = some d → eqD d x = false
  | [], _, _, h => by cases h
  | d :: ds, i, j, h => by
    unfold findD at h
    by_cases e : eqD d x = true
    · rw [if_pos e] at h
      cases h
      exact ⟨Nat.le_refl _, ⟨d, by simp, e⟩, fun m d' hm => by omega⟩
    · rw [if_neg e] at h
      obtain ⟨h1, ⟨d2, h2, h3⟩, h4⟩ := find_is h
      refine ⟨by omega, ⟨d2, ?_, h3⟩, fun m d' hm hd => ?_⟩
      · have e2 : j - i = (j - (i + 1)) + 1 := by omega
        rw [e2, List.getElem?_cons_succ]
        exact h2
      · cases m with
        | zero =>
          simp only [List.getElem?_cons_zero, Option.some.injEq] at hd
          subst hd
          simpa using e
        | succ m =>
          rw [List.getElem?_cons_succ] at hd
          exact h4 m d' (by omega) hd
theorem toPys_get : ∀ {ds : List D} {i : Nat}, (toPys ds)[i]? = (ds[i]?).map toPy
  | [], i => by simp [toPys]
  | d :: ds, 0 => by simp [toPys]
  | d :: ds, i + 1 => by simp only [toPys, List.getElem?_cons_succ]; exact toPys_get
theorem mr_index (hu : X.A.units + 65 < cLine) : MtR X "list.index" (rM X.K LT T (m1 oIndex)) := by
  intro pins s σ H x xs v us Q I rx rs h
  obtain ⟨dx, ds, S, L, W, r1, r2, sr, p⟩ := h
  unfold m1 at p
  split at p
  · rename_i y
    obtain ⟨w, rfl, rw'⟩ := r2.one
    unfold oIndex at p
    split at p
    · rename_i es hes
      split at p
      · rename_i hz
        rw [Bool.and_eq_true] at hz
        split at p
        · rename_i j hj
          obtain ⟨a, vs, rfl, rr, hq⟩ := lst_of sr hes r1
          obtain ⟨_, ⟨d, h2, h3⟩, h4⟩ := find_is hj
          have l2 := lays_of 50 es hz.2
          have hsh : SeqAt.shaped (.list (toPys es)) = true := by
            show ((PyData.list (toPys es)).canLay0 && decide ((PyData.list (toPys es)).depth ≤ 64)) = true
            rw [Bool.and_eq_true]
            exact ⟨by simp only [PyData.canLay0]; exact l2.1, decide_eq_true (by simp only [PyData.depth]; omega)⟩
          refine mt_indexD hu pins s σ H _ _ v us Q I rx rs ⟨a, w, toPy y, toPys es, j, toPy d, rfl, rfl, .lst hq (dps_of 50 hz.2 rr), dp_of 50 hz.1 rw', hsh, shaped_of hz.1 (by omega), ?_, h3, fun m z' hm hz' => ?_, p _ _ _ (.int _) sr (Ext.refl _ _)⟩
          · rw [toPys_get]
            simp only [Nat.sub_zero] at h2
            rw [h2]; rfl
          · rw [toPys_get] at hz'
            cases q : es[m]? with
            | none => rw [q] at hz'; cases hz'
            | some d' =>
              rw [q] at hz'
              cases hz'
              exact h4 m d' (by omega) q
        · exact p.elim
      · exact p.elim
    · exact p.elim
  · exact p.elim
theorem Dp.all_reads {pins : List (Addr × Obj)} {σ : L2.St} {H : Hp} {s : Shared} (I : Inv X pins σ H s) {ds : List PyData} {vs : List V} {us : List Value} (h : DpAll X.K H vs ds) (r : Vals vs us) : ∃ as, ReadsAll s.heap us ds as := Dp.readsAll I ds vs us h r
theorem mr_indexT (hu : X.A.units + 65 < cLine) : MtR X "tuple.index" (rM X.K LT T (m1 oIndexT)) := by
  intro pins s σ H x xs v us Q I rx rs h
  obtain ⟨dx, ds, S, L, W, r1, r2, sr, p⟩ := h
  unfold m1 at p
  split at p
  · rename_i y
    obtain ⟨w, rfl, rw'⟩ := r2.one
    unfold oIndexT at p
    split at p
    · rename_i es
      split at p
      · rename_i hz
        rw [Bool.and_eq_true] at hz
        split at p
        · rename_i j hj
          cases r1 with
          | @tup _ a vs _ hq _ _ rr =>
            cases rx
            cases rs with
            | cons ry rt =>
              rename_i uy ut
              cases rt
              obtain ⟨_, ⟨d, h2, h3⟩, h4⟩ := find_is hj
              simp only [Nat.sub_zero] at h2 h4
              have l1 := lay_of 50 y hz.1
              have l2 := lays_of 50 es hz.2
              obtain ⟨bs, e1⟩ := Dp.reads I _ w uy (dp_of 50 hz.1 rw') ry
              obtain ⟨its, rv, ⟨⟨cls, dd, data, sls⟩, ho, hc, n, hdt⟩, hlen⟩ := I.tuple hq
              simp only at hc hdt
              subst hc hdt
              obtain ⟨as, h5⟩ := Dp.readsAll I _ _ its (dps_of 50 hz.2 rr) rv
              have hmap : its.map (SeqAt.readOf s.heap) = toPys es := SeqAt.readsAll_map _ its as l2.1 h5
              have hvl := rv.length
              have hrl := rr.length
              have room : X.A.units + 1 + min (PyData.depthAll (toPys es)) (toPy y).depth < cLine := by
                have : min (PyData.depthAll (toPys es)) (toPy y).depth ≤ 50 := Nat.le_trans (Nat.min_le_left _ _) l2.2
                omega
              have hjd := (List.getElem?_eq_some_iff.mp h2).1
              have hjl : j < its.length := by omega
              have at' : ∀ (m : Nat) (hm : m < its.toArray.size) (d' : D), es[m]? = some d' → SeqAt.readOf s.heap its.toArray[m] = toPy d' := by
                intro m hm d' hd'
                have hml : m < its.length := by simpa using hm
                have hz' : (toPys es)[m]? = some (toPy d') := by rw [toPys_get, hd']; rfl
                rw [← hmap, List.getElem?_map, List.getElem?_eq_getElem hml] at hz'
                have e2 : SeqAt.readOf s.heap its[m] = toPy d' := Option.some.inj (show some (SeqAt.readOf s.heap its[m]) = some (toPy d') from hz')
                simpa using e2
              refine call_meets PySem.F.slot_tuple_index ⟨_, ho, rfl⟩ PySem.F.entry_tuple_index (PySem.F.args_tuple_index_2 _ _)
                (TI.tuple_indexAt a its.toArray n dd sls uy (fun u => PyData.eqv (SeqAt.readOf s.heap u) (toPy y)) j (by simpa using hjl) ?_ ?_) ⟨ho, SeqAt.items_eqAt (vs := its.toArray) (show ReadsAll s.heap its.toArray.toList _ as from h5) e1 l2.1 l1.1 room, ?_⟩
              · show PyData.eqv (SeqAt.readOf s.heap its.toArray[j]) (toPy y) = true
                rw [at' j (by simpa using hjl) d h2]
                exact h3
              · intro m hm hmj
                have hmd : m < es.length := by omega
                show PyData.eqv (SeqAt.readOf s.heap its.toArray[m]) (toPy y) = false
                rw [at' m hm _ (List.getElem?_eq_getElem hmd)]
                exact h4 m _ hmj (List.getElem?_eq_getElem hmd)
              · exact ⟨.int (j : Nat), H, I.tok _, ⟨_, rfl⟩, p _ _ _ (.int _) sr (Ext.refl _ _)⟩
        · exact p.elim
      · exact p.elim
    · exact p.elim
  · exact p.elim
def rSet3 (K : PySem.W.Frag) (LT : XAt) (T : List (Addr × Str)) (o : D → D → D → Store → R Unit) : TSet := fun x i v H Q => ∃ dx di dv S L W, RepV K LT L H dx x ∧ RepV K LT L H di i ∧ RepV K LT L H dv v ∧ SR K LT T L S H ∧ PostP K LT T L H W (o dx di dv S) fun _ H' => Q H'
theorem set_d (hu : X.A.units + 1 < cLine) : PSet X (rSet3 X.K LT T oPutD) := by
  intro pins s σ H o i v ov iv u Q I ro ri rv h
  obtain ⟨dx, di, dv, S, L, W, r1, r2, r3, sr, p⟩ := h
  unfold oPutD at p
  cases r1 with
  | @ref n a hl =>
    dsimp only at p
    cases q : S[n]? with
    | none => rw [q] at p; exact p.elim
    | some mo =>
      rw [q] at p
      have ro' := sr.objs n mo a q hl
      have e' := fun ho => SR.writeExt (H := H) (ho := ho) hl
      cases mo with
      | lst ds => exact p.elim
      | dK kvs =>
        obtain ⟨ws, h1, h2, h3, h4⟩ := ro'
        dsimp only at p
        cases qk : keyD di with
        | none => rw [qk] at p; exact p.elim
        | some k =>
          rw [qk] at p
          dsimp only at p
          split at p
          · rename_i hz
            have hl2 : ws.length = kvs.length := by rw [← List.length_map (f := (·.1)), h2, List.length_map]
            obtain ⟨w1, w2⟩ := put_rep (k := k) r3 h2 h3
            have sr' := sr.writeO (mo := .dK (putD kvs k dv)) (ho := .dK (putK ws k v)) hl q ⟨_, upd_same, w1, w2.ext sr (e' _), isDs_put hz.2 h4⟩
            have hi := keyD_rep r2 qk
            subst hi
            exact set_dict hu pins s σ H _ _ v ov iv u Q I ro ri rv ⟨a, _, rfl, DPut.k h1 (by rw [hl2]; exact hz.1), p _ _ sr' (e' _)⟩
          · exact p.elim
      | dT kvs =>
        obtain ⟨ws, h1, h2, h3, h4⟩ := ro'
        dsimp only at p
        cases r2 with
        | @tup f b us ds hq hd ho rr =>
          cases f with
          | own =>
            dsimp only at p
            cases qk : keysD ds with
            | none => rw [qk] at p; exact p.elim
            | some k =>
              rw [qk] at p
              dsimp only at p
              split at p
              · rename_i hz
                have hl2 : ws.length = kvs.length := by rw [← List.length_map (f := (·.1)), h2, List.length_map]
                obtain ⟨w1, w2⟩ := put_rep (k := k) r3 h2 h3
                have sr' := sr.writeO (mo := .dT (putD kvs k dv)) (ho := .dT (putK ws k v)) hl q ⟨_, upd_same, w1, w2.ext sr (e' _), isDs_put hz.2 h4⟩
                exact set_dict hu pins s σ H _ _ v ov iv u Q I ro ri rv ⟨a, _, rfl, DPut.t h1 (by rw [← keysD_rep rr qk]; exact ho rfl) (by rw [hl2]; exact hz.1), p _ _ sr' (e' _)⟩
              · exact p.elim
          | any => exact p.elim
          | hard => exact p.elim
        | _ => exact (show False from p).elim
  | _ => exact (show False from p).elim
theorem set_l (hu : X.A.units + 1 < cLine) : PSet X (rSet3 X.K LT T oSetL) := by
  intro pins s σ H o i v ov iv u Q I ro ri rv h
  obtain ⟨dx, di, dv, S, L, W, r1, r2, r3, sr, p⟩ := h
  unfold oSetL at p
  split at p
  · rename_i n k
    split at p
    · rename_i es hs
      split at p
      · rename_i j hj
        split at p
        · rename_i hz
          cases r2
          cases r1 with
          | ref hl =>
            obtain ⟨vs, h1, h2, h3⟩ := sr.objs n _ _ hs hl
            obtain ⟨sr', e'⟩ := sr.write hl hs (RepVs.set r3 j h2) (isDs_set j h3 hz)
            exact set_list pins s σ H _ _ _ ov iv u Q I ro ri rv ⟨_, vs, _, j, rfl, rfl, h1, by rw [← h2.length]; exact hj, p _ _ sr' e'⟩
        · exact p.elim
      · exact p.elim
    · exact set_d hu pins s σ H _ _ _ ov iv u Q I ro ri rv ⟨_, _, _, _, _, _, r1, r2, r3, sr, p⟩
  · exact set_d hu pins s σ H _ _ _ ov iv u Q I ro ri rv ⟨_, _, _, _, _, _, r1, r2, r3, sr, p⟩
/-! ### pop, extend -/
theorem isDs_dropLast : ∀ {ds : List D}, isDs ds = true → isDs ds.dropLast = true
  | [], h => h
  | [_], _ => rfl
  | d :: e :: r, h => by
    simp only [List.dropLast, isDs, Bool.and_eq_true] at h ⊢
    exact ⟨h.1, isDs_dropLast (ds := e :: r) (by simp only [isDs, Bool.and_eq_true]; exact h.2)⟩
theorem RepVs.dropLast {K : PySem.W.Frag} {LT : XAt} {L : List Addr} {H : Hp} : ∀ {ds : List D} {vs : List V}, RepVs K LT L H ds vs → RepVs K LT L H ds.dropLast vs.dropLast
  | _, _, .nil => .nil
  | _, _, .cons r .nil => .nil
  | _, _, .cons r (.cons r2 t) => .cons r (RepVs.dropLast (.cons r2 t))
theorem mr_pop : MtR X "list.pop" (rM X.K LT T (m0 oPop)) := by
  intro pins s σ H x xs v us Q I rx rxs h
  obtain ⟨dx, ds, S, L, W, r1, r2, sr, p⟩ := h
  cases ds with
  | cons d ds => exact (show False from p).elim
  | nil =>
    cases r2
    unfold m0 at p
    dsimp only at p
    unfold oPop at p
    cases r1 with
    | @ref n a hl =>
      dsimp only at p
      cases q : S[n]? with
      | none => rw [q] at p; exact p.elim
      | some mo =>
        rw [q] at p
        cases mo with
        | lst es =>
          obtain ⟨vs, h1, h2, h3⟩ := sr.objs n _ _ q hl
          dsimp only at p
          split at p
          · rename_i d hd
            obtain ⟨w, hw, rw'⟩ := h2.get hd
            obtain ⟨sr', e'⟩ := sr.write hl q h2.dropLast (isDs_dropLast h3)
            exact mt_pop pins s σ H _ _ v us Q I rx rxs ⟨a, vs, w, rfl, rfl, h1, by rw [← h2.length]; exact hw, p _ _ _ (rw'.ext sr e') sr' e'⟩
          · exact p.elim
        | dK kvs => exact p.elim
        | dT kvs => exact p.elim
    | _ => exact (show False from p).elim
theorem mr_extend : MtR X "list.extend" (rM X.K LT T (m1 oExtend)) := by
  intro pins s σ H x xs v us Q I rx rxs h
  obtain ⟨dx, ds, S, L, W, r1, r2, sr, p⟩ := h
  unfold m1 at p
  split at p
  · rename_i y
    obtain ⟨vy, rfl, ry⟩ := RepVs.one r2
    unfold oExtend at p
    cases r1 with
    | @ref n a hl =>
      cases ry with
      | @ref m b hm =>
        dsimp only at p
        cases q : S[n]? with
        | none => rw [q] at p; exact p.elim
        | some mo =>
          cases q2 : S[m]? with
          | none => rw [q, q2] at p; cases mo <;> exact (show False from p).elim
          | some mo2 =>
            rw [q, q2] at p
            cases mo with
            | lst es =>
              cases mo2 with
              | lst fs =>
                dsimp only at p
                split at p
                · rename_i hz
                  obtain ⟨vs, h1, h2, h3⟩ := sr.objs n _ _ q hl
                  obtain ⟨ws, k1, k2, k3⟩ := sr.objs m _ _ q2 hm
                  obtain ⟨sr', e'⟩ := sr.write hl q (h2.app k2) (isDs_app h3 k3)
                  exact mt_extend pins s σ H _ _ v us Q I rx rxs ⟨a, b, vs, ws, rfl, rfl, h1, k1, by rw [← h2.length, ← k2.length]; exact hz, p _ _ _ .non sr' e'⟩
                · exact p.elim
              | dK kvs => exact p.elim
              | dT kvs => exact p.elim
            | dK kvs => exact p.elim
            | dT kvs => exact p.elim
      | _ => exact (show False from p).elim
    | _ => exact (show False from p).elim
  · exact p.elim
end
end Pf
end

section
set_option Elab.async false
set_option linter.all false
set_option maxRecDepth 100000
set_option maxHeartbeats 1000000
/-! P4: expressions: a combinator's reading over the hand layer's rules. -/
namespace L2
open PySem PySem.Spec PyProof.Rows
theorem PE.imp {X : Cx} {e : Expr} {t t' : TE} (h : PE X e t) (i : ∀ σ H Q, t' σ H Q → t σ H Q) : PE X e t' := ⟨fun pins s σ H Q I q => h.run pins s σ H Q I (i _ _ _ q)⟩
theorem PT.imp {X : Cx} {e : Expr} {t t' : TT} (h : PT X e t) (i : ∀ σ H Q, t' σ H Q → t σ H Q) : PT X e t' := ⟨fun pins s σ H Q I q => h.run pins s σ H Q I (i _ _ _ q)⟩
theorem PW.imp {X : Cx} {e : Expr} {t t' : TT} (h : PW X e t) (i : ∀ σ H Q, t' σ H Q → t σ H Q) : PW X e t' := ⟨fun wh pins s σ H Q I q => h.run wh pins s σ H Q I (i _ _ _ q)⟩
theorem PA.imp {X : Cx} {es : List Expr} {t t' : TA} (h : PA X es t) (i : ∀ σ H Q, t' σ H Q → t σ H Q) : PA X es t' := ⟨fun pos pins s σ H Q I q => h.run pos pins s σ H Q I (i _ _ _ q)⟩
theorem PO.imp {X : Cx} {e : Option Expr} {t t' : TO} (h : PO X e t) (i : ∀ σ H Q, t' σ H Q → t σ H Q) : PO X e t' := ⟨fun pins s σ H Q I q => h.run pins s σ H Q I (i _ _ _ q)⟩
end L2
namespace Pf
open PySem PySem.Spec PyProof.Rows L2


section
variable {K : PySem.W.Frag} {LT : XAt} {T : List (Addr × Str)}
/-- what is wanted of a result: nothing of a bad one; of an error the caller's wish; it bears a grown heap -/
structure Tgt (K : PySem.W.Frag) (LT : XAt) (T : List (Addr × Str)) {β : Type} (W : XW) (Z : List Addr → Hp → R β → Prop) : Prop where
  bad : ∀ L H, ¬ Z L H .bad
  exc : ∀ L H c S', Z L H (.exc c S') → ∀ (dx : DX c) H' L', SR K LT T L' S' H' → Ext L H L' H' → W (.ref (He.ga K c)) dx.1 H'
  weak : ∀ L H L1 H1 r, Z L H r → Ext L H L1 H1 → Z L1 H1 r
theorem tgP {W : XW} {Q : VK} : Tgt K LT T W (fun L H r => Post K LT T L H W r Q) := ⟨fun _ _ h => h, fun _ _ _ _ h => h, fun _ _ _ _ _ h e => h.weak e⟩
theorem tgPP {α : Type} {W : XW} {Q : α → Hp → Prop} : Tgt K LT T W (fun L H r => PostP K LT T L H W r Q) := ⟨fun _ _ h => h, fun _ _ _ _ h => h, fun _ _ _ _ _ h e => h.weak e⟩
theorem tgPA {W : XW} {Q : List V → Hp → Prop} : Tgt K LT T W (fun L H r => PostA K LT T L H W r Q) := ⟨fun _ _ h => h, fun _ _ _ _ h => h, fun _ _ _ _ _ h e => h.weak e⟩
theorem PostL.weak' {L L1 : List Addr} {H H1 : Hp} {W : XW} {r : R (List D)} {Q : VK} (h : PostL K LT T L H W r Q) (e : Ext L H L1 H1) : PostL K LT T L1 H1 W r Q := by
  cases r with
  | ok d S => exact fun a vs H' L' h1 h2 h3 r1 s1 e1 => h a vs H' L' h1 h2 (fun o q n t => h3 o (e.keep a o q n t) (e.notIn q n t) t) r1 s1 (e.trans e1)
  | exc c S => exact fun dx H' L' s1 e1 => h dx H' L' s1 (e.trans e1)
  | bad => exact h
theorem tgPL {W : XW} {Q : VK} : Tgt K LT T W (fun L H r => PostL K LT T L H W r Q) := ⟨fun _ _ h => h, fun _ _ _ _ h => h, fun _ _ _ _ _ h e => h.weak' e⟩
variable {L : List Addr} {H : Hp} {S : Store} {ρ : Env} {σ : L2.St} {W : WX} {β : Type} {Z : List Addr → Hp → R β → Prop}
theorem tE_mono {f : Ex} {Q Q' : VK} (h : tE K LT T f W σ H Q) (i : ∀ v H', Q v H' → Q' v H') : tE K LT T f W σ H Q' := by
  obtain ⟨ρ, S, L, er, sr, p⟩ := h
  refine ⟨ρ, S, L, er, sr, ?_⟩
  cases q : f ρ S with
  | ok d S' => rw [q] at p; exact fun v H' L' a b c => i _ _ (p v H' L' a b c)
  | exc c S' => rw [q] at p; exact p
  | bad => rw [q] at p; exact p
theorem bindE {a : Ex} {g : D → Store → R β} (tg : Tgt K LT T (at_ W σ) Z) (er : ER K LT L H ρ σ) (sr : SR K LT T L S H) (h : Z L H ((a ρ S).bind g)) :
    tE K LT T a W σ H fun x H1 => ∃ dx S1 L1, RepV K LT L1 H1 dx x ∧ SR K LT T L1 S1 H1 ∧ ER K LT L1 H1 ρ σ ∧ Z L1 H1 (g dx S1) ∧ Ext L H L1 H1 := by
  refine ⟨ρ, S, L, er, sr, ?_⟩
  cases q : a ρ S with
  | ok d S' =>
    rw [q] at h
    exact fun v H' L' r s e => ⟨d, S', L', r, s, er.ext sr e, tg.weak _ _ _ _ _ h e, e⟩
  | exc c S' => rw [q] at h; exact tg.exc _ _ _ _ h
  | bad => rw [q] at h; exact tg.bad _ _ h
theorem bindT {a : Ts} {g : Bool → Store → R β} (tg : Tgt K LT T (at_ W σ) Z) (er : ER K LT L H ρ σ) (sr : SR K LT T L S H) (h : Z L H ((a ρ S).bind g)) :
    tT K LT T a W σ H fun c H1 => ∃ S1 L1, SR K LT T L1 S1 H1 ∧ ER K LT L1 H1 ρ σ ∧ Z L1 H1 (g c S1) ∧ Ext L H L1 H1 := by
  refine ⟨ρ, S, L, er, sr, ?_⟩
  cases q : a ρ S with
  | ok d S' =>
    rw [q] at h
    exact fun H' L' s e => ⟨S', L', s, er.ext sr e, tg.weak _ _ _ _ _ h e, e⟩
  | exc c S' => rw [q] at h; exact tg.exc _ _ _ _ h
  | bad => rw [q] at h; exact tg.bad _ _ h
theorem bindP {a : Pt} {g : Option Int → Store → R β} (tg : Tgt K LT T (at_ W σ) Z) (er : ER K LT L H ρ σ) (sr : SR K LT T L S H) (h : Z L H ((a ρ S).bind g)) :
    tP K LT T a W σ H fun c H1 => ∃ S1 L1, SR K LT T L1 S1 H1 ∧ ER K LT L1 H1 ρ σ ∧ Z L1 H1 (g c S1) ∧ Ext L H L1 H1 := by
  refine ⟨ρ, S, L, er, sr, ?_⟩
  cases q : a ρ S with
  | ok d S' =>
    rw [q] at h
    exact fun H' L' s e => ⟨S', L', s, er.ext sr e, tg.weak _ _ _ _ _ h e, e⟩
  | exc c S' => rw [q] at h; exact tg.exc _ _ _ _ h
  | bad => rw [q] at h; exact tg.bad _ _ h
theorem bindA {a : Ar} {g : List D → Store → R β} (tg : Tgt K LT T (at_ W σ) Z) (er : ER K LT L H ρ σ) (sr : SR K LT T L S H) (h : Z L H ((a ρ S).bind g)) :
    tA K LT T a W σ H fun xs H1 => ∃ ds S1 L1, RepVs K LT L1 H1 ds xs ∧ SR K LT T L1 S1 H1 ∧ ER K LT L1 H1 ρ σ ∧ Z L1 H1 (g ds S1) ∧ Ext L H L1 H1 := by
  refine ⟨ρ, S, L, er, sr, ?_⟩
  cases q : a ρ S with
  | ok d S' =>
    rw [q] at h
    exact fun v H' L' r s e => ⟨d, S', L', r, s, er.ext sr e, tg.weak _ _ _ _ _ h e, e⟩
  | exc c S' => rw [q] at h; exact tg.exc _ _ _ _ h
  | bad => rw [q] at h; exact tg.bad _ _ h
/-- a list just made, not of the store -/
theorem bindL {a : Ar} {g : List D → Store → R β} (tg : Tgt K LT T (at_ W σ) Z) (er : ER K LT L H ρ σ) (sr : SR K LT T L S H) (h : Z L H ((a ρ S).bind g)) :
    tL K LT T a W σ H fun x H1 => ∃ p ds vs S1 L1, x = .ref p ∧ H1 p = some (.lst vs) ∧ p ∉ L1 ∧ (∀ o, H p = some o → p ∉ L → (∀ ps, o ≠ .tbl ps) → False) ∧ RepVs K LT L1 H1 ds vs ∧ SR K LT T L1 S1 H1 ∧ ER K LT L1 H1 ρ σ ∧ Z L1 H1 (g ds S1) ∧ Ext L H L1 H1 := by
  refine ⟨ρ, S, L, er, sr, ?_⟩
  cases q : a ρ S with
  | ok d S' =>
    rw [q] at h
    exact fun p v H' L' h1 h2 h3 r s e => ⟨p, d, v, S', L', rfl, h1, h2, h3, r, s, er.ext sr e, tg.weak _ _ _ _ _ h e, e⟩
  | exc c S' => rw [q] at h; exact tg.exc _ _ _ _ h
  | bad => rw [q] at h; exact tg.bad _ _ h
end
section
variable {K : PySem.W.Frag} {LT : XAt} {T : List (Addr × Str)} {L : List Addr} {S : Store} {H : Hp}
mutual
theorem RepV.grow (M : List Addr) : ∀ {d : D} {v : V}, RepV K LT L H d v → RepV K LT (L ++ M) H d v
  | _, _, .non => .non
  | _, _, .bl b => .bl b
  | _, _, .int i => .int i
  | _, _, .str x => .str x
  | _, _, .tup h hd ho r => .tup h hd ho (RepVs.grow M r)
  | _, _, .rol h r => .rol h (RepVs.grow M r)
  | _, _, .ref h => .ref (by rw [List.getElem?_append_left (List.getElem?_eq_some_iff.mp h).1]; exact h)
  | _, _, .clo h2 h3 h4 r => .clo h2 h3 h4 (RepVs.grow M r)
  | _, _, .exn h => .exn h
theorem RepVs.grow (M : List Addr) : ∀ {ds : List D} {vs : List V}, RepVs K LT L H ds vs → RepVs K LT (L ++ M) H ds vs
  | _, _, .nil => .nil
  | _, _, .cons r t => .cons (RepV.grow M r) (RepVs.grow M t)
end
theorem RepO.grow (M : List Addr) {o : MO} {a : Addr} (r : RepO K LT L H o a) : RepO K LT (L ++ M) H o a := by
  cases o with
  | lst ds => obtain ⟨vs, q1, q2, q3⟩ := r; exact ⟨vs, q1, q2.grow M, q3⟩
  | dK kvs => obtain ⟨vs, q1, q2, q3, q4⟩ := r; exact ⟨vs, q1, q2, q3.grow M, q4⟩
  | dT kvs => obtain ⟨vs, q1, q2, q3, q4⟩ := r; exact ⟨vs, q1, q2, q3.grow M, q4⟩
theorem SR.adopt {p : Addr} {ds : List D} {vs : List V} (sr : SR K LT T L S H) (h : H p = some (.lst vs)) (np : p ∉ L) (r : RepVs K LT L H ds vs) (hd : isDs ds = true) : SR K LT T (L ++ [p]) (S ++ [.lst ds]) H := by
  refine ⟨by rw [List.length_append, List.length_append, sr.len]; rfl, fun n mo a h1 h2 => ?_, fun n m a h1 h2 => ?_, sr.tabs⟩
  · by_cases hn : n < S.length
    · rw [List.getElem?_append_left hn] at h1
      rw [List.getElem?_append_left (by rw [sr.len]; exact hn)] at h2
      exact (sr.objs n mo a h1 h2).grow _
    · rw [List.getElem?_append_right (by omega)] at h1
      rw [List.getElem?_append_right (by rw [sr.len]; omega), sr.len] at h2
      cases q : n - S.length with
      | zero =>
        rw [q] at h1 h2
        cases h1
        cases h2
        exact ⟨vs, h, r.grow _, hd⟩
      | succ m => rw [q] at h1; cases h1
  · have key : ∀ (n : Nat), (L ++ [p])[n]? = some a → (L[n]? = some a) ∨ (n = L.length ∧ a = p) := fun n h => by
      by_cases hn : n < L.length
      · rw [List.getElem?_append_left hn] at h; exact .inl h
      · rw [List.getElem?_append_right (by omega)] at h
        cases q : n - L.length with
        | zero => rw [q] at h; cases h; exact .inr ⟨by omega, rfl⟩
        | succ m => rw [q] at h; cases h
    rcases key n h1 with k1 | ⟨k1, k1'⟩ <;> rcases key m h2 with k2 | ⟨k2, k2'⟩
    · exact sr.sep n m a k1 k2
    · exact absurd (List.mem_of_getElem? k1) (by rw [k2']; exact np)
    · exact absurd (List.mem_of_getElem? k2) (by rw [k1']; exact np)
    · omega
theorem Ext.adopt' {L' : List Addr} {H' : Hp} {p : Addr} (e : Ext L H L' H') (f : ∀ o, H p = some o → p ∉ L → (∀ ps, o ≠ .tbl ps) → False) : Ext L H (L' ++ [p]) H' := by
  obtain ⟨⟨M, rfl, hm⟩, k⟩ := e
  refine ⟨⟨M ++ [p], by rw [List.append_assoc], fun a ha => ?_⟩, k⟩
  rcases List.mem_append.mp ha with z | z
  · exact hm a z
  · rw [List.mem_singleton.mp z]; exact f
end

/-! ### the judgements -/
section
variable (LT : XAt) (T : List (Addr × Str)) (X : Cx)
abbrev SE (e : Expr) (f : Ex) : Prop := ∀ W, Takes X W → PE X e (tE X.K LT T f W)
abbrev STs (e : Expr) (f : Ts) : Prop := ∀ W, Takes X W → PT X e (tT X.K LT T f W)
abbrev SWs (e : Expr) (f : Ts) : Prop := ∀ W, Takes X W → PW X e (tT X.K LT T f W)
abbrev SAr (es : List Expr) (f : Ar) : Prop := ∀ W, Takes X W → PA X es (tA X.K LT T f W)
abbrev SLs (e : Expr) (f : Ar) : Prop := ∀ W, Takes X W → PE X e (tL X.K LT T f W)
abbrev SPt (e : Option Expr) (f : Pt) : Prop := ∀ W, Takes X W → PO X e (tP X.K LT T f W)
end
def notStar : Expr → Bool
  | .Starred _ _ => false
  | _ => true
theorem star_cons {e : Expr} {es : List Expr} {env : PySem.Env} (h : notStar e = true) : starEach (e :: es) env = (false, eval e env) :: starEach es env := by
  cases e <;> first | rfl | cases h
theorem star_any {pos : Pos} {env : PySem.Env} : ∀ {es : List Expr}, es.all notStar = true → (backTo pos (starEach es env)).any (·.1) = false
  | [], _ => rfl
  | e :: es, h => by
    rw [List.all_cons, Bool.and_eq_true] at h
    rw [star_cons h.1]
    show ((false || (backTo pos (starEach es env)).any (·.1)) = false)
    rw [star_any h.2] <;> rfl
theorem assign_cons {e : Expr} {es : List Expr} {env : PySem.Env} (h : notStar e = true) : assignEach (e :: es) env = (false, assign e env) :: assignEach es env := by
  cases e <;> first | rfl | cases h
section
variable {LT : XAt} {T : List (Addr × Str)} {X : Cx} {e a b c : Expr} {es : List Expr} {f fa fb fc : Ex} {fs : Ar} {ft ft' : Ts} {pos p p2 : Pos} {j : Nat}

/-! ### constants, names -/
theorem pe_c {v : V} {d : D} {t : TE} (h : PE X e t) (ht : ∀ σ H Q, Q v H → t σ H Q) (r : ∀ L H, RepV X.K LT L H d v) : SE LT T X e (cD d) := fun W tk => h.imp fun σ H Q ⟨ρ, S, L, er, sr, p⟩ => ht σ H Q (p v H L (r L H) sr (Ext.refl _ _))
theorem se_int {i : Int} : SE LT T X (.Constant (.int i) j pos) (cD (.int i)) := pe_c pe_int (fun _ _ _ h => h) fun _ _ => .int i
theorem se_bl {i : Bool} : SE LT T X (.Constant (.bool i) j pos) (cD (.bl i)) := pe_c pe_bl (fun _ _ _ h => h) fun _ _ => .bl i
theorem se_non : SE LT T X (.Constant .none j pos) (cD .non) := pe_c pe_non (fun _ _ _ h => h) fun _ _ => .non
theorem se_str {x : Str} : SE LT T X (.Constant (.str x) j pos) (cD (.str x)) := pe_c pe_str (fun _ _ _ h => h) fun _ _ => .str x
theorem se_var {i : Nat} {x : Str} (hN : X.N[i]? = some x) (hv : Vis X.env.scope x) (hd : (x == ("__debug__" : Str)) = false) (hcd : (x == ("__classdict__" : Str)) = false) : SE LT T X (.Name x pos) (cV i) := fun W tk => (pe_var hN hv hd hcd).imp fun σ H Q ⟨ρ, S, L, er, sr, p⟩ => by
  unfold cV at p
  split at p
  · rename_i d hs
    obtain ⟨v, h1, h2⟩ := er.at_ i d hs
    exact ⟨v, h1, p v H L h2 sr (Ext.refl _ _)⟩
  · exact p.elim
theorem se_glob {x : Str} {v : V} {u : Value} {d : D} (hg : Gl X x) (hm : X.mg x = some u) (r : RelV v u) (rd : ∀ L H, RepV X.K LT L H d v) (hd : (x == ("__debug__" : Str)) = false) : SE LT T X (.Name x pos) (cD d) := pe_c (pe_glob hg hm r hd) (fun _ _ _ h => h) rd

/-! ### operators -/
theorem se_bin {op : Operator} {o : D → D → Store → R D} (ho : OpR X (binaryOp op) (rB X.K LT T o)) (ha : SE LT T X a fa) (hb : SE LT T X b fb) : SE LT T X (.BinOp a op b pos) (c2 o fa fb) := fun W tk => (pe_op ho (ha W tk) (hb W tk)).imp fun σ H Q ⟨ρ, S, L, er, sr, p⟩ =>
  tE_mono (bindE tgP er sr p) fun x H1 ⟨dx, S1, L1, r1, s1, e1, p1, x1⟩ => tE_mono (bindE tgP e1 s1 p1) fun y H2 ⟨dy, S2, L2, r2, s2, e2, p2, x2⟩ => ⟨dx, dy, S2, L2, _, r1.ext s1 x2, r2, s2, p2⟩
theorem se_un {op : UnaryOp} {o : D → Store → R D} (ho : UnR X (unaryOp op) (rU1 X.K LT T o)) (ha : SE LT T X a fa) : SE LT T X (.UnaryOp op a pos) (c1 o fa) := fun W tk => (pe_un ho (ha W tk)).imp fun σ H Q ⟨ρ, S, L, er, sr, p⟩ =>
  tE_mono (bindE tgP er sr p) fun x H1 ⟨dx, S1, L1, r1, s1, e1, p1, x1⟩ => ⟨dx, S1, L1, _, r1, s1, p1⟩
theorem se_cmp {op : CmpOp} {o : D → D → Store → R D} (ho : OpR X (compareOp op) (rB X.K LT T o)) (hm : behindInMarks op b = false) (ha : SE LT T X a fa) (hb : SE LT T X b fb) : SE LT T X (.Compare a [op] [b] pos) (c2 o fa fb) := fun W tk => (pe_cmpR ho (ha W tk) (hb W tk) hm).imp fun σ H Q ⟨ρ, S, L, er, sr, p⟩ =>
  tE_mono (bindE tgP er sr p) fun x H1 ⟨dx, S1, L1, r1, s1, e1, p1, x1⟩ => tE_mono (bindE tgP e1 s1 p1) fun y H2 ⟨dy, S2, L2, r2, s2, e2, p2, x2⟩ => ⟨dx, dy, S2, L2, _, r1.ext s1 x2, r2, s2, p2⟩
theorem RepV.bl_inv {K : PySem.W.Frag} {L : List Addr} {H : Hp} {d : D} {k : Bool} (r : RepV K LT L H d (.bl k)) : d = .bl k := by cases r; rfl
theorem post_bl {K : PySem.W.Frag} {L : List Addr} {H : Hp} {W : XW} {r : R D} {Q : Bool → Hp → Prop} (h : PostP K LT T L H W (r.bind fun x S1 => match x with | .bl c => .ok c S1 | _ => .bad) Q) : Post K LT T L H W r fun x H1 => ∃ k, x = .bl k ∧ Q k H1 := by
  cases r with
  | ok d S' =>
    intro v H' L' rv s e
    cases rv with
    | bl k => exact ⟨k, rfl, h H' L' s e⟩
    | _ => exact h.elim
  | exc c S' => exact h
  | bad => exact h
theorem sts_cmp {op : CmpOp} {o : D → D → Store → R D} (ho : OpR X (compareOp op) (rB X.K LT T o)) (hm : behindInMarks op b = false) (ha : SE LT T X a fa) (hb : SE LT T X b fb) : STs LT T X (.Compare a [op] [b] pos) (tV (c2 o fa fb)) := fun W tk => (pt_cmpR ho (ha W tk) (hb W tk) hm).imp fun σ H Q ⟨ρ, S, L, er, sr, p⟩ =>
  tE_mono (bindE tgP er sr (post_bl p)) fun x H1 ⟨dx, S1, L1, r1, s1, e1, p1, x1⟩ => tE_mono (bindE tgP e1 s1 p1) fun y H2 ⟨dy, S2, L2, r2, s2, e2, p2, x2⟩ => ⟨dx, dy, S2, L2, _, r1.ext s1 x2, r2, s2, p2⟩
/-- a value's test -/
theorem sts_val (ha : SE LT T X a fa) (he : ∀ whole, isTrue a X.env whole = (do let v ← whole; standAt a.pos; holding [v] (truthy v))) : STs LT T X a (tV fa) := fun W tk => (pt_val (ha W tk) he).imp fun σ H Q ⟨ρ, S, L, er, sr, p⟩ => ⟨ρ, S, L, er, sr, post_bl p⟩
/-- the chain's reading, from the combinator's -/
theorem chain_read {op op' : CmpOp} {o o' : D → D → Store → R D} {W : WX} {σ : L2.St} {H : Hp} {Q : VK} {ρ : Env} {S : Store} {L : List Addr} (er : ER X.K LT L H ρ σ) (sr : SR X.K LT T L S H) (p : Post X.K LT T L H (at_ W σ) (cChain o o' fa fb fc ρ S) Q) :
    tChain (rB X.K LT T o) (rB X.K LT T o') (tE X.K LT T fa W) (tE X.K LT T fb W) (tE X.K LT T fc W) σ H Q :=
  tE_mono (bindE tgP er sr p) fun x H1 ⟨dx, S1, L1, r1, s1, e1, p1, x1⟩ => tE_mono (bindE tgP e1 s1 p1) fun y H2 ⟨dy, S2, L2, r2, s2, e2, p2, x2⟩ => by
    refine ⟨dx, dy, S2, L2, at_ W σ, r1.ext s1 x2, r2, s2, ?_⟩
    cases q : o dx dy S2 with
    | bad => rw [q] at p2; exact p2.elim
    | exc c S' => rw [q] at p2; exact p2
    | ok z S3 =>
      rw [q] at p2
      intro v H3 L3 r3 s3 e3
      cases r3 with
      | bl k =>
        refine ⟨k, rfl, ?_⟩
        have p3 := Post.weak (show Post X.K LT T L2 H2 (at_ W σ) (if k = true then (fc ρ S3).bind fun w S4 => o' dy w S4 else .ok (.bl false) S3) Q from p2) e3
        cases k with
        | true =>
          rw [if_pos rfl] at p3 ⊢
          exact tE_mono (bindE tgP (e2.ext s2 e3) s3 p3) fun w H4 ⟨dw, S4, L4, r4, s4, e4, p4, x4⟩ => ⟨dy, dw, S4, L4, _, (r2.ext s2 e3).ext s3 x4, r4, s4, p4⟩
        | false =>
          rw [if_neg Bool.false_ne_true] at p3 ⊢
          exact p3 _ _ _ (.bl false) s3 (Ext.refl _ _)
      | _ => exact (show False from p2).elim
theorem se_chain {op op' : CmpOp} {o o' : D → D → Store → R D} (ho : OpR X (compareOp op) (rB X.K LT T o)) (ho' : OpR X (compareOp op') (rB X.K LT T o')) (hm : lastMarks [op, op'] [b, c] = false) (ha : SE LT T X a fa) (hb : SE LT T X b fb) (hc : SE LT T X c fc) :
    SE LT T X (.Compare a [op, op'] [b, c] pos) (cChain o o' fa fb fc) := fun W tk => (pe_chain ho ho' (ha W tk) (hb W tk) (hc W tk) hm).imp fun σ H Q ⟨ρ, S, L, er, sr, p⟩ => chain_read (op := op) (op' := op') er sr p
theorem sts_chain {op op' : CmpOp} {o o' : D → D → Store → R D} (ho : OpR X (compareOp op) (rB X.K LT T o)) (ho' : OpR X (compareOp op') (rB X.K LT T o')) (hm : lastMarks [op, op'] [b, c] = false) (ha : SE LT T X a fa) (hb : SE LT T X b fb) (hc : SE LT T X c fc) :
    STs LT T X (.Compare a [op, op'] [b, c] pos) (tV (cChain o o' fa fb fc)) := fun W tk => (pt_chain ho ho' (ha W tk) (hb W tk) (hc W tk) hm).imp fun σ H Q ⟨ρ, S, L, er, sr, p⟩ => chain_read (op := op) (op' := op') er sr (post_bl p)
theorem se_not (ha : SE LT T X a fa) : SE LT T X (.UnaryOp .Not a pos) (c1 oNot fa) := fun W tk => (pe_not (ha W tk)).imp fun σ H Q ⟨ρ, S, L, er, sr, p⟩ =>
  tE_mono (bindE tgP er sr p) fun x H1 ⟨dx, S1, L1, r1, s1, e1, p1, x1⟩ => by
    cases r1 with
    | bl k => exact ⟨k, rfl, p1 _ _ _ (.bl _) s1 (Ext.refl _ _)⟩
    | _ => exact (show False from p1).elim
theorem se_and {rest : List Expr} (ha : SE LT T X a fa) (hb : SE LT T X (.BoolOp .And (b :: rest) pos) fb) : SE LT T X (.BoolOp .And (a :: b :: rest) pos) (cAnd fa fb) := fun W tk => (pe_and (ha W tk) (hb W tk)).imp fun σ H Q ⟨ρ, S, L, er, sr, p⟩ =>
  tE_mono (bindE tgP er sr p) fun x H1 ⟨dx, S1, L1, r1, s1, e1, p1, x1⟩ => by
    cases r1 with
    | bl k =>
      refine ⟨k, rfl, ?_⟩
      cases k with
      | true => exact ⟨ρ, S1, L1, e1, s1, p1⟩
      | false => exact (show Post X.K LT T L1 H1 (at_ W σ) (.ok (.bl false) S1) Q from p1) _ _ _ (.bl _) s1 (Ext.refl _ _)
    | _ => exact (show False from p1).elim
theorem se_or {rest : List Expr} (ha : SE LT T X a fa) (hb : SE LT T X (.BoolOp .Or (b :: rest) pos) fb) : SE LT T X (.BoolOp .Or (a :: b :: rest) pos) (cOr fa fb) := fun W tk => (pe_or (ha W tk) (hb W tk)).imp fun σ H Q ⟨ρ, S, L, er, sr, p⟩ =>
  tE_mono (bindE tgP er sr p) fun x H1 ⟨dx, S1, L1, r1, s1, e1, p1, x1⟩ => by
    cases r1 with
    | bl k =>
      refine ⟨k, rfl, ?_⟩
      cases k with
      | false => exact ⟨ρ, S1, L1, e1, s1, p1⟩
      | true => exact (show Post X.K LT T L1 H1 (at_ W σ) (.ok (.bl true) S1) Q from p1) _ _ _ (.bl _) s1 (Ext.refl _ _)
    | _ => exact (show False from p1).elim
theorem se_one {op : BoolOp} (ha : SE LT T X a fa) : SE LT T X (.BoolOp op [a] pos) fa := fun W tk => pe_one (ha W tk)
theorem tT_mono {K : PySem.W.Frag} {f : Ts} {W : WX} {σ : L2.St} {H : Hp} {Q Q' : Bool → Hp → Prop} (h : tT K LT T f W σ H Q) (i : ∀ v H', Q v H' → Q' v H') : tT K LT T f W σ H Q' := by
  obtain ⟨ρ, S, L, er, sr, p⟩ := h
  refine ⟨ρ, S, L, er, sr, ?_⟩
  cases q : f ρ S with
  | ok d S' => rw [q] at p; exact fun H' L' b c => i _ _ (p H' L' b c)
  | exc c S' => rw [q] at p; exact p
  | bad => rw [q] at p; exact p
theorem se_if {t : Expr} (ht : STs LT T X t ft) (ha : SE LT T X a fa) (hb : SE LT T X b fb) : SE LT T X (.IfExp t a b pos) (cIf ft fa fb) := fun W tk => (pe_ifExp (ht W tk) (ha W tk) (hb W tk)).imp fun σ H Q ⟨ρ, S, L, er, sr, p⟩ =>
  tT_mono (bindT tgP er sr p) fun k H1 ⟨S1, L1, s1, e1, p1, x1⟩ => by
    cases k with
    | true => exact ⟨ρ, S1, L1, e1, s1, p1⟩
    | false => exact ⟨ρ, S1, L1, e1, s1, p1⟩
/-! ### tests -/
theorem sts_not (ha : STs LT T X a ft) : STs LT T X (.UnaryOp .Not a pos) (tNot ft) := fun W tk => (pt_not (ha W tk)).imp fun σ H Q ⟨ρ, S, L, er, sr, p⟩ =>
  tT_mono (bindT tgPP er sr p) fun k H1 ⟨S1, L1, s1, e1, p1, x1⟩ => p1 _ _ s1 (Ext.refl _ _)
theorem sws_and1 (ha : STs LT T X a ft) : SWs LT T X (.BoolOp .And [a] pos) ft := fun W tk => pw_and1 (ha W tk)
theorem sws_or1 (ha : STs LT T X a ft) : SWs LT T X (.BoolOp .Or [a] pos) ft := fun W tk => pw_or1 (ha W tk)
theorem sws_and {rest : List Expr} (ha : STs LT T X a ft) (hb : SWs LT T X (.BoolOp .And (b :: rest) pos) ft') : SWs LT T X (.BoolOp .And (a :: b :: rest) pos) (tAnd ft ft') := fun W tk => (pw_and (ha W tk) (hb W tk)).imp fun σ H Q ⟨ρ, S, L, er, sr, p⟩ =>
  tT_mono (bindT tgPP er sr p) fun k H1 ⟨S1, L1, s1, e1, p1, x1⟩ => by
    cases k with
    | true => exact ⟨ρ, S1, L1, e1, s1, p1⟩
    | false => exact (show PostP X.K LT T L1 H1 (at_ W σ) (.ok false S1) Q from p1) _ _ s1 (Ext.refl _ _)
theorem sws_or {rest : List Expr} (ha : STs LT T X a ft) (hb : SWs LT T X (.BoolOp .Or (b :: rest) pos) ft') : SWs LT T X (.BoolOp .Or (a :: b :: rest) pos) (tOr ft ft') := fun W tk => (pw_or (ha W tk) (hb W tk)).imp fun σ H Q ⟨ρ, S, L, er, sr, p⟩ =>
  tT_mono (bindT tgPP er sr p) fun k H1 ⟨S1, L1, s1, e1, p1, x1⟩ => by
    cases k with
    | false => exact ⟨ρ, S1, L1, e1, s1, p1⟩
    | true => exact (show PostP X.K LT T L1 H1 (at_ W σ) (.ok true S1) Q from p1) _ _ s1 (Ext.refl _ _)
theorem sts_w (h : SWs LT T X a ft) : STs LT T X a ft := fun W tk => (h W tk).pt
/-! ### argument lists -/
theorem sar_nil : SAr LT T X [] aNil := fun W tk => PA.imp pa_nil fun σ H Q ⟨ρ, S, L, er, sr, p⟩ => p [] H L .nil sr (Ext.refl _ _)
theorem tA_mono {K : PySem.W.Frag} {f : Ar} {W : WX} {σ : L2.St} {H : Hp} {Q Q' : List V → Hp → Prop} (h : tA K LT T f W σ H Q) (i : ∀ v H', Q v H' → Q' v H') : tA K LT T f W σ H Q' := by
  obtain ⟨ρ, S, L, er, sr, p⟩ := h
  refine ⟨ρ, S, L, er, sr, ?_⟩
  cases q : f ρ S with
  | ok d S' => rw [q] at p; exact fun v H' L' a b c => i _ _ (p v H' L' a b c)
  | exc c S' => rw [q] at p; exact p
  | bad => rw [q] at p; exact p
theorem sar_cons (hs : notStar e = true) (ha : SE LT T X e fa) (hr : SAr LT T X es fs) : SAr LT T X (e :: es) (aCons fa fs) := fun W tk => (pa_cons (ha W tk) (hr W tk) (star_cons hs)).imp fun σ H Q ⟨ρ, S, L, er, sr, p⟩ =>
  tE_mono (bindE tgPA er sr p) fun x H1 ⟨dx, S1, L1, r1, s1, e1, p1, x1⟩ => tA_mono (bindA tgPA e1 s1 p1) fun xs H2 ⟨ds, S2, L2, r2, s2, e2, p2, x2⟩ => p2 _ _ _ (.cons (r1.ext s1 x2) r2) s2 (Ext.refl _ _)
/-! ### displays -/
theorem se_tup {k : Nat} (h : SAr LT T X es fs) : SE LT T X (.Tuple es k pos) (cN oTup fs) := fun W tk => (pe_tup (h W tk)).imp fun σ H Q ⟨ρ, S, L, er, sr, p⟩ =>
  tA_mono (bindA tgP er sr p) fun xs H1 ⟨ds, S1, L1, r1, s1, e1, p1, x1⟩ => by
    unfold oTup at p1
    split at p1
    · rename_i hz
      refine ⟨by rw [← r1.length]; exact hz, fun q hq => ?_⟩
      exact p1 _ _ _ (.tup (SqT.of upd_same) (fun z => nomatch z) (fun z => nomatch z) (r1.ext s1 (Ext.new hq))) (s1.new hq) (Ext.new hq)
    · exact p1.elim
theorem se_tupO {k : Nat} (h : SAr LT T X es fs) : SE LT T X (.Tuple es k pos) (cN oTupO fs) := fun W tk => (pe_tup (h W tk)).imp fun σ H Q ⟨ρ, S, L, er, sr, p⟩ =>
  tA_mono (bindA tgP er sr p) fun xs H1 ⟨ds, S1, L1, r1, s1, e1, p1, x1⟩ => by
    unfold oTupO at p1
    split at p1
    · rename_i hz
      refine ⟨by rw [← r1.length]; exact hz, fun q hq => ?_⟩
      exact p1 _ _ _ (.tup (SqT.of upd_same) (fun z => nomatch z) (fun _ => upd_same) (r1.ext s1 (Ext.new hq))) (s1.new hq) (Ext.new hq)
    · exact p1.elim
/-- the items of a written list -/
def aDisp (as : Ar) : Ar := fun ρ S => (as ρ S).bind fun xs S1 => if xs.length ≤ sizeLine then .ok xs S1 else .bad
theorem sls_disp (h : SAr LT T X es fs) : SLs LT T X (.List es pos) (aDisp fs) := fun W tk => (pe_lst (h W tk)).imp fun σ H Q ⟨ρ, S, L, er, sr, p⟩ => by
  have key : tA X.K LT T fs W σ H fun xs H1 => ∃ ds S1 L1, RepVs X.K LT L1 H1 ds xs ∧ SR X.K LT T L1 S1 H1 ∧ ER X.K LT L1 H1 ρ σ ∧ PostL X.K LT T L H (at_ W σ) (if ds.length ≤ sizeLine then .ok ds S1 else .bad) Q ∧ Ext L H L1 H1 := by
    refine ⟨ρ, S, L, er, sr, ?_⟩
    unfold aDisp at p
    cases q : fs ρ S with
    | ok d S' => rw [q] at p; exact fun v H' L' r s e => ⟨d, S', L', r, s, er.ext sr e, p, e⟩
    | exc c S' => rw [q] at p; exact p
    | bad => rw [q] at p; exact p
  refine tA_mono key fun xs H1 ⟨ds, S1, L1, r1, s1, e1, p1, x1⟩ => ?_
  split at p1
  · rename_i hz
    refine ⟨by rw [← r1.length]; exact hz, fun q hq => ?_⟩
    have e2 : Ext L1 H1 L1 (upd H1 q (.lst xs)) := Ext.new hq
    refine p1 q xs _ L1 upd_same (s1.notNone hq) (fun o ho hn ht => ?_) (r1.ext s1 e2) (s1.new hq) (x1.trans e2)
    rw [x1.keep q o ho hn ht] at hq
    cases hq
  · exact p1.elim
/-- a list just made, put into the store -/
theorem tL_new {K : PySem.W.Frag} {as : Ar} {W : WX} {σ : L2.St} {H : Hp} {Q : VK} (h : tE K LT T (cNew as) W σ H Q) : tL K LT T as W σ H Q := by
  obtain ⟨ρ, S, L, er, sr, p⟩ := h
  refine ⟨ρ, S, L, er, sr, ?_⟩
  unfold cNew cN at p
  cases q : as ρ S with
  | ok ds S' =>
    rw [q] at p
    intro a vs H' L' h1 h2 h3 r s e
    have p' : Post K LT T L H (at_ W σ) (oLst ds S') Q := p
    unfold oLst at p'
    split at p'
    · rename_i hd
      exact p' (.ref a) H' (L' ++ [a]) (.ref (by rw [← s.len, List.getElem?_append_right (Nat.le_refl _), Nat.sub_self]; rfl)) (s.adopt h1 h2 r hd.1) (e.adopt' h3)
    · exact p'.elim
  | exc c S' => rw [q] at p; exact p
  | bad => rw [q] at p; exact p
theorem se_new (h : SLs LT T X e fs) : SE LT T X e (cNew fs) := fun W tk => (h W tk).imp fun σ H Q q => tL_new q
/-! ### built-in functions -/
structure Bi (X : Cx) (x : Str) (u : Value) : Prop where
  g : Gl X x
  n : X.mg x = none
  b : bootBuiltins x = some u
  nn : x ≠ "__name__"
  nd : (x == ("__debug__" : Str)) = false
theorem se_callB {x : Str} {id : String} {o : List D → Store → R D} (hc : CallR X (.builtin id) (rC X.K LT T o)) (B : Bi X x (.builtin id)) (h1 : notStar e = true) (h2 : es.all notStar = true) (ha : SAr LT T X (e :: es) fs) : SE LT T X (.Call (.Name x p) (e :: es) [] pos) (cN o fs) := fun W tk =>
  (pe_callB hc B.g B.n B.b (ha W tk) B.nn B.nd (star_cons h1) (star_any h2)).imp fun σ H Q ⟨ρ, S, L, er, sr, p⟩ =>
    tA_mono (bindA tgP er sr p) fun xs H1 ⟨ds, S1, L1, r1, s1, e1, p1, x1⟩ => ⟨ds, S1, L1, _, r1, s1, p1⟩
theorem se_callTy {x : Str} {id : String} {o : List D → Store → R D} (hc : CallR X (.type id) (rC X.K LT T o)) (B : Bi X x (.type id)) (h1 : notStar e = true) (h2 : es.all notStar = true) (ha : SAr LT T X (e :: es) fs) : SE LT T X (.Call (.Name x p) (e :: es) [] pos) (cN o fs) := fun W tk =>
  (pe_callTy hc B.g B.n B.b (ha W tk) B.nn B.nd (star_cons h1) (star_any h2)).imp fun σ H Q ⟨ρ, S, L, er, sr, p⟩ =>
    tA_mono (bindA tgP er sr p) fun xs H1 ⟨ds, S1, L1, r1, s1, e1, p1, x1⟩ => ⟨ds, S1, L1, _, r1, s1, p1⟩
/-- .. of a list just made -/
theorem tL_mono {K : PySem.W.Frag} {f : Ar} {W : WX} {σ : L2.St} {H : Hp} {Q Q' : VK} (h : tL K LT T f W σ H Q) (i : ∀ v H', Q v H' → Q' v H') : tL K LT T f W σ H Q' := by
  obtain ⟨ρ, S, L, er, sr, p⟩ := h
  refine ⟨ρ, S, L, er, sr, ?_⟩
  cases q : f ρ S with
  | ok d S' => rw [q] at p; exact fun a v H' L' h1 h2 h3 b c e => i _ _ (p a v H' L' h1 h2 h3 b c e)
  | exc c S' => rw [q] at p; exact p
  | bad => rw [q] at p; exact p
theorem se_callBK {x : Str} {id : String} {k : List D → Store → R D} (hc : CallR X (.builtin id) (rK X.K LT T k)) (B : Bi X x (.builtin id)) (h1 : notStar e = true) (ha : SLs LT T X e fs) : SE LT T X (.Call (.Name x p) [e] [] pos) (cK k fs) := fun W tk =>
  (pe_callB hc B.g B.n B.b (pa_cons (ha W tk) pa_nil (star_cons h1)) B.nn B.nd (star_cons h1) rfl).imp fun σ H Q ⟨ρ, S, L, er, sr, p⟩ =>
    tL_mono (bindL tgP er sr p) fun x H1 ⟨q, ds, vs, S1, L1, ex, hq, _, _, r1, s1, e1, p1, x1⟩ => ⟨q, vs, ds, S1, L1, _, by rw [ex], SqL.of hq, r1, s1, p1⟩
theorem se_callTyK {x : Str} {id : String} {k : List D → Store → R D} (hc : CallR X (.type id) (rK X.K LT T k)) (B : Bi X x (.type id)) (h1 : notStar e = true) (ha : SLs LT T X e fs) : SE LT T X (.Call (.Name x p) [e] [] pos) (cK k fs) := fun W tk =>
  (pe_callTy hc B.g B.n B.b (pa_cons (ha W tk) pa_nil (star_cons h1)) B.nn B.nd (star_cons h1) rfl).imp fun σ H Q ⟨ρ, S, L, er, sr, p⟩ =>
    tL_mono (bindL tgP er sr p) fun x H1 ⟨q, ds, vs, S1, L1, ex, hq, _, _, r1, s1, e1, p1, x1⟩ => ⟨q, vs, ds, S1, L1, _, by rw [ex], SqL.of hq, r1, s1, p1⟩
/-- isinstance(a, a built-in class) -/
theorem se_isI {n : String} {y : Str} (hn : n ∈ ["int", "bool", "tuple", "str", "dict", "list"]) (B : Bi X "isinstance" (.builtin "isinstance")) (C : Bi X y (.type n)) (h1 : notStar a = true) (ha : SE LT T X a fa) : SE LT T X (.Call (.Name "isinstance" p) [a, .Name y p2] [] pos) (c1 (oIsI n) fa) := fun W tk =>
  (pe_callB (cr_isI (LT := LT) (T := T) hn) B.g B.n B.b (pa_cons (ha W tk) (pa_cons (pe_bltn (v := .ty n) C.g C.n C.b rfl C.nn C.nd) pa_nil (star_cons rfl)) (star_cons h1)) B.nn B.nd (star_cons h1) rfl).imp fun σ H Q ⟨ρ, S, L, er, sr, p⟩ =>
    tE_mono (bindE tgP er sr p) fun x H1 ⟨dx, S1, L1, r1, s1, e1, p1, x1⟩ => ⟨x, dx, S1, L1, _, rfl, r1, s1, p1⟩
/-! ### subscripts, slices -/
theorem se_ix (hu : X.A.units + 65 < cLine) (hs : PlainIx b) (ha : SE LT T X a fa) (hb : SE LT T X b fb) : SE LT T X (.Subscript a b pos) (c2 oIx fa fb) := fun W tk => (pe_ix (ir_ix hu) (ha W tk) (hb W tk) hs).imp fun σ H Q ⟨ρ, S, L, er, sr, p⟩ =>
  tE_mono (bindE tgP er sr p) fun x H1 ⟨dx, S1, L1, r1, s1, e1, p1, x1⟩ => tE_mono (bindE tgP e1 s1 p1) fun y H2 ⟨dy, S2, L2, r2, s2, e2, p2, x2⟩ => ⟨dx, dy, S2, L2, _, r1.ext s1 x2, r2, s2, p2⟩
theorem spt_no : SPt LT T X none pNo := fun W tk => PO.imp po_none fun σ H Q ⟨ρ, S, L, er, sr, p⟩ => p H L sr (Ext.refl _ _)
theorem spt_some (ha : SE LT T X a fa) : SPt LT T X (some a) (pSome fa) := fun W tk => (po_some (ha W tk)).imp fun σ H Q ⟨ρ, S, L, er, sr, p⟩ =>
  tE_mono (bindE tgPP er sr p) fun x H1 ⟨dx, S1, L1, r1, s1, e1, p1, x1⟩ => by
    cases r1 with
    | int i => exact ⟨i, rfl, p1 _ _ s1 (Ext.refl _ _)⟩
    | _ => exact (show False from p1).elim
theorem tP_mono {K : PySem.W.Frag} {f : Pt} {W : WX} {σ : L2.St} {H : Hp} {Q Q' : Option Int → Hp → Prop} (h : tP K LT T f W σ H Q) (i : ∀ v H', Q v H' → Q' v H') : tP K LT T f W σ H Q' := by
  obtain ⟨ρ, S, L, er, sr, p⟩ := h
  refine ⟨ρ, S, L, er, sr, ?_⟩
  cases q : f ρ S with
  | ok d S' => rw [q] at p; exact fun H' L' b c => i _ _ (p H' L' b c)
  | exc c S' => rw [q] at p; exact p
  | bad => rw [q] at p; exact p
theorem se_cutT {lo hi : Option Expr} {fl fh : Pt} (ha : SE LT T X a fa) (hl : SPt LT T X lo fl) (hh : SPt LT T X hi fh) : SE LT T X (.Subscript a (.Slice lo hi none p2) pos) (cCutT fa fl fh) := fun W tk => (pe_slice sl_tupA (ha W tk) (hl W tk) (hh W tk)).imp fun σ H Q ⟨ρ, S, L, er, sr, p⟩ =>
  tE_mono (bindE tgP er sr p) fun x H1 ⟨dx, S1, L1, r1, s1, e1, p1, x1⟩ => tP_mono (bindP tgP e1 s1 p1) fun l H2 ⟨S2, L2, s2, e2, p2, x2⟩ => tP_mono (bindP tgP e2 s2 p2) fun h H3 ⟨S3, L3, s3, e3, p3, x3⟩ => by
    have r3 := (r1.ext s1 x2).ext s2 x3
    cases r3 with
    | @tup n q vs ds hq _ _ rr =>
      have hc := rr.cut l h
      refine ⟨q, vs, rfl, hq, fun hw => ?_, fun _ t ht => ?_⟩
      · have ecut : cutV vs l h = vs := by
          unfold cutV
          rw [hw.1, hw.2, List.drop_zero, Nat.sub_zero, List.take_length]
        rw [ecut] at hc
        exact p3 _ _ _ (.tup hq (fun z => nomatch z) (fun z => nomatch z) hc) s3 (Ext.refl _ _)
      · exact p3 _ _ _ (.tup (SqT.of upd_same) (fun z => nomatch z) (fun z => nomatch z) (hc.ext s3 (Ext.new ht))) (s3.new ht) (Ext.new ht)
    | _ => exact (show False from p3).elim
theorem sls_cutL {lo hi : Option Expr} {fl fh : Pt} (ha : SE LT T X a fa) (hl : SPt LT T X lo fl) (hh : SPt LT T X hi fh) : SLs LT T X (.Subscript a (.Slice lo hi none p2) pos) (aCutL fa fl fh) := fun W tk => (pe_slice sl_list (ha W tk) (hl W tk) (hh W tk)).imp fun σ H Q ⟨ρ, S, L, er, sr, p⟩ =>
  tE_mono (bindE tgPL er sr p) fun x H1 ⟨dx, S1, L1, r1, s1, e1, p1, x1⟩ => tP_mono (bindP tgPL e1 s1 p1) fun l H2 ⟨S2, L2, s2, e2, p2, x2⟩ => tP_mono (bindP tgPL e2 s2 p2) fun h H3 ⟨S3, L3, s3, e3, p3, x3⟩ => by
    have r3 := (r1.ext s1 x2).ext s2 x3
    have fin : ∀ {ds : List D} {vs : List V} {q : Addr}, RepVs X.K LT L3 H3 ds vs → SqL X.K H3 q vs → PostL X.K LT T L3 H3 (at_ W σ) (.ok (cutD ds l h) S3) Q → rSlL X.K (.ref q) l h H3 Q := fun {ds vs q} rr hq pp => ⟨q, vs, rfl, hq, fun t ht =>
      pp t _ _ L3 upd_same (s3.notNone ht) (fun o ho _ _ => by rw [ht] at ho; cases ho) ((rr.cut l h).ext s3 (Ext.new ht)) (s3.new ht) (Ext.new ht)⟩
    cases r3 with
    | rol hq rr => exact fin rr hq.sq p3
    | @ref n q hl =>
      obtain ⟨mo, hs, ro⟩ := s3.at_ hl
      have p3' : PostL X.K LT T L3 H3 (at_ W σ) (match S3[n]? with | some (MO.lst xs) => .ok (cutD xs l h) S3 | _ => .bad) Q := p3
      rw [hs] at p3'
      cases mo with
      | lst ds =>
        obtain ⟨vs, h1, h2, _⟩ := ro
        exact fin h2 (SqL.of h1) p3'
      | dK kvs => exact (show False from p3').elim
      | dT kvs => exact (show False from p3').elim
    | _ => exact (show False from p3).elim
end
end Pf
end

section
set_option Elab.async false
set_option linter.all false
set_option maxRecDepth 100000
set_option maxHeartbeats 1000000
/-! P5: methods, lists as operands, what is walked, comprehensions. -/
namespace Pf
open PySem PySem.Spec PyProof.Rows L2
section
variable {LT : XAt} {T : List (Addr × Str)} {X : Cx} {e a b c o : Expr} {es : List Expr} {f fa fb fc : Ex} {fs : Ar} {ft ft' : Ts} {pos p p2 apos cpos : Pos} {j : Nat}
theorem few_of {pos : Pos} {env : PySem.Env} {e : Expr} {es : List Expr} (h1 : (e :: es).all notStar = true) (h2 : (e :: es).length < 30) :
    ((backTo pos (starEach (e :: es) env)).all (fun x => !x.1) && (backToKw pos (keywordEach [] env)).all (fun x => x.1.isSome)
      && decide ((e :: es).length + ([] : List Keyword).length + (if ([] : List Keyword).isEmpty then 0 else 1) < 30)) = true := by
  have key : ∀ es : List Expr, es.all notStar = true → (backTo pos (starEach es env)).all (fun x => !x.1) = true := by
    intro es
    induction es with
    | nil => intro _; rfl
    | cons e es ih =>
      intro h
      rw [List.all_cons, Bool.and_eq_true] at h
      rw [star_cons h.1]
      show ((!false && (backTo pos (starEach es env)).all (fun x => !x.1)) = true)
      rw [ih h.2] <;> rfl
  rw [key _ h1]
  have e1 : (backToKw pos (keywordEach [] env)).all (fun x => x.1.isSome) = true := rfl
  rw [e1]
  simp only [Bool.true_and, decide_eq_true_eq]
  simpa using h2
/-- a list's method -/
theorem se_meth {name : Str} {id : String} {op : D → List D → Store → R D} (pa : PlainAttrs "list") (slot : Slot "list" name id) (hty : typeOf (.builtin id) = pure (.type "method_descriptor")) (hm : MtR X id (rM X.K LT T op)) (hbase : attributeBase o name X.env (eval o X.env) = eval o X.env) (hline : (apos.endLine == cpos.line) = true)
    (h1 : (e :: es).all notStar = true) (h2 : (e :: es).length < 30) (ho : SE LT T X o fa) (ha : SAr LT T X (e :: es) fs) : SE LT T X (.Call (.Attribute o name apos) (e :: es) [] cpos) (cM op fa fs) := fun W tk => by
  have h1' := h1
  rw [List.all_cons, Bool.and_eq_true] at h1'
  refine (pe_bm (T := "list") pa slot hty hm (ho W tk) (ha W tk) hbase (few_of h1 h2) hline (star_cons h1'.1) (star_any h1'.2)).imp fun σ H Q ⟨ρ, S, L, er, sr, p⟩ => ?_
  refine tE_mono (bindE tgP er sr p) fun x H1 ⟨dx, S1, L1, r1, s1, e1, p1, x1⟩ => ?_
  split at p1
  · rename_i hl
    obtain ⟨ds, hds⟩ := Option.isSome_iff_exists.mp hl
    obtain ⟨q, vs, rfl, rr, hq⟩ := lst_of s1 hds r1
    refine ⟨.inl ⟨rfl, vs, hq⟩, ?_⟩
    exact tA_mono (bindA tgP e1 s1 p1) fun xs H2 ⟨es, S2, L2, r2, s2, e2, p2, x2⟩ => ⟨dx, es, S2, L2, _, r1.ext s1 x2, r2, s2, p2⟩
  · exact p1.elim
/-- a method of a tuple that is known to have no dict -/
theorem se_methT {name : Str} {id : String} {op : D → List D → Store → R D} (pa : PlainAttrs "tuple") (slot : Slot "tuple" name id) (hty : typeOf (.builtin id) = pure (.type "method_descriptor")) (hm : MtR X id (rM X.K LT T op)) (hbase : attributeBase o name X.env (eval o X.env) = eval o X.env) (hline : (apos.endLine == cpos.line) = true)
    (h1 : (e :: es).all notStar = true) (h2 : (e :: es).length < 30) (ho : SE LT T X o fa) (ha : SAr LT T X (e :: es) fs) : SE LT T X (.Call (.Attribute o name apos) (e :: es) [] cpos) (cMT op fa fs) := fun W tk => by
  have h1' := h1
  rw [List.all_cons, Bool.and_eq_true] at h1'
  refine ⟨fun pins s σ H Q I ⟨ρ, S, L, er, sr, p⟩ => ?_⟩
  have q0 := (ho W tk).run pins s σ H _ I (bindE tgP er sr p)
  refine wpAny_Call_method_late hbase (few_of h1 h2) hline rfl (thn q0 fun v s1 ⟨x, H1, I1, rv, dx, S1, L1, r1, sr1, e1, p1, x1⟩ => ?_)
  split at p1
  · rename_i ds
    cases r1 with
    | @tup _ a vs _ hq hd hown rr =>
      obtain ⟨oT, hT, hTd⟩ := hd rfl
      cases rv
      obtain ⟨ho1, _⟩ := I1.hok a _ hT
      obtain ⟨its, _, pl, _⟩ := I1.tuple hq
      have hty' : s1.TypeIs (.ref a) "tuple" := by
        obtain ⟨o', ho', hc', _⟩ := pl
        exact ⟨o', ho', hc'⟩
      refine ⟨"tuple", id, pa, slot, hty, hty', fun a' ea => (by cases ea; exact ⟨oT, ho1, hTd⟩), ?_⟩
      have hA := (ha W tk).run cpos pins s1 σ H1 _ I1 (bindA tgP e1 sr1 p1)
      rw [star_cons h1'.1] at hA ⊢
      refine Calls.callWith_builtin (by show (false || (backTo cpos (starEach es X.env)).any (·.1)) = false; rw [star_any h1'.2] <;> rfl) (Calls.evalArgs_plain ?_)
      exact thn hA fun us s2 ⟨ws, H2, I2, r2, es2, S2, L2, r3, sr2, e2, p2, x2⟩ => hm pins s2 σ H2 (.ref a) ws _ us Q I2 rfl r2 ⟨_, es2, S2, L2, _, (RepV.tup hq hd hown rr).ext sr1 x2, r3, sr2, p2⟩
  · exact p1.elim
/-! ### lists as operands -/
/-- where a list's items stay -/
def Stays (K : PySem.W.Frag) (LT : XAt) (T : List (Addr × Str)) (L : List Addr) (H : Hp) (p : Addr) (ds : List D) (g : Gd) : Prop :=
  ∀ L2 S2 H2, SR K LT T L2 S2 H2 → Ext L H L2 H2 → gdOk g S2 → ∃ vs, H2 p = some (.lst vs) ∧ RepVs K LT L2 H2 ds vs
def PostO (K : PySem.W.Frag) (LT : XAt) (T : List (Addr × Str)) (L : List Addr) (H : Hp) (W : XW) (r : R (List D × Gd)) (Q : VK) : Prop := match r with
  | .ok q S' => ∀ p H' L', Stays K LT T L' H' p q.1 q.2 → gdOk q.2 S' → SR K LT T L' S' H' → Ext L H L' H' → Q (.ref p) H'
  | .exc c S' => ∀ (dx : DX c) H' L', SR K LT T L' S' H' → Ext L H L' H' → W (.ref (He.ga K c)) dx.1 H'
  | .bad => False
def tO (K : PySem.W.Frag) (LT : XAt) (T : List (Addr × Str)) (f : It) (W : WX) : TE := fun σ H Q => ∃ ρ S L, ER K LT L H ρ σ ∧ SR K LT T L S H ∧ PostO K LT T L H (at_ W σ) (f ρ S) Q
abbrev SOp (LT : XAt) (T : List (Addr × Str)) (X : Cx) (e : Expr) (f : It) : Prop := ∀ W, Takes X W → PE X e (tO X.K LT T f W)
theorem stays_new {K : PySem.W.Frag} {L : List Addr} {H : Hp} {S : Store} {p : Addr} {ds : List D} {vs : List V} (sr : SR K LT T L S H) (h : H p = some (.lst vs)) (n : p ∉ L) (r : RepVs K LT L H ds vs) : Stays K LT T L H p ds [] :=
  fun L2 S2 H2 s2 e _ => ⟨vs, e.keep p _ h n (fun ps z => by cases z), r.ext sr e⟩
theorem stays_ref {K : PySem.W.Frag} {L : List Addr} {H : Hp} {n : Nat} {p : Addr} {ds : List D} (h : L[n]? = some p) : Stays K LT T L H p ds [(n, ds)] := fun L2 S2 H2 s2 e g => by
  obtain ⟨vs, h1, h2, _⟩ := s2.objs n _ _ g.1 (e.get h)
  exact ⟨vs, h1, h2⟩
theorem sop_new (h : SLs LT T X e fs) : SOp LT T X e (iA fs) := fun W tk => (h W tk).imp fun σ H Q ⟨ρ, S, L, er, sr, p⟩ => by
  refine ⟨ρ, S, L, er, sr, ?_⟩
  unfold iA at p
  cases q : fs ρ S with
  | ok d S' =>
    rw [q] at p
    exact fun a vs H' L' h1 h2 h3 r s e => p a H' L' (stays_new s h1 h2 r) True.intro s e
  | exc c S' => rw [q] at p; exact p
  | bad => rw [q] at p; exact p
theorem sop_ref (h : SE LT T X e f) : SOp LT T X e (iL f) := fun W tk => (h W tk).imp fun σ H Q ⟨ρ, S, L, er, sr, p⟩ => by
  refine ⟨ρ, S, L, er, sr, ?_⟩
  unfold iL at p
  cases q : f ρ S with
  | ok d S' =>
    rw [q] at p
    intro v H' L' rv s e'
    have p' : PostO X.K LT T L H (at_ W σ) (refL d S') Q := p
    unfold refL at p'
    cases rv with
    | @ref n a hl =>
      obtain ⟨mo, hs, ro⟩ := s.at_ hl
      dsimp only at p'
      rw [hs] at p'
      cases mo with
      | lst ds => exact p' a H' L' (stays_ref hl) ⟨hs, trivial⟩ s e'
      | dK kvs => exact p'.elim
      | dT kvs => exact p'.elim
    | _ => exact (show False from p').elim
  | exc c S' => rw [q] at p; exact p
  | bad => rw [q] at p; exact p
theorem tO_mono {K : PySem.W.Frag} {f : It} {W : WX} {σ : L2.St} {H : Hp} {Q Q' : VK} (h : tO K LT T f W σ H Q) (i : ∀ v H', Q v H' → Q' v H') : tO K LT T f W σ H Q' := by
  obtain ⟨ρ, S, L, er, sr, p⟩ := h
  refine ⟨ρ, S, L, er, sr, ?_⟩
  cases q : f ρ S with
  | ok d S' => rw [q] at p; exact fun a H' L' h1 h2 b c => i _ _ (p a H' L' h1 h2 b c)
  | exc c S' => rw [q] at p; exact p
  | bad => rw [q] at p; exact p
theorem bindO {β : Type} {Z : List Addr → Hp → R β → Prop} {K : PySem.W.Frag} {L : List Addr} {H : Hp} {S : Store} {ρ : Env} {σ : L2.St} {W : WX} {a : It} {g : List D × Gd → Store → R β} (tg : Tgt K LT T (at_ W σ) Z) (er : ER K LT L H ρ σ) (sr : SR K LT T L S H) (h : Z L H ((a ρ S).bind g)) :
    tO K LT T a W σ H fun x H1 => ∃ p q S1 L1, x = .ref p ∧ Stays K LT T L1 H1 p q.1 q.2 ∧ gdOk q.2 S1 ∧ SR K LT T L1 S1 H1 ∧ ER K LT L1 H1 ρ σ ∧ Z L1 H1 (g q S1) ∧ Ext L H L1 H1 := by
  refine ⟨ρ, S, L, er, sr, ?_⟩
  cases q : a ρ S with
  | ok d S' =>
    rw [q] at h
    exact fun p H' L' h1 h2 s e => ⟨p, d, S', L', rfl, h1, h2, s, er.ext sr e, tg.weak _ _ _ _ _ h e, e⟩
  | exc c S' => rw [q] at h; exact tg.exc _ _ _ _ h
  | bad => rw [q] at h; exact tg.bad _ _ h
/-- xs + ys -/
theorem sls_cat {i1 i2 : It} (ha : SOp LT T X a i1) (hb : SOp LT T X b i2) : SLs LT T X (.BinOp a .Add b pos) (aCat i1 i2) := fun W tk => (pe_op op_cat (ha W tk) (hb W tk)).imp fun σ H Q ⟨ρ, S, L, er, sr, p⟩ =>
  tO_mono (bindO tgPL er sr p) fun x H1 ⟨p1, q1, S1, L1, ex1, st1, g1, s1, e1, pp1, x1⟩ => tO_mono (bindO tgPL e1 s1 pp1) fun y H2 ⟨p2, q2, S2, L2, ex2, st2, g2, s2, e2, pp2, x2⟩ => by
    split at pp2
    · rename_i hg
      obtain ⟨vs1, h1, r1⟩ := st1 L2 S2 H2 s2 x2 hg.1
      obtain ⟨vs2, h2, r2⟩ := st2 L2 S2 H2 s2 (Ext.refl _ _) hg.2.1
      refine ⟨p1, p2, vs1, vs2, ex1, ex2, h1, h2, by rw [← r1.length, ← r2.length]; exact hg.2.2, fun t ht => ?_⟩
      exact pp2 t _ _ L2 upd_same (s2.notNone ht) (fun o ho _ _ => by rw [ht] at ho; cases ho) ((r1.app r2).ext s2 (Ext.new ht)) (s2.new ht) (Ext.new ht)
    · exact pp2.elim
/-- a op [..] -/
theorem dp_rol {K : PySem.W.Frag} {L : List Addr} {H : Hp} {ds : List D} {vs : List V} {q : Addr} {n : Nat} (h : okD n (.rol ds) = true) (hq : SqL K H q vs) (r : RepVs K LT L H ds vs) : Dp K H (.ref q) (toPy (.rol ds)) := by
  cases n with
  | zero => simp [okD] at h
  | succ n => exact .lst hq (dps_of n (by simpa [okD] using h) r)
theorem se_eqL (hu : X.A.units + 64 < cLine) (ha : SE LT T X a fa) (hb : SLs LT T X b fs) : SE LT T X (.Compare a [.Eq] [b] pos) (cEqL oEq fa fs) := fun W tk => (pe_cmpR (op_eqD hu) (ha W tk) (hb W tk) (nomark _)).imp fun σ H Q ⟨ρ, S, L, er, sr, p⟩ =>
  tE_mono (bindE tgP er sr p) fun x H1 ⟨dx, S1, L1, r1, s1, e1, p1, x1⟩ => tL_mono (bindL tgP e1 s1 p1) fun y H2 ⟨q, ds, vs, S2, L2, ey, hq, _, _, r2, s2, e2, p2, x2⟩ => by
    unfold oEq at p2
    split at p2
    · rename_i hz
      rw [Bool.and_eq_true] at hz
      subst ey
      exact ⟨_, _, dp_drf s2 hz.1 (r1.ext s1 x2), dp_rol hz.2 (SqL.of hq) r2, shaped_of hz.1 (by omega), shaped_of hz.2 (by omega), p2 _ _ _ (.bl _) s2 (Ext.refl _ _)⟩
    · exact p2.elim
theorem se_neL (hu : X.A.units + 64 < cLine) (ha : SE LT T X a fa) (hb : SLs LT T X b fs) : SE LT T X (.Compare a [.NotEq] [b] pos) (cEqL oNe fa fs) := fun W tk => (pe_cmpR (op_neD hu) (ha W tk) (hb W tk) (nomark _)).imp fun σ H Q ⟨ρ, S, L, er, sr, p⟩ =>
  tE_mono (bindE tgP er sr p) fun x H1 ⟨dx, S1, L1, r1, s1, e1, p1, x1⟩ => tL_mono (bindL tgP e1 s1 p1) fun y H2 ⟨q, ds, vs, S2, L2, ey, hq, _, _, r2, s2, e2, p2, x2⟩ => by
    unfold oNe at p2
    split at p2
    · rename_i hz
      rw [Bool.and_eq_true] at hz
      subst ey
      exact ⟨_, _, dp_drf s2 hz.1 (r1.ext s1 x2), dp_rol hz.2 (SqL.of hq) r2, shaped_of hz.1 (by omega), shaped_of hz.2 (by omega), p2 _ _ _ (.bl _) s2 (Ext.refl _ _)⟩
    · exact p2.elim
theorem sts_eqL (hu : X.A.units + 64 < cLine) (ha : SE LT T X a fa) (hb : SLs LT T X b fs) : STs LT T X (.Compare a [.Eq] [b] pos) (tV (cEqL oEq fa fs)) := fun W tk => (pt_cmpR (op_eqD hu) (ha W tk) (hb W tk) (nomark _)).imp fun σ H Q ⟨ρ, S, L, er, sr, p⟩ =>
  tE_mono (bindE tgP er sr (post_bl p)) fun x H1 ⟨dx, S1, L1, r1, s1, e1, p1, x1⟩ => tL_mono (bindL tgP e1 s1 p1) fun y H2 ⟨q, ds, vs, S2, L2, ey, hq, _, _, r2, s2, e2, p2, x2⟩ => by
    unfold oEq at p2
    split at p2
    · rename_i hz
      rw [Bool.and_eq_true] at hz
      subst ey
      exact ⟨_, _, dp_drf s2 hz.1 (r1.ext s1 x2), dp_rol hz.2 (SqL.of hq) r2, shaped_of hz.1 (by omega), shaped_of hz.2 (by omega), p2 _ _ _ (.bl _) s2 (Ext.refl _ _)⟩
    · exact p2.elim
theorem sts_neL (hu : X.A.units + 64 < cLine) (ha : SE LT T X a fa) (hb : SLs LT T X b fs) : STs LT T X (.Compare a [.NotEq] [b] pos) (tV (cEqL oNe fa fs)) := fun W tk => (pt_cmpR (op_neD hu) (ha W tk) (hb W tk) (nomark _)).imp fun σ H Q ⟨ρ, S, L, er, sr, p⟩ =>
  tE_mono (bindE tgP er sr (post_bl p)) fun x H1 ⟨dx, S1, L1, r1, s1, e1, p1, x1⟩ => tL_mono (bindL tgP e1 s1 p1) fun y H2 ⟨q, ds, vs, S2, L2, ey, hq, _, _, r2, s2, e2, p2, x2⟩ => by
    unfold oNe at p2
    split at p2
    · rename_i hz
      rw [Bool.and_eq_true] at hz
      subst ey
      exact ⟨_, _, dp_drf s2 hz.1 (r1.ext s1 x2), dp_rol hz.2 (SqL.of hq) r2, shaped_of hz.1 (by omega), shaped_of hz.2 (by omega), p2 _ _ _ (.bl _) s2 (Ext.refl _ _)⟩
    · exact p2.elim
/-- [..][i] -/
theorem se_ixL (hs : PlainIx b) (ha : SLs LT T X a fs) (hb : SE LT T X b fb) : SE LT T X (.Subscript a b pos) (cIxL fs fb) := fun W tk => (pe_ix ix_list (ha W tk) (hb W tk) hs).imp fun σ H Q ⟨ρ, S, L, er, sr, p⟩ =>
  tL_mono (bindL tgP er sr p) fun x H1 ⟨q, ds, vs, S1, L1, ex, hq, nq, _, r1, s1, e1, p1, x1⟩ => tE_mono (bindE tgP e1 s1 p1) fun y H2 ⟨dy, S2, L2, r2, s2, e2, p2, x2⟩ => by
    cases r2 with
    | int k =>
      dsimp only at p2
      split at p2
      · rename_i d hd
        obtain ⟨w, hw, rw'⟩ := atI_rep (r1.ext s1 x2) hd
        exact ⟨q, vs, k, w, ex, rfl, SqL.of (x2.keep q _ hq nq (fun ps z => by cases z)), hw, p2 _ _ _ rw' s2 (Ext.refl _ _)⟩
      · exact p2.elim
    | _ => exact (show False from p2).elim
/-- xs[::-1] -/
def aRev (a : Ex) : Ar := fun ρ S => (a ρ S).bind fun x S1 => match lstOf S1 x with
  | some ds => .ok ds.reverse S1
  | none => .bad
theorem sls_rev {k : Nat} {p1 p3 : Pos} (ha : SE LT T X a fa) : SLs LT T X (.Subscript a (.Slice none none (some (.UnaryOp .USub (.Constant (.int 1) k p1) p2)) p3) pos) (aRev fa) := fun W tk => (pe_revL (ha W tk)).imp fun σ H Q ⟨ρ, S, L, er, sr, p⟩ =>
  tE_mono (bindE tgPL er sr p) fun x H1 ⟨dx, S1, L1, r1, s1, e1, p1, x1⟩ => by
    split at p1
    · rename_i ds hds
      obtain ⟨q, vs, rfl, rr, hq⟩ := lst_of s1 hds r1
      exact ⟨q, vs, rfl, hq, fun t ht => p1 t _ _ L1 upd_same (s1.notNone ht) (fun o ho _ _ => by rw [ht] at ho; cases ho) (rr.rev.ext s1 (Ext.new ht)) (s1.new ht) (Ext.new ht)⟩
    · exact p1.elim
/-- .. of a list just made -/
def aRevL (as : Ar) : Ar := fun ρ S => (as ρ S).bind fun ds S1 => .ok ds.reverse S1
theorem sls_revL {k : Nat} {p1 p3 : Pos} (ha : SLs LT T X a fs) : SLs LT T X (.Subscript a (.Slice none none (some (.UnaryOp .USub (.Constant (.int 1) k p1) p2)) p3) pos) (aRevL fs) := fun W tk => (pe_revL (ha W tk)).imp fun σ H Q ⟨ρ, S, L, er, sr, p⟩ =>
  tL_mono (bindL tgPL er sr p) fun x H1 ⟨q, ds, vs, S1, L1, ex, hq, _, _, r1, s1, e1, p1, x1⟩ =>
    ⟨q, vs, ex, SqL.of hq, fun t ht => p1 t _ _ L1 upd_same (s1.notNone ht) (fun o ho _ _ => by rw [ht] at ho; cases ho) (r1.rev.ext s1 (Ext.new ht)) (s1.new ht) (Ext.new ht)⟩
/-- list(range(a, b)) -/
theorem rgV_rep {K : PySem.W.Frag} {L : List Addr} {H : Hp} (a b : Int) : RepVs K LT L H (rgD a (b - a).toNat) (rgV a b) := by
  unfold rgD rgV
  generalize (b - a).toNat = n
  generalize List.range n = l
  induction l with
  | nil => exact .nil
  | cons x l ih => exact .cons (.int _) ih
theorem sls_rg2 {p3 : Pos} (hc : X.calm = true) (B : Bi X "list" (.type "list")) (C : Bi X "range" (.type "range")) (h1 : notStar a = true) (h2 : notStar b = true) (ha : SE LT T X a fa) (hb : SE LT T X b fb) : SLs LT T X (.Call (.Name "list" p) [.Call (.Name "range" p2) [a, b] [] p3] [] pos) (aRg fa fb) := fun W tk =>
  (pe_listRg hc B.g B.n (prg_2 C.g C.n (ha W tk) (hb W tk) (star_cons h1) (star_cons h2) (star_any (es := [b]) (by simp [h2]))) (star_cons rfl)).imp fun σ H Q ⟨ρ, S, L, er, sr, p⟩ =>
    tE_mono (bindE tgPL er sr p) fun x H1 ⟨dx, S1, L1, r1, s1, e1, p1, x1⟩ => tE_mono (bindE tgPL e1 s1 p1) fun y H2 ⟨dy, S2, L2, r2, s2, e2, p2, x2⟩ => by
      have r1' := r1.ext s1 x2
      cases r1' with
      | int i =>
        cases r2 with
        | int j =>
          dsimp only at p2
          split at p2
          · rename_i hz
            refine ⟨i, j, rfl, rfl, ⟨hz.1.1, hz.1.2, hz.2.1.1, hz.2.1.2, hz.2.2⟩, fun t ht => ?_⟩
            exact p2 t _ _ L2 upd_same (s2.notNone ht) (fun o ho _ _ => by rw [ht] at ho; cases ho) (rgV_rep i j) (s2.new ht) (Ext.new ht)
          · exact p2.elim
        | _ => exact (show False from p2).elim
      | _ => exact (show False from p2).elim
theorem sls_rg1 {p3 : Pos} (hc : X.calm = true) (B : Bi X "list" (.type "list")) (C : Bi X "range" (.type "range")) (h1 : notStar b = true) (hb : SE LT T X b fb) : SLs LT T X (.Call (.Name "list" p) [.Call (.Name "range" p2) [b] [] p3] [] pos) (aRg (cD (.int 0)) fb) := fun W tk =>
  (pe_listRg hc B.g B.n (prg_1 C.g C.n (hb W tk) (star_cons h1)) (star_cons rfl)).imp fun σ H Q ⟨ρ, S, L, er, sr, p⟩ =>
    tE_mono (bindE tgPL er sr p) fun y H2 ⟨dy, S2, L2, r2, s2, e2, p2, x2⟩ => by
        cases r2 with
        | int j =>
          dsimp only at p2
          split at p2
          · rename_i hz
            refine ⟨j, rfl, ⟨hz.1.1, hz.1.2, hz.2.1.1, hz.2.1.2, hz.2.2⟩, fun t ht => ?_⟩
            exact p2 t _ _ L2 upd_same (s2.notNone ht) (fun o ho _ _ => by rw [ht] at ho; cases ho) (rgV_rep 0 j) (s2.new ht) (Ext.new ht)
          · exact p2.elim
        | _ => exact (show False from p2).elim
end
end Pf
end

section
set_option Elab.async false
set_option linter.all false
set_option maxRecDepth 100000
set_option maxHeartbeats 1000000
/-! P6a: enumerate(tuple). -/
namespace PySem
open Sem (wp)
set_option maxHeartbeats 1000000 in
theorem meets_enumerate_newB1 {v : Value} {o : Obj} {H : Heap → Prop} (B : Begins v o H) (hpl : ∀ (prog : Program) (w : World) (A : Around) (E : Value → Shared → Prop) (s : Shared) (Q : Value → Shared → Prop), Q v s → wpAny (model prog w) A (pure v) Q E s) :
    Meets (Builtin.«enumerate.__new__» ⟨[.type "enumerate", v], []⟩) (fun _ R s => H s.heap ∧
      R (.ok (.ret (.ref (s.heap.push o).objs.size))) { s with heap := (s.heap.push o).push { cls := .type "enumerate", data := .fields #[.none, .bool false, .ref s.heap.objs.size, rawInt 0, .none, .none] } }) :=
  .of_wp fun prog w A R s h => by
    obtain ⟨hp, g, d, tk, os⟩ := s; obtain ⟨h1, h⟩ := h
    have hsub := sub_enumerate
    have q1 : ∀ {A' : Around} {E : Value → Shared → Prop} {Q : Value → Shared → Prop}, Q (.ref hp.objs.size) ⟨hp.push o, g, d, tk, os⟩ → wpAny (model prog w) A' (pyIter v) Q E ⟨hp, g, d, tk, os⟩ :=
      fun q => B.iter prog w _ _ ⟨hp, g, d, tk, os⟩ _ h1 q
    wp_walk using q1
    refine wpAny_stack_any fun st => wpAny_pure ?_
    split
    · rename_i c _ _ _ _ _
      cases (c == Value.type "enumerate")
      · wp_walk using q1
        exact ⟨_, rfl, h⟩
      · wp_walk using q1
        exact ⟨_, rfl, h⟩
    · wp_walk using q1
      exact ⟨_, rfl, h⟩
section
variable {prog : Program} {w : World} {A : Around} {E : Value → Shared → Prop} {s : Shared}
theorem enum_begins1 {v : Value} {o : Obj} {H : Heap → Prop} {Q : Value → Shared → Prop} (B : Begins v o H) (h1 : H s.heap)
    (h : ∀ h', IsEnum h' (s.heap.objs.size + 1) s.heap.objs.size 0 .none → h'.get? s.heap.objs.size = some o → h'.objs.size = s.heap.objs.size + 2 →
      (∀ b o, s.heap.get? b = some o → h'.get? b = some o) → Q (.ref (s.heap.objs.size + 1)) { s with heap := h' }) :
    wpAny (model prog w) A (call (.type "enumerate") [v]) Q E s := by
  refine callType_new F.called_enumerate (by decide) (F.typeCall_enumerate_1 _) (F.newCall_enumerate_1 _) (fun obj => F.args_object_init_2 obj _) F.entry_enumerate_new
    (meets_enumerate_newB1 B (fun _ _ _ _ _ _ q => wpAny_pure q)) ⟨h1, ?_⟩
  have hz : (s.heap.push o).objs.size = s.heap.objs.size + 1 := Heap.size_push ..
  show _ ∧ _
  rw [hz]
  have he : IsEnum ((s.heap.push o).push { cls := .type "enumerate", data := .fields #[.none, .bool false, .ref s.heap.objs.size, rawInt 0, .none, .none] }) (s.heap.objs.size + 1) s.heap.objs.size 0 .none := by
    have := Heap.get?_push_size (s.heap.push o) (o := { cls := .type "enumerate", data := .fields #[.none, .bool false, .ref s.heap.objs.size, rawInt 0, .none, .none] }) rfl
    rw [hz] at this; exact this
  refine ⟨⟨_, he, rfl⟩, h _ he (Heap.get?_push_of_some _ (Heap.get?_push_size _ B.free)) (by rw [Heap.size_push, hz]) fun b o x => Heap.get?_push_of_some _ (Heap.get?_push_of_some _ x)⟩
end
end PySem
namespace L2
open PySem PySem.Spec PyProof.Rows
/-- the tuple at a, each item in a new pair -/
def IteT (K : PySem.W.Frag) (a : Addr) : It :=
  ⟨fun i H => ∃ (xs : List V) (x : V), SqT K H a xs ∧ xs[i]? = some x, fun i H v H' => ∃ T x, v = .ref T ∧ H T = none ∧ H' = upd H T (.tup [.int (i : Nat), x]) ∧ ∀ xs, SqT K H a xs → xs[i]? = some x, fun i H => ∃ xs : List V, SqT K H a xs ∧ xs.length ≤ i⟩
theorem turn_enumT {P : Program} {w : World} {K : PySem.W.Frag} {elts : List Expr} {kk : Nat} {tpos : Pos} (a e it : Addr) (hae : a ≠ e) (hai : a ≠ it) :
    Turn P w K (.Tuple elts kk tpos) (IteT K a) [e, it] e (fun i h => (∃ old, IsEnum h e it ((i : Nat) : Int) old) ∧ h.IsTupleIter it a i ∧ e ≠ it) where
  mem := by simp
  obj := fun i h st b hb => by
    obtain ⟨⟨old, he⟩, ⟨o, ho, hc, hd⟩, _⟩ := st
    have e' : b = e ∨ b = it := by simpa using hb
    rcases e' with z | z
    · rw [z]; exact ⟨_, he, fun v q => nomatch q⟩
    · rw [z]; exact ⟨o, ho, fun v q => by rw [hd] at q; cases q⟩
  keep := fun i h h' st k => let ⟨⟨old, he⟩, hi, hne⟩ := st; ⟨⟨old, k e (by simp) _ he⟩, hi.at fun o q => k it (by simp) o q, hne⟩
  item := by
    intro X hP hw hK hc i pins s σ H E I hf st hg
    subst hP hw hK
    obtain ⟨⟨old, he⟩, hit, hne⟩ := st
    obtain ⟨xs, x, hq, hx⟩ := hg
    obtain ⟨its, rv, p, hz⟩ := I.tuple hq
    obtain ⟨u, hu, ru⟩ := rv.get hx
    have hel : e < s.heap.objs.size := Heap.lt_size he
    have hil : it < s.heap.objs.size := by obtain ⟨_, q, _⟩ := hit; exact Heap.lt_size q
    have Dr := Draws.tuple (prog := X.prog) (w := X.w) (A := X.A.in1) (show X.A.in1.handled = none from I.ok.hd hc) it a hai its.toArray
    have pT : s.heap.IsTuple a its.toArray := p
    have hlt : i < its.toArray.size := by
      have := (List.getElem?_eq_some_iff.mp hu).1
      simpa using this
    refine wpAny_pyNext_enum_itemC (e := e) (c := (i : Int)) Dr he ⟨hit, pT⟩ hlt hne (by
      intro z
      have z' : e = it ∨ e = a := by simpa using z
      rcases z' with z' | z'
      · exact hne z'
      · exact hae z'.symm) fun x' h' tk hP ho hit' hT hsz hk => ?_
    have ex : x' = u := by
      have hP' : its.toArray[i]? = some x' := hP
      have : its[i]? = some x' := by simpa using hP'
      rw [hu] at this
      exact (Option.some.inj this).symm
    subst ex
    refine ⟨_, rfl, wpAny_letOwnedTupleGo_enum (s := { s with heap := h', toks := tk + 1 }) ho fun h'' he' sb => ?_⟩
    have hT2 : h''.get? s.heap.objs.size = some { cls := .type "tuple", data := .seq #[.int i tk, x'] } := (sb.2 _ (Nat.ne_of_gt hel)).trans hT
    have new : ObjOk X.prog X.w (upd H s.heap.objs.size (.tup [.int (i : Nat), x])) h'' s.heap.objs.size (.tup [.int (i : Nat), x]) :=
      ⟨by show 2 ≤ sizeLine; decide, [.int i tk, x'], .cons ⟨_, rfl⟩ (.cons ru .nil), ⟨_, hT2, rfl, _, rfl⟩⟩
    have I1 : Inv X pins σ (upd H s.heap.objs.size (.tup [.int (i : Nat), x])) { s with heap := h'', toks := tk + 1 } :=
      I.turnedNew (ch := [e, it]) (fun b ob hb q => (sb.2 b (fun z => hb (by simp [z]))).trans (hk b ob (fun z => hb (by simp [z])) (fun z => hb (by simp [z])) q)) hf (Nat.le_refl _) new
    refine ⟨.ref s.heap.objs.size, _, I1, rfl, ⟨_, x, rfl, I.hok.fresh (Nat.le_refl _), rfl, fun ys hy => by rw [I.tuple_inj hy hq]; exact hx⟩, ⟨⟨x', ?_⟩, hit'.1.at fun o q => (sb.2 it (Ne.symm hne)).trans q, hne⟩, fun b hb => ?_⟩
    · have e1 : ((i + 1 : Nat) : Int) = (i : Int) + 1 := by omega
      rw [e1]; exact he'
    · have hb' : b < s.heap.objs.size := by
        have e' : b = e ∨ b = it := by simpa using hb
        rcases e' with z | z
        · rw [z]; exact hel
        · rw [z]; exact hil
      rw [upd_ne (Nat.ne_of_lt hb')]
      exact (hf b hb).1
  done := by
    intro X hP hw hK hc i pins s σ H E I hf st hg
    subst hP hw hK
    obtain ⟨⟨old, he⟩, hit, hne⟩ := st
    obtain ⟨xs, hq, hx⟩ := hg
    obtain ⟨its, rv, p, hz⟩ := I.tuple hq
    obtain ⟨f0, f1, f2, f3, f4, f5⟩ := hf it (by simp)
    have hl := rv.length
    have pT : s.heap.IsTuple a its.toArray := p
    have Dr := Draws.tuple (prog := X.prog) (w := X.w) (A := X.A.in1) (show X.A.in1.handled = none from I.ok.hd hc) it a hai its.toArray
    have hx' : its.toArray[i]? = none := by simp; omega
    have hT : s.TypeIs (.ref e) "enumerate" := ⟨_, he, rfl⟩
    unfold pyNext
    refine wpAny_bind (wpAny_attempt (wpAny_callSpecial?_slot (name := Str.ofString "__next__") hT F.slot_enumerate_next
      (wpAny_call_entry F.slot_enumerate_next hT F.entry_enumerate_next ?_ (F.args_enumerate_next_1 _))))
    show wpAny _ _ (field (.ref e) 2 >>= _) _ _ _
    refine wpAny_bind (wpAny_field he rfl (x := .ref it) rfl ?_)
    refine wpAny_bind (wpAny_nextOf_tuple_end (show X.A.in1.handled = none from I.ok.hd hc) hit pT hx' fun h' x he' hxx => ?_)
    obtain ⟨o, ho, hcc⟩ := hxx
    refine wpAny_bind (wpAny_isInstance (T := "StopIteration") (b := true) ⟨o, ho, hcc⟩ isSubtype_stop ?_)
    exact wpAny_pure ⟨rfl, I.turned (t' := s.toks) (fun b o hb q => he' b o hb q) f0 f1 f3 f4 f5⟩
  self := fun A i s Q E st h => let ⟨⟨_, he⟩, _⟩ := st; wpAny_pyIter_enum he h
def iEnumA (K : PySem.W.Frag) (ta : TA) : TI := fun σ H R => ta σ H fun vs H1 => ∃ a xs, vs = [.ref a] ∧ ((SqL K H1 a xs ∧ R (Ite K a) H1) ∨ (SqT K H1 a xs ∧ R (IteT K a) H1))
theorem pi_enumA {X : Cx} {e : Expr} {ta : TA} {p pos tpos : Pos} {elts : List Expr} {kk : Nat} (hg : Gl X "enumerate") (hm : X.mg "enumerate" = none) (ha : PA X [e] ta) (hs : starEach [e] X.env = [(false, eval e X.env)] := by rfl) :
    PI X (.Tuple elts kk tpos) (.Call (.Name "enumerate" p) [e] [] pos) (iEnumA X.K ta) := by
  refine ⟨fun pins s σ H R I h => ?_⟩
  refine Call_ (ld_blt I hg hm boot_enumerate (PyProof.Rows.callWith_type1 (thn (ha.run pos pins s σ H _ I h) fun us s1 ⟨vs, H1, I1, r1, q1⟩ => ?_) hs rfl))
  obtain ⟨a, xs, ex, q1⟩ := q1
  subst ex
  cases r1 with
  | cons r rr =>
    cases rr
    cases r
    have fresh2 : ∀ b ∈ [s1.heap.objs.size + 1, s1.heap.objs.size], FpOk X pins H1 b := fun b hb => by
      have e' : b = s1.heap.objs.size + 1 ∨ b = s1.heap.objs.size := by simpa using hb
      have hle : s1.heap.objs.size ≤ b := by
        rcases e' with z | z
        · rw [z]; exact Nat.le_add_right _ _
        · rw [z]; exact Nat.le_refl _
      exact I1.fpOk hle (I1.hok.fresh hle)
    rcases q1 with ⟨hq, q⟩ | ⟨hq, q⟩
    · obtain ⟨its, rv, p', hz⟩ := I1.list hq
      refine call_enumerate_list p'.isList fun h' he hit hsz hk => wpAny_pyIter_enum he ?_
      have I2 : Inv X pins σ H1 { s1 with heap := h' } := I1.kept (t' := s1.toks) hk
      exact ⟨s1.heap.objs.size + 1, [s1.heap.objs.size + 1, s1.heap.objs.size], _, _, H1, rfl, I2, turn_enum a (s1.heap.objs.size + 1) s1.heap.objs.size, ⟨⟨.none, he⟩, hit, Nat.succ_ne_self _⟩, fresh2, q⟩
    · obtain ⟨its, rv, p', hz⟩ := I1.tuple hq
      have pT : s1.heap.IsTuple a its.toArray := p'
      obtain ⟨ob, hob, _⟩ := id p'
      have hla : a < s1.heap.objs.size := Heap.lt_size hob
      refine enum_begins1 (begins_tuple a its.toArray) pT fun h' he hit hsz hk => wpAny_pyIter_enum he ?_
      have I2 : Inv X pins σ H1 { s1 with heap := h' } := I1.kept (t' := s1.toks) hk
      exact ⟨s1.heap.objs.size + 1, [s1.heap.objs.size + 1, s1.heap.objs.size], _, _, H1, rfl, I2, turn_enumT a (s1.heap.objs.size + 1) s1.heap.objs.size (Nat.ne_of_lt (Nat.lt_succ_of_lt hla)) (Nat.ne_of_lt hla), ⟨⟨.none, he⟩, ⟨_, hit, rfl, rfl⟩, Nat.succ_ne_self _⟩, fresh2, q⟩
end L2
end

section
set_option Elab.async false
set_option linter.all false
set_option maxRecDepth 100000
set_option maxHeartbeats 1000000
/-! P6: what is walked, targets, comprehensions. -/
namespace L2
open PySem PySem.Spec PyProof.Rows
theorem PI.imp {X : Cx} {tg e : Expr} {t t' : TI} (h : PI X tg e t) (i : ∀ σ H R, t' σ H R → t σ H R) : PI X tg e t' := ⟨fun pins s σ H R I q => h.run pins s σ H R I (i _ _ _ q)⟩
theorem PG.imp {X : Cx} {tg : Expr} {t t' : TG} (h : PG X tg t) (i : ∀ v σ H Q, t' v σ H Q → t v σ H Q) : PG X tg t' := ⟨fun pins s σ H v u Q I r q => h.run pins s σ H v u Q I r (i _ _ _ _ q)⟩
theorem PTs.imp {X : Cx} {es : List Expr} {t t' : TT} (h : PTs X es t) (i : ∀ σ H Q, t' σ H Q → t σ H Q) : PTs X es t' := ⟨fun pins s σ H Q I q => h.run pins s σ H Q I (i _ _ _ q)⟩
/-- over a list or a tuple -/
def iSeq (K : PySem.W.Frag) (tl : TE) : TI := fun σ H R => tl σ H fun x H1 => ∃ a, x = .ref a ∧ (((∃ xs, SqL K H1 a xs) ∧ R (Itl K a) H1) ∨ ((∃ xs, SqT K H1 a xs) ∧ R (Itt K a) H1))
theorem pi_seq {X : Cx} {tg l : Expr} {tl : TE} (hl : PE X l tl) : PI X tg l (iSeq X.K tl) := by
  refine ⟨fun pins s σ H R I h => ?_⟩
  refine thn (hl.run pins s σ H _ I h) fun v s1 ⟨x, H1, I1, r1, q1⟩ => ?_
  obtain ⟨a, e, q⟩ := q1
  subst e
  cases r1
  rcases q with ⟨⟨xs, hq⟩, q⟩ | ⟨⟨xs, hq⟩, q⟩
  · obtain ⟨its, rv, p, hz⟩ := I1.list hq
    refine wpAny_pyIter_list p.isList ?_
    refine ⟨s1.heap.objs.size, [s1.heap.objs.size], _, _, H1, rfl, I1.kept (t' := s1.toks) fun b o e => Heap.get?_push_of_some _ e, turn_list a _, ⟨_, Heap.get?_push_size _ rfl, rfl, rfl⟩, fun b hb => ?_, q⟩
    have e : b = s1.heap.objs.size := by simpa using hb
    subst e
    exact I1.fpOk (Nat.le_refl _) (I1.hok.fresh (Nat.le_refl _))
  · obtain ⟨its, rv, p, hz⟩ := I1.tuple hq
    refine wpAny_pyIter_tuple (show s1.heap.IsTuple a its.toArray from p) ?_
    refine ⟨s1.heap.objs.size, [s1.heap.objs.size], _, _, H1, rfl, I1.kept (t' := s1.toks) fun b o e => Heap.get?_push_of_some _ e, turn_tuple a _, ⟨_, Heap.get?_push_size _ rfl, rfl, rfl⟩, fun b hb => ?_, q⟩
    have e : b = s1.heap.objs.size := by simpa using hb
    subst e
    exact I1.fpOk (Nat.le_refl _) (I1.hok.fresh (Nat.le_refl _))
end L2
namespace Pf
open PySem PySem.Spec PyProof.Rows L2
/-! ### iterators -/
def Yields (K : PySem.W.Frag) (LT : XAt) (T : List (Addr × Str)) (L : List Addr) (H : Hp) (J : L2.It) (ds : List D) (g : Gd) : Prop :=
  ∀ L2 S2 H2, SR K LT T L2 S2 H2 → Ext L H L2 H2 → gdOk g S2 →
    (∀ i d, ds[i]? = some d → J.go i H2 ∧ ∀ x H3, J.yld i H2 x H3 → RepV K LT L2 H3 d x ∧ SR K LT T L2 S2 H3 ∧ Ext L2 H2 L2 H3) ∧ ∀ i, ds.length ≤ i → J.stop i H2
def PostI (K : PySem.W.Frag) (LT : XAt) (T : List (Addr × Str)) (L : List Addr) (H : Hp) (W : XW) (r : R (List D × Gd)) (Q : L2.It → Hp → Prop) : Prop := match r with
  | .ok q S' => ∀ J H' L', Yields K LT T L' H' J q.1 q.2 → gdOk q.2 S' → SR K LT T L' S' H' → Ext L H L' H' → Q J H'
  | .exc c S' => ∀ (dx : DX c) H' L', SR K LT T L' S' H' → Ext L H L' H' → W (.ref (He.ga K c)) dx.1 H'
  | .bad => False
def tI (K : PySem.W.Frag) (LT : XAt) (T : List (Addr × Str)) (f : It) (W : WX) : TI := fun σ H R => ∃ ρ S L, ER K LT L H ρ σ ∧ SR K LT T L S H ∧ PostI K LT T L H (at_ W σ) (f ρ S) R
abbrev SIt (LT : XAt) (T : List (Addr × Str)) (X : Cx) (tg e : Expr) (f : It) : Prop := ∀ W, Takes X W → PI X tg e (tI X.K LT T f W)
section
variable {K : PySem.W.Frag} {LT : XAt} {T : List (Addr × Str)} {X : Cx} {tg e a b c : Expr} {es : List Expr} {f fa fb fc : Ex} {fs : Ar} {fi gi : It} {ft : Ts} {pos p p2 : Pos} {L : List Addr} {H : Hp} {S : Store}
theorem PostI.weak {L1 : List Addr} {H1 : Hp} {W : XW} {r : R (List D × Gd)} {Q : L2.It → Hp → Prop} (h : PostI K LT T L H W r Q) (e : Ext L H L1 H1) : PostI K LT T L1 H1 W r Q := by
  cases r with
  | ok d S => exact fun J H' L' h1 h2 s1 e1 => h J H' L' h1 h2 s1 (e.trans e1)
  | exc c S => exact fun dx H' L' s1 e1 => h dx H' L' s1 (e.trans e1)
  | bad => exact h
theorem tgI {W : XW} {Q : L2.It → Hp → Prop} : Tgt K LT T W (fun L H r => PostI K LT T L H W r Q) := ⟨fun _ _ h => h, fun _ _ _ _ h => h, fun _ _ _ _ _ h e => h.weak e⟩
theorem yields_list {q : Addr} {ds : List D} {g : Gd} (st : ∀ L2 S2 H2, SR K LT T L2 S2 H2 → Ext L H L2 H2 → gdOk g S2 → ∃ vs, SqL K H2 q vs ∧ RepVs K LT L2 H2 ds vs) : Yields K LT T L H (Itl K q) ds g := fun L2 S2 H2 s2 e g => by
  obtain ⟨vs, hq, r⟩ := st L2 S2 H2 s2 e g
  refine ⟨fun i d hd => ?_, fun i hi => ⟨vs, hq, by rw [← r.length]; exact hi⟩⟩
  obtain ⟨v, hv, rv⟩ := r.get hd
  refine ⟨⟨vs, v, hq, hv⟩, fun x H3 ⟨e3, hx⟩ => ?_⟩
  subst e3
  have := hx vs hq
  rw [hv] at this
  cases this
  exact ⟨rv, s2, Ext.refl _ _⟩
theorem yields_tup {q : Addr} {ds : List D} {vs : List V} (sr : SR K LT T L S H) (hq : SqT K H q vs) (r : RepVs K LT L H ds vs) : Yields K LT T L H (Itt K q) ds [] := fun L2 S2 H2 s2 e g => by
  have hq2 := SqT.ext sr e hq
  have r2 := r.ext sr e
  refine ⟨fun i d hd => ?_, fun i hi => ⟨vs, hq2, by rw [← r.length]; exact hi⟩⟩
  obtain ⟨v, hv, rv⟩ := r2.get hd
  refine ⟨⟨vs, v, hq2, hv⟩, fun x H3 ⟨e3, hx⟩ => ?_⟩
  subst e3
  have := hx vs hq2
  rw [hv] at this
  cases this
  exact ⟨rv, s2, Ext.refl _ _⟩
theorem gdOk_app {g h : Gd} {S : Store} : gdOk (g ++ h) S ↔ gdOk g S ∧ gdOk h S := by
  induction g with
  | nil => simp [gdOk]
  | cons p r ih => obtain ⟨n, ds⟩ := p; simp [gdOk, ih, and_assoc]
/-- how a list, a tuple stands while it is walked -/
inductive SeqAt (K : PySem.W.Frag) (LT : XAt) (T : List (Addr × Str)) (L : List Addr) (H : Hp) (q : Addr) (ds : List D) (g : Gd) : Bool → Prop
  | l (st : ∀ L2 S2 H2, SR K LT T L2 S2 H2 → Ext L H L2 H2 → gdOk g S2 → ∃ vs, SqL K H2 q vs ∧ RepVs K LT L2 H2 ds vs) : SeqAt K LT T L H q ds g false
  | t (st : ∀ L2 S2 H2, SR K LT T L2 S2 H2 → Ext L H L2 H2 → ∃ vs, SqT K H2 q vs ∧ RepVs K LT L2 H2 ds vs) : SeqAt K LT T L H q ds g true
theorem SeqAt.weak {q : Addr} {ds : List D} {g : Gd} {k : Bool} {L1 : List Addr} {H1 : Hp} (s : SeqAt K LT T L H q ds g k) (e : Ext L H L1 H1) : SeqAt K LT T L1 H1 q ds g k := by
  cases s with
  | l st => exact .l fun L2 S2 H2 s2 e2 h => st L2 S2 H2 s2 (e.trans e2) h
  | t st => exact .t fun L2 S2 H2 s2 e2 => st L2 S2 H2 s2 (e.trans e2)
theorem seq_of {x : V} {d : D} {W : XW} {Z : List Addr → Hp → R (List D × Gd) → Prop} (tg : Tgt K LT T W Z) (sr : SR K LT T L S H) (r : RepV K LT L H d x) (p : Z L H (seqL d S)) :
    ∃ q ds g, x = .ref q ∧ seqL d S = .ok (ds, g) S ∧ gdOk g S ∧ SeqAt K LT T L H q ds g (isTp d) := by
  unfold seqL at p ⊢
  cases r with
  | @tup n a vs ds hq hd _ rr => exact ⟨a, ds, [], rfl, rfl, trivial, .t fun L2 S2 H2 s2 e => ⟨vs, SqT.ext sr e hq, rr.ext sr e⟩⟩
  | @rol a vs ds hq rr => exact ⟨a, ds, [], rfl, rfl, trivial, .l fun L2 S2 H2 s2 e _ => ⟨vs, (RolAt.ext sr e hq).sq, rr.ext sr e⟩⟩
  | @ref n a hl =>
    obtain ⟨mo, hs, ro⟩ := sr.at_ hl
    dsimp only at p ⊢
    rw [hs] at p ⊢
    cases mo with
    | lst ds =>
      refine ⟨a, ds, [(n, ds)], rfl, rfl, ⟨hs, trivial⟩, .l fun L2 S2 H2 s2 e g => ?_⟩
      obtain ⟨vs, h1, h2, _⟩ := s2.objs n _ _ g.1 (e.get hl)
      exact ⟨vs, SqL.of h1, h2⟩
    | dK kvs => exact (tg.bad _ _ p).elim
    | dT kvs => exact (tg.bad _ _ p).elim
  | _ => exact (tg.bad _ _ p).elim
/-- a list or a tuple that stands -/
theorem si_seq (h : SE LT T X e f) : SIt LT T X tg e (iE f) := fun W tk => (pi_seq (h W tk)).imp fun σ H R ⟨ρ, S, L, er, sr, p⟩ => tE_mono (bindE tgI er sr p) fun x H1 ⟨dx, S1, L1, r1, s1, e1, p1, x1⟩ => by
  obtain ⟨q, ds, g, rfl, hs, hg, hq⟩ := seq_of tgI s1 r1 p1
  rw [hs] at p1
  refine ⟨q, rfl, ?_⟩
  cases hk : isTp dx with
  | false =>
    rw [hk] at hq
    cases hq with
    | l st =>
      refine .inl ⟨?_, p1 _ _ _ (yields_list st) hg s1 (Ext.refl _ _)⟩
      obtain ⟨vs, hh, _⟩ := st _ _ _ s1 (Ext.refl _ _) hg
      exact ⟨vs, hh⟩
  | true =>
    rw [hk] at hq
    cases hq with
    | t st =>
      obtain ⟨vs, hh, rr⟩ := st _ _ _ s1 (Ext.refl _ _)
      refine .inr ⟨⟨vs, hh⟩, p1 _ _ _ (fun L2 S2 H2 s2 e2 g2 => ?_) hg s1 (Ext.refl _ _)⟩
      exact yields_tup s1 hh rr L2 S2 H2 s2 e2 trivial
/-- a list just made -/
theorem si_new (h : SLs LT T X e fs) : SIt LT T X tg e (iA fs) := fun W tk => (pi_list (h W tk)).imp fun σ H R ⟨ρ, S, L, er, sr, p⟩ => tL_mono (bindL tgI er sr p) fun x H1 ⟨q, ds, vs, S1, L1, ex, hq, nq, _, r1, s1, e1, p1, x1⟩ =>
  ⟨q, ex, ⟨vs, SqL.of hq⟩, p1 _ _ _ (yields_list fun L2 S2 H2 s2 e2 _ => ⟨vs, SqL.of (e2.keep q _ hq nq (fun ps z => by cases z)), r1.ext s1 e2⟩) trivial s1 (Ext.refl _ _)⟩
theorem rg_get {f : Nat → D} {n i : Nat} {d : D} (h : ((List.range n).map f)[i]? = some d) : i < n ∧ d = f i := by
  obtain ⟨h1, h2⟩ := List.getElem?_eq_some_iff.mp h
  simp only [List.length_map, List.length_range] at h1
  refine ⟨h1, ?_⟩
  rw [← h2, List.getElem_map, List.getElem_range]
theorem yields_rg {lo : Int} {n : Nat} : Yields K LT T L H (Itr lo n) (rgD lo n) [] := fun L2 S2 H2 s2 e _ => by
  refine ⟨fun i d hd => ?_, fun i hi => ?_⟩
  · obtain ⟨h1, rfl⟩ := rg_get hd
    refine ⟨h1, fun x H3 ⟨e3, hx⟩ => ?_⟩
    subst e3 hx
    exact ⟨.int _, s2, Ext.refl _ _⟩
  · show n ≤ i
    unfold rgD at hi
    simpa using hi
theorem yields_rgC {lo : Int} {n : Nat} : Yields K LT T L H (Itc lo (-1) n) (rgDown lo n) [] := fun L2 S2 H2 s2 e _ => by
  refine ⟨fun i d hd => ?_, fun i hi => ?_⟩
  · obtain ⟨h1, rfl⟩ := rg_get hd
    refine ⟨h1, fun x H3 ⟨e3, hx⟩ => ?_⟩
    subst e3 hx
    exact ⟨.int _, s2, Ext.refl _ _⟩
  · show n ≤ i
    unfold rgDown at hi
    simpa using hi
theorem si_rg2 (C : Bi X "range" (.type "range")) (h1 : notStar a = true) (h2 : notStar b = true) (ha : SE LT T X a fa) (hb : SE LT T X b fb) : SIt LT T X tg (.Call (.Name "range" p) [a, b] [] pos) (iR fa fb) := fun W tk =>
  (pi_range2 C.g C.n (pa_cons (ha W tk) (pa_cons (hb W tk) pa_nil (star_cons h2)) (star_cons h1)) (by rw [star_cons h1, star_cons h2]; rfl) (by rw [star_cons h2]; rfl)).imp fun σ H R ⟨ρ, S, L, er, sr, p⟩ =>
    tE_mono (bindE tgI er sr p) fun x H1 ⟨dx, S1, L1, r1, s1, e1, p1, x1⟩ => tE_mono (bindE tgI e1 s1 p1) fun y H2 ⟨dy, S2, L2, r2, s2, e2, p2, x2⟩ => by
      have r1' := r1.ext s1 x2
      cases r1' with
      | int i =>
        cases r2 with
        | int j =>
          dsimp only at p2
          split at p2
          · rename_i hz
            exact ⟨i, j, rfl, ⟨hz.1.1, hz.1.2, hz.2.1, hz.2.2⟩, p2 _ _ _ yields_rg trivial s2 (Ext.refl _ _)⟩
          · exact p2.elim
        | _ => exact (show False from p2).elim
      | _ => exact (show False from p2).elim
theorem si_rg1 (C : Bi X "range" (.type "range")) (h2 : notStar b = true) (hb : SE LT T X b fb) : SIt LT T X tg (.Call (.Name "range" p) [b] [] pos) (iR1 fb) := fun W tk =>
  (pi_range1 C.g C.n (pa_cons (hb W tk) pa_nil (star_cons h2)) (by rw [star_cons h2]; rfl)).imp fun σ H R ⟨ρ, S, L, er, sr, p⟩ =>
    tE_mono (bindE tgI er sr p) fun y H2 ⟨dy, S2, L2, r2, s2, e2, p2, x2⟩ => by
      cases r2 with
      | int j =>
        dsimp only at p2
        split at p2
        · rename_i hz
          exact ⟨j, rfl, hz.1, hz.2, p2 _ _ _ yields_rg trivial s2 (Ext.refl _ _)⟩
        · exact p2.elim
      | _ => exact (show False from p2).elim
theorem si_rgDn {k : Nat} {p3 : Pos} (C : Bi X "range" (.type "range")) (h1 : notStar a = true) (h2 : notStar b = true) (ha : SE LT T X a fa) (hb : SE LT T X b fb) : SIt LT T X tg (.Call (.Name "range" p) [a, b, .UnaryOp .USub (.Constant (.int 1) k p2) p3] [] pos) (iRdn fa fb) := fun W tk =>
  (pi_range3 C.g C.n (pa_cons (ha W tk) (pa_cons (hb W tk) (pa_cons (se_un (LT := LT) (T := T) (ur_neg) (se_int (LT := LT) (T := T) (i := 1)) W tk) pa_nil (star_cons rfl)) (star_cons h2)) (star_cons h1)) (star_cons h1) (star_any (es := [b, .UnaryOp .USub (.Constant (.int 1) k p2) p3]) (by rw [List.all_cons, h2]; rfl))).imp fun σ H R ⟨ρ, S, L, er, sr, p⟩ =>
    tE_mono (bindE tgI er sr p) fun x H1 ⟨dx, S1, L1, r1, s1, e1, p1, x1⟩ => tE_mono (bindE tgI e1 s1 p1) fun y H2 ⟨dy, S2, L2, r2, s2, e2, p2, x2⟩ => by
      refine ⟨ρ, S2, L2, e2, s2, fun v H3 L3 r3 s3 e3 => ?_⟩
      have r3' : RepV X.K LT L3 H3 (.int (-1)) v := r3
      cases r3'
      have r1' := (r1.ext s1 x2).ext s2 e3
      have r2' := r2.ext s2 e3
      have p2' := p2.weak e3
      cases r1' with
      | int i =>
        cases r2' with
        | int j =>
          dsimp only at p2'
          split at p2'
          · rename_i hz
            exact ⟨i, j, -1, _, rfl, RgC.neg hz.1.1 hz.1.2 hz.2.1 hz.2.2, p2' _ _ _ yields_rgC trivial s3 (Ext.refl _ _)⟩
          · exact p2'.elim
        | _ => exact (show False from p2').elim
      | _ => exact (show False from p2').elim
theorem enum_get : ∀ {ds : List D} {j i : Nat} {d : D}, (enumD j ds)[i]? = some d → ∃ d', ds[i]? = some d' ∧ d = .tup .any [.int (j + i : Nat), d']
  | [], _, _, _, h => by simp [enumD] at h
  | e :: ds, j, 0, d, h => by
    simp only [enumD, List.getElem?_cons_zero, Option.some.injEq] at h
    exact ⟨e, rfl, h.symm⟩
  | e :: ds, j, i + 1, d, h => by
    simp only [enumD, List.getElem?_cons_succ] at h
    obtain ⟨d', h1, h2⟩ := enum_get h
    refine ⟨d', by simpa using h1, ?_⟩
    rw [h2]
    have : j + 1 + i = j + (i + 1) := by omega
    rw [this]
theorem enum_len : ∀ {ds : List D} {j : Nat}, (enumD j ds).length = ds.length
  | [], _ => rfl
  | e :: ds, j => by simp [enumD, enum_len]
theorem pair_rep {x y : V} {dx dy : D} {Tt : Addr} (sr : SR K LT T L S H) (hT : H Tt = none) (rx : RepV K LT L H dx x) (ry : RepV K LT L H dy y) :
    RepV K LT L (upd H Tt (.tup [x, y])) (.tup .any [dx, dy]) (.ref Tt) ∧ SR K LT T L S (upd H Tt (.tup [x, y])) ∧ Ext L H L (upd H Tt (.tup [x, y])) :=
  ⟨.tup (SqT.of upd_same) (fun z => nomatch z) (fun z => nomatch z) (.cons (rx.ext sr (Ext.new hT)) (.cons (ry.ext sr (Ext.new hT)) .nil)), sr.new hT, Ext.new hT⟩
theorem yields_enumL {q : Addr} {ds : List D} {g : Gd} (st : ∀ L2 S2 H2, SR K LT T L2 S2 H2 → Ext L H L2 H2 → gdOk g S2 → ∃ vs, SqL K H2 q vs ∧ RepVs K LT L2 H2 ds vs) : Yields K LT T L H (Ite K q) (enumD 0 ds) g := fun L2 S2 H2 s2 e g => by
  obtain ⟨vs, hq, r⟩ := st L2 S2 H2 s2 e g
  refine ⟨fun i d hd => ?_, fun i hi => ⟨vs, hq, by rw [← r.length, ← enum_len (j := 0)]; exact hi⟩⟩
  obtain ⟨d', hd', rfl⟩ := enum_get hd
  obtain ⟨v, hv, rv⟩ := r.get hd'
  refine ⟨⟨vs, v, hq, hv⟩, fun x H3 ⟨Tt, x', ex, hT, e3, hx⟩ => ?_⟩
  have := hx vs hq
  rw [hv] at this
  cases this
  subst ex e3
  rw [Nat.zero_add]
  exact pair_rep s2 hT (.int _) rv
theorem yields_enumT {q : Addr} {ds : List D} {g : Gd} (st : ∀ L2 S2 H2, SR K LT T L2 S2 H2 → Ext L H L2 H2 → ∃ vs, SqT K H2 q vs ∧ RepVs K LT L2 H2 ds vs) : Yields K LT T L H (IteT K q) (enumD 0 ds) g := fun L2 S2 H2 s2 e g => by
  obtain ⟨vs, hq, r⟩ := st L2 S2 H2 s2 e
  refine ⟨fun i d hd => ?_, fun i hi => ⟨vs, hq, by rw [← r.length, ← enum_len (j := 0)]; exact hi⟩⟩
  obtain ⟨d', hd', rfl⟩ := enum_get hd
  obtain ⟨v, hv, rv⟩ := r.get hd'
  refine ⟨⟨vs, v, hq, hv⟩, fun x H3 ⟨Tt, x', ex, hT, e3, hx⟩ => ?_⟩
  have := hx vs hq
  rw [hv] at this
  cases this
  subst ex e3
  rw [Nat.zero_add]
  exact pair_rep s2 hT (.int _) rv
theorem si_enum {elts : List Expr} {kk : Nat} {tpos : Pos} (C : Bi X "enumerate" (.type "enumerate")) (h1 : notStar a = true) (ha : SE LT T X a fa) : SIt LT T X (.Tuple elts kk tpos) (.Call (.Name "enumerate" p) [a] [] pos) (iEnum fa) := fun W tk =>
  (pi_enumA C.g C.n (pa_cons (ha W tk) pa_nil (star_cons h1)) (by rw [star_cons h1]; rfl)).imp fun σ H R ⟨ρ, S, L, er, sr, p⟩ =>
    tE_mono (bindE tgI er sr p) fun x H1 ⟨dx, S1, L1, r1, s1, e1, p1, x1⟩ => by
      have p1' : PostI X.K LT T L1 H1 (at_ W σ) ((seqL dx S1).bind fun p S2 => .ok (enumD 0 p.1, p.2) S2) R := p1
      have tg : Tgt X.K LT T (at_ W σ) (fun L H (r : Pf.R (List D × Gd)) => PostI X.K LT T L H (at_ W σ) (r.bind fun p S2 => .ok (enumD 0 p.1, p.2) S2) R) := ⟨fun _ _ h => h, fun _ _ _ _ h => h, fun _ _ _ _ _ h e => h.weak e⟩
      obtain ⟨q, ds, g, rfl, hs, hg, hq⟩ := seq_of tg s1 r1 p1'
      rw [hs] at p1'
      cases hk : isTp dx with
      | false =>
        rw [hk] at hq
        cases hq with
        | l st =>
          obtain ⟨vs, hh, _⟩ := st _ _ _ s1 (Ext.refl _ _) hg
          exact ⟨q, vs, rfl, .inl ⟨hh, p1' _ _ _ (yields_enumL st) hg s1 (Ext.refl _ _)⟩⟩
      | true =>
        rw [hk] at hq
        cases hq with
        | t st =>
          obtain ⟨vs, hh, rr⟩ := st _ _ _ s1 (Ext.refl _ _)
          exact ⟨q, vs, rfl, .inr ⟨hh, p1' _ _ _ (yields_enumT st) hg s1 (Ext.refl _ _)⟩⟩
theorem zip_get : ∀ {ds es : List D} {i : Nat} {d : D}, (zipD ds es)[i]? = some d → ∃ x y, ds[i]? = some x ∧ es[i]? = some y ∧ d = .tup .any [x, y]
  | [], _, _, _, h => by simp [zipD] at h
  | _ :: _, [], _, _, h => by simp [zipD] at h
  | a :: ds, b :: es, 0, d, h => by
    simp only [zipD, List.getElem?_cons_zero, Option.some.injEq] at h
    exact ⟨a, b, rfl, rfl, h.symm⟩
  | a :: ds, b :: es, i + 1, d, h => by
    simp only [zipD, List.getElem?_cons_succ] at h
    obtain ⟨x, y, h1, h2, h3⟩ := zip_get h
    exact ⟨x, y, by simpa using h1, by simpa using h2, h3⟩
theorem zip_end : ∀ {ds es : List D} {i : Nat}, (zipD ds es).length ≤ i → ds.length ≤ i ∨ es.length ≤ i
  | [], _, _, _ => .inl (Nat.zero_le _)
  | _ :: _, [], _, _ => .inr (Nat.zero_le _)
  | a :: ds, b :: es, 0, h => by simp [zipD] at h
  | a :: ds, b :: es, i + 1, h => by
    simp only [zipD, List.length_cons] at h
    rcases zip_end (Nat.le_of_succ_le_succ h) with z | z
    · exact .inl (by simpa using z)
    · exact .inr (by simpa using z)
theorem yields_zipL {q q2 : Addr} {ds es : List D} {g : Gd} (st : ∀ L2 S2 H2, SR K LT T L2 S2 H2 → Ext L H L2 H2 → gdOk g S2 → ∃ vs, SqL K H2 q vs ∧ RepVs K LT L2 H2 ds vs)
    (st2 : ∀ L2 S2 H2, SR K LT T L2 S2 H2 → Ext L H L2 H2 → gdOk g S2 → ∃ vs, SqL K H2 q2 vs ∧ RepVs K LT L2 H2 es vs) : Yields K LT T L H (Itz K q q2) (zipD ds es) g := fun L2 S2 H2 s2 e g => by
  obtain ⟨vs, hq, r⟩ := st L2 S2 H2 s2 e g
  obtain ⟨ws, hq2, r2⟩ := st2 L2 S2 H2 s2 e g
  refine ⟨fun i d hd => ?_, fun i hi => ⟨vs, ws, hq, hq2, by rw [← r.length, ← r2.length]; exact zip_end hi⟩⟩
  obtain ⟨x, y, hx, hy, rfl⟩ := zip_get hd
  obtain ⟨v, hv, rv⟩ := r.get hx
  obtain ⟨w, hw, rw'⟩ := r2.get hy
  refine ⟨⟨vs, ws, v, w, hq, hq2, hv, hw⟩, fun z H3 ⟨Tt, x', y', ex, hT, e3, hx', hy'⟩ => ?_⟩
  have z1 := hx' vs hq
  have z2 := hy' ws hq2
  rw [hv] at z1; rw [hw] at z2
  cases z1; cases z2
  subst ex e3
  exact pair_rep s2 hT rv rw'
theorem yields_zipT {q q2 : Addr} {ds es : List D} {g : Gd} (st : ∀ L2 S2 H2, SR K LT T L2 S2 H2 → Ext L H L2 H2 → ∃ vs, SqT K H2 q vs ∧ RepVs K LT L2 H2 ds vs)
    (st2 : ∀ L2 S2 H2, SR K LT T L2 S2 H2 → Ext L H L2 H2 → ∃ vs, SqT K H2 q2 vs ∧ RepVs K LT L2 H2 es vs) : Yields K LT T L H (RZ.ItzT K q q2) (zipD ds es) g := fun L2 S2 H2 s2 e g => by
  obtain ⟨vs, hq, r⟩ := st L2 S2 H2 s2 e
  obtain ⟨ws, hq2, r2⟩ := st2 L2 S2 H2 s2 e
  refine ⟨fun i d hd => ?_, fun i hi => ⟨vs, ws, hq, hq2, by rw [← r.length, ← r2.length]; exact zip_end hi⟩⟩
  obtain ⟨x, y, hx, hy, rfl⟩ := zip_get hd
  obtain ⟨v, hv, rv⟩ := r.get hx
  obtain ⟨w, hw, rw'⟩ := r2.get hy
  refine ⟨⟨vs, ws, v, w, hq, hq2, hv, hw⟩, fun z H3 ⟨Tt, x', y', ex, hT, e3, hx', hy'⟩ => ?_⟩
  have z1 := hx' vs hq
  have z2 := hy' ws hq2
  rw [hv] at z1; rw [hw] at z2
  cases z1; cases z2
  subst ex e3
  exact pair_rep s2 hT rv rw'
theorem si_zip {elts : List Expr} {kk : Nat} {tpos : Pos} (C : Bi X "zip" (.type "zip")) (h1 : notStar a = true) (h2 : notStar b = true) (ha : SE LT T X a fa) (hb : SE LT T X b fb) : SIt LT T X (.Tuple elts kk tpos) (.Call (.Name "zip" p) [a, b] [] pos) (iZip fa fb) := fun W tk =>
  (RZ.pi_zipA C.g C.n (pa_cons (ha W tk) (pa_cons (hb W tk) pa_nil (star_cons h2)) (star_cons h1)) (star_cons h1) (star_any (es := [b]) (by rw [List.all_cons, h2]; rfl))).imp fun σ H R ⟨ρ, S, L, er, sr, p⟩ =>
    tE_mono (bindE tgI er sr p) fun x H1 ⟨dx, S1, L1, r1, s1, e1, p1, x1⟩ => tE_mono (bindE tgI e1 s1 p1) fun y H2 ⟨dy, S2, L2, r2, s2, e2, p2, x2⟩ => by
      have rx := r1.ext s1 x2
      split at p2
      · rename_i hk
        have p2' : PostI X.K LT T L2 H2 (at_ W σ) ((seqL dx S2).bind fun p S3 => (seqL dy S3).bind fun q S4 => .ok (zipD p.1 q.1, p.2 ++ q.2) S4) R := p2
        have tg : Tgt X.K LT T (at_ W σ) (fun L H (r : Pf.R (List D × Gd)) => PostI X.K LT T L H (at_ W σ) (r.bind fun p S3 => (seqL dy S3).bind fun q S4 => .ok (zipD p.1 q.1, p.2 ++ q.2) S4) R) := ⟨fun _ _ h => h, fun _ _ _ _ h => h, fun _ _ _ _ _ h e => h.weak e⟩
        obtain ⟨q, ds, g, rfl, hs, hg, hq⟩ := seq_of tg s2 rx p2'
        rw [hs] at p2'
        have p3 : PostI X.K LT T L2 H2 (at_ W σ) ((seqL dy S2).bind fun q S4 => .ok (zipD ds q.1, g ++ q.2) S4) R := p2'
        have tg2 : Tgt X.K LT T (at_ W σ) (fun L H (r : Pf.R (List D × Gd)) => PostI X.K LT T L H (at_ W σ) (r.bind fun q S4 => .ok (zipD ds q.1, g ++ q.2) S4) R) := ⟨fun _ _ h => h, fun _ _ _ _ h => h, fun _ _ _ _ _ h e => h.weak e⟩
        obtain ⟨q', ds', g', rfl, hs', hg', hq'⟩ := seq_of tg2 s2 r2 p3
        rw [hs'] at p3
        have hgg : gdOk (g ++ g') S2 := gdOk_app.mpr ⟨hg, hg'⟩
        rw [← hk] at hq'
        cases hkk : isTp dx with
        | false =>
          rw [hkk] at hq hq'
          cases hq with
          | l st =>
            cases hq' with
            | l st' =>
              obtain ⟨vs, hh, _⟩ := st _ _ _ s2 (Ext.refl _ _) hg
              obtain ⟨vs', hh', _⟩ := st' _ _ _ s2 (Ext.refl _ _) hg'
              exact ⟨q, q', vs, vs', rfl, .inl ⟨hh, hh', p3 _ _ _ (yields_zipL (fun L2 S2 H2 s e g => st L2 S2 H2 s e (gdOk_app.mp g).1) (fun L2 S2 H2 s e g => st' L2 S2 H2 s e (gdOk_app.mp g).2)) hgg s2 (Ext.refl _ _)⟩⟩
        | true =>
          rw [hkk] at hq hq'
          cases hq with
          | t st =>
            cases hq' with
            | t st' =>
              obtain ⟨vs, hh, _⟩ := st _ _ _ s2 (Ext.refl _ _)
              obtain ⟨vs', hh', _⟩ := st' _ _ _ s2 (Ext.refl _ _)
              exact ⟨q, q', vs, vs', rfl, .inr ⟨hh, hh', p3 _ _ _ (yields_zipT st st') hgg s2 (Ext.refl _ _)⟩⟩
      · exact p2.elim
end
end Pf
end

section
set_option Elab.async false
set_option linter.all false
set_option maxRecDepth 100000
set_option maxHeartbeats 1000000
/-! P7: targets, comprehensions. -/
namespace Pf
open PySem PySem.Spec PyProof.Rows L2
section
variable {K : PySem.W.Frag} {LT : XAt} {T : List (Addr × Str)} {L L' : List Addr} {H H' : Hp} {S : Store}
/-- objects that nobody changes are the same -/
def Agr (H H' : Hp) : Prop := ∀ b o, H b = some o → HO.plainMut o = false → (∀ ps, o ≠ .tbl ps) → H' b = some o
theorem CellsOk.agr (g : Agr H H') {cl : List (Str × Addr)} {fr : List Str} {vs : List V} (h : CellsOk H cl fr vs) : CellsOk H' cl fr vs :=
  ⟨h.len, h.inj, h.all, fun i x v h1 h2 => by
    obtain ⟨c, oc, u, q1, q2, q3, q4⟩ := h.at_ i x v h1 h2
    exact ⟨c, oc, u, q1, g _ _ q2 rfl (fun ps z => by unfold FixO at z; cases z), q3, q4⟩⟩
mutual
theorem RepV.agr (g : Agr H H') : ∀ {d : D} {v : V}, RepV K LT L H d v → RepV K LT L H' d v
  | _, _, .non => .non
  | _, _, .bl b => .bl b
  | _, _, .int i => .int i
  | _, _, .str x => .str x
  | _, _, .tup h hd ho r => .tup (by
      rcases h with (h | ⟨o, h⟩) | h
      · exact .inl (.inl (g _ _ h rfl (fun ps z => by cases z)))
      · exact .inl (.inr ⟨o, g _ _ h rfl (fun ps z => by cases z)⟩)
      · exact .inr h) (fun z => let ⟨o, h1, h2⟩ := hd z; ⟨o, g _ _ h1 rfl (fun ps z => by cases z), h2⟩) (fun z => g _ _ (ho z) rfl (fun ps z => by cases z)) (RepVs.agr g r)
  | _, _, .rol h r => .rol (by
      rcases h with ⟨o, h⟩ | h
      · exact .inl ⟨o, g _ _ h rfl (fun ps z => by cases z)⟩
      · exact .inr h) (RepVs.agr g r)
  | _, _, .ref h => .ref h
  | _, _, .clo h2 h3 h4 r => .clo (g _ _ h2 rfl (fun ps z => by unfold FixO at z; cases z)) (g _ _ h3 rfl (fun ps z => by unfold LamX.CodeO at z; cases z)) (h4.agr g) (RepVs.agr g r)
  | _, _, .exn h => .exn h
theorem RepVs.agr (g : Agr H H') : ∀ {ds : List D} {vs : List V}, RepVs K LT L H ds vs → RepVs K LT L H' ds vs
  | _, _, .nil => .nil
  | _, _, .cons r t => .cons (RepV.agr g r) (RepVs.agr g t)
end
theorem ER.agr {ρ : Env} {σ : L2.St} (g : Agr H H') (er : ER K LT L H ρ σ) : ER K LT L H' ρ σ := ⟨er.len, fun i d h => let ⟨v, h1, h2⟩ := er.at_ i d h; ⟨v, h1, h2.agr g⟩⟩
/-- a list that is not of the store is written -/
theorem Agr.out {p : Addr} {xs ys : List V} (h : H p = some (.lst xs)) : Agr H (upd H p (.lst ys)) := fun b o hb hm _ => by
  rw [upd_ne (fun z => by rw [z, h] at hb; cases hb; cases hm)]; exact hb
theorem SR.out {p : Addr} {xs ys : List V} (sr : SR K LT T L S H) (h : H p = some (.lst xs)) (n : p ∉ L) : SR K LT T L S (upd H p (.lst ys)) := by
  have g : Agr H (upd H p (.lst ys)) := Agr.out h
  have hL : ∀ a ∈ L, upd H p (.lst ys) a = H a := fun a ha => upd_ne fun z => n (z ▸ ha)
  refine ⟨sr.len, fun m o a h1 h2 => ?_, sr.sep, fun q hq => ?_⟩
  · have r := sr.objs m o a h1 h2
    have ha := hL a (List.mem_of_getElem? h2)
    cases o with
    | lst ds => obtain ⟨vs, q1, q2, q3⟩ := r; exact ⟨vs, ha.trans q1, q2.agr g, q3⟩
    | dK kvs => obtain ⟨vs, q1, q2, q3, q4⟩ := r; exact ⟨vs, ha.trans q1, q2, q3.agr g, q4⟩
    | dT kvs => obtain ⟨vs, q1, q2, q3, q4⟩ := r; exact ⟨vs, ha.trans q1, q2, q3.agr g, q4⟩
  · obtain ⟨ps, q1, q2, q3⟩ := sr.tabs q hq
    refine ⟨ps, by rw [upd_ne (fun z => by rw [z, h] at q1; cases q1)]; exact q1, q2, fun pos cv hc => ?_⟩
    obtain ⟨c, e1, e2⟩ := q3 pos cv hc
    exact ⟨c, e1, g _ _ e2 (by unfold LamX.CodeO; rfl) (fun ps z => by unfold LamX.CodeO at z; cases z)⟩
theorem Ext.out {p : Addr} {o : HO} (e : Ext L H L' H') (h : H p = none) : Ext L H L' (upd H' p o) := ⟨e.pre, fun b u hb n t => by rw [upd_ne (ne_of_none hb h)]; exact e.keep b u hb n t⟩
theorem wipe_in {σ : L2.St} {i : Nat} : ∀ {vs : List Nat}, i ∈ vs → (wipe σ vs)[i]? = (σ[i]?).map fun _ => none
  | v :: vs, h => by
    unfold wipe
    by_cases hv : v = i
    · subst hv
      rw [List.getElem?_set]
      simp only [if_true, wipe_length]
      by_cases hl : v < σ.length
      · rw [if_pos hl, List.getElem?_eq_getElem hl]; rfl
      · rw [if_neg hl, List.getElem?_eq_none (by omega)]; rfl
    · rw [List.getElem?_set_ne hv]
      exact wipe_in ((List.mem_cons.mp h).resolve_left fun z => hv z.symm)
theorem wipe_ext {σ τ : L2.St} {vs : List Nat} (hl : σ.length = τ.length) (h : ∀ i, i ∉ vs → σ[i]? = τ[i]?) : wipe σ vs = wipe τ vs := by
  refine List.ext_getElem? fun i => ?_
  by_cases hi : i ∈ vs
  · rw [wipe_in hi, wipe_in hi]
    by_cases hs : i < σ.length
    · rw [List.getElem?_eq_getElem hs, List.getElem?_eq_getElem (hl ▸ hs)]; rfl
    · rw [List.getElem?_eq_none (by omega), List.getElem?_eq_none (by omega)]
  · rw [wipe_out hi, wipe_out hi]; exact h i hi
theorem wipe_set {σ : L2.St} {i : Nat} {x : Option V} {vs : List Nat} (h : i ∈ vs) : wipe (σ.set i x) vs = wipe σ vs :=
  wipe_ext (List.length_set ..) fun j hj => List.getElem?_set_ne (fun z : i = j => hj (by rw [← z]; exact h))
theorem wipe_wipe {σ : L2.St} {vs : List Nat} : wipe (wipe σ vs) vs = wipe σ vs := wipe_ext (wipe_length ..) fun _ hj => wipe_out hj
end
/-! ### targets -/
def tG (K : PySem.W.Frag) (LT : XAt) (T : List (Addr × Str)) (g : Tg) (sl : List Nat) : TG := fun v σ H Q => ∃ d ρ S L ρ1, RepV K LT L H d v ∧ ER K LT L H ρ σ ∧ SR K LT T L S H ∧ g d ρ = some ρ1 ∧
  ∀ σ1, ER K LT L H ρ1 σ1 → (∀ vs, (∀ i ∈ sl, i ∈ vs) → wipe σ1 vs = wipe σ vs) → Q σ1 H
def tGs (K : PySem.W.Frag) (LT : XAt) (T : List (Addr × Str)) (g : Tgs) (sl : List Nat) : TGs := fun v σ H Q => ∃ d ρ S L ρ1, RepVs K LT L H d v ∧ ER K LT L H ρ σ ∧ SR K LT T L S H ∧ g d ρ = some ρ1 ∧
  ∀ σ1, ER K LT L H ρ1 σ1 → (∀ vs, (∀ i ∈ sl, i ∈ vs) → wipe σ1 vs = wipe σ vs) → Q σ1 H
abbrev STg (LT : XAt) (T : List (Addr × Str)) (X : Cx) (tg : Expr) (g : Tg) (sl : List Nat) : Prop := PG X tg (tG X.K LT T g sl)
abbrev STgs (LT : XAt) (T : List (Addr × Str)) (X : Cx) (tg : List Expr) (g : Tgs) (sl : List Nat) : Prop := PGs X tg (tGs X.K LT T g sl)
section
variable {LT : XAt} {T : List (Addr × Str)} {X : Cx} {tg e a b c elt iter : Expr} {es ifs : List Expr} {f fa fb fc fe : Ex} {fs : Ar} {fi gi it : It} {ft : Ts} {pos p p2 : Pos} {g : Tg} {gs : Tgs} {sl sl2 : List Nat}
theorem sg_name {i : Nat} {x : Str} (hN : X.N.Nodup) (hi : X.N[i]? = some x) (hx : Loc X.env.scope x) (hf : X.fn x = true ∨ X.env.scope.names.lookup x = some .local) : STg LT T X (.Name x pos) (gV i) [i] :=
  (pg_name hN hi hx hf).imp fun v σ H Q ⟨d, ρ, S, L, ρ1, r, er, sr, e, k⟩ => by
    cases e
    exact k _ (er.set i r) fun vs hv => wipe_set (hv i List.mem_cons_self)
theorem sgs_nil : STgs LT T X [] gNil [] := ⟨fun pins s σ H vs us Q I r ⟨d, ρ, S, L, ρ1, rr, er, sr, e, k⟩ => by
  cases rr with
  | nil =>
    cases r
    cases e
    exact assignInOrder_nil ⟨σ, H, I, k σ er fun _ _ => rfl⟩
  | cons _ _ => cases e⟩
theorem sgs_cons {e : Expr} (hs : notStar e = true) (h1 : STg LT T X e g sl) (h2 : STgs LT T X es gs sl2) : STgs LT T X (e :: es) (gCons g gs) (sl ++ sl2) := ⟨fun pins s σ H vs us Q I r ⟨d, ρ, S, L, ρ1, rr, er, sr, ee, k⟩ => by
  refine (pgs_cons h1 h2 (by rw [assign_cons hs] <;> rfl)).run pins s σ H vs us Q I r ?_
  cases rr with
  | nil => cases ee
  | @cons d ds v vs r1 r2 =>
    unfold Pf.gCons at ee
    obtain ⟨ρ2, e1, e2⟩ := Option.bind_eq_some_iff.mp ee
    refine ⟨v, vs, rfl, d, ρ, S, L, ρ2, r1, er, sr, e1, fun σ1 er1 w1 => ⟨ds, ρ2, S, L, ρ1, r2, er1, sr, e2, fun σ2 er2 w2 => k σ2 er2 fun vs hv => ?_⟩⟩
    rw [w2 vs fun i hi => hv i (List.mem_append_right _ hi), w1 vs fun i hi => hv i (List.mem_append_left _ hi)]⟩
theorem assign_len {env : PySem.Env} : ∀ {es : List Expr}, es.all notStar = true → (assignEach es env).length = es.length ∧ (assignEach es env).findIdx? (·.1) = none
  | [], _ => ⟨rfl, rfl⟩
  | e :: es, h => by
    rw [List.all_cons, Bool.and_eq_true] at h
    obtain ⟨h1, h2⟩ := assign_len (env := env) h.2
    rw [assign_cons h.1]
    refine ⟨by rw [List.length_cons, List.length_cons, h1], ?_⟩
    rw [List.findIdx?_cons]
    simp [h2]
theorem gs_len : ∀ {es : List Expr} {gs : Tgs} {sl : List Nat} {v : List V} {σ : L2.St} {H : Hp} {Q : L2.St → Hp → Prop}, True := trivial
theorem sg_tup {k : Nat} {n : Nat} (hc : X.calm = true) (h : STgs LT T X es gs sl) (h1 : es.all notStar = true) (hn : es.length = n) : STg LT T X (.Tuple es k pos) (fun d ρ => match d with | .tup _ ds => if ds.length = n then gs ds ρ else none | _ => none) sl :=
  (pg_tup hc h (n := n) (by rw [(assign_len h1).1, hn]) (assign_len h1).2).imp fun v σ H Q ⟨d, ρ, S, L, ρ1, r, er, sr, e, k⟩ => by
    cases r with
    | @tup nn a vs ds hq hd _ rr =>
      dsimp only at e
      split at e
      · rename_i hl
        exact ⟨a, vs, rfl, hq, by rw [← rr.length]; exact hl, ds, ρ, S, L, ρ1, rr, er, sr, e, k⟩
      · cases e
    | _ => cases e
/-! ### comprehensions -/
theorem bindI {β : Type} {Z : List Addr → Hp → R β → Prop} {K : PySem.W.Frag} {L : List Addr} {H : Hp} {S : Store} {ρ : Env} {σ : L2.St} {W : WX} {a : It} {g : List D × Gd → Store → R β} (tg : Tgt K LT T (at_ W σ) Z) (er : ER K LT L H ρ σ) (sr : SR K LT T L S H) (h : Z L H ((a ρ S).bind g)) :
    tI K LT T a W σ H fun J H1 => ∃ q S1 L1, Yields K LT T L1 H1 J q.1 q.2 ∧ gdOk q.2 S1 ∧ SR K LT T L1 S1 H1 ∧ ER K LT L1 H1 ρ σ ∧ Z L1 H1 (g q S1) ∧ Ext L H L1 H1 := by
  refine ⟨ρ, S, L, er, sr, ?_⟩
  cases q : a ρ S with
  | ok d S' =>
    rw [q] at h
    exact fun J H' L' h1 h2 s e => ⟨d, S', L', h1, h2, s, er.ext sr e, tg.weak _ _ _ _ _ h e, e⟩
  | exc c S' => rw [q] at h; exact tg.exc _ _ _ _ h
  | bad => rw [q] at h; exact tg.bad _ _ h
theorem tI_mono {K : PySem.W.Frag} {f : It} {W : WX} {σ : L2.St} {H : Hp} {Q Q' : L2.It → Hp → Prop} (h : tI K LT T f W σ H Q) (i : ∀ v H', Q v H' → Q' v H') : tI K LT T f W σ H Q' := by
  obtain ⟨ρ, S, L, er, sr, p⟩ := h
  refine ⟨ρ, S, L, er, sr, ?_⟩
  cases q : f ρ S with
  | ok d S' => rw [q] at p; exact fun a H' L' h1 h2 b c => i _ _ (p a H' L' h1 h2 b c)
  | exc c S' => rw [q] at p; exact p
  | bad => rw [q] at p; exact p
/-- no wish at all: nothing may be raised -/
def W0 : WX := fun _ _ _ _ => False
theorem takes0 {X : Cx} : Takes X W0 := fun _ _ ⟨_, _, _, _, _, _, _, _, _, _, _, _, _, _, _, _, w⟩ => w.elim
theorem lc_read {K : PySem.W.Frag} {own : List Nat} {W : WX} {σ : L2.St} {H : Hp} {Q : VK} (hsl : ∀ i ∈ sl, i ∈ own) (h : tL K LT T (aComp own it g ft fe) W σ H Q) :
    tLc (tI K LT T it W) (tG K LT T g sl) (tT K LT T ft W0) (tE K LT T fe W0) own σ H Q := by
  obtain ⟨ρ, S, L, er, sr, p⟩ := h
  refine tI_mono (bindI tgPL er sr p) fun J H1 ⟨q, S1, L1, yl, gd, s1, er1, p1, x1⟩ D hD => ?_
  clear p
  have p1' : PostL K LT T L1 H1 (at_ W σ) (compF q.2 g ft fe (wipeD ρ own) q.1 [] S1) Q := p1
  refine ⟨fun i m H => m = q.1.length - i ∧ i ≤ q.1.length ∧ ∃ S2 L2 acc vacc, H D = some (.lst vacc) ∧ D ∉ L2 ∧ RepVs K LT L2 H acc vacc ∧ SR K LT T L2 S2 H ∧ ER K LT L2 H (wipeD ρ own) (wipe σ own) ∧ Ext L1 H1 L2 H ∧
    PostL K LT T L1 H1 (at_ W σ) (compF q.2 g ft fe (wipeD ρ own) (q.1.drop i) acc S2) Q, ⟨q.1.length, rfl, Nat.zero_le _, S1, L1, [], [], upd_same, s1.notNone hD, .nil, s1.new hD, (er1.ext s1 (Ext.new hD)).wipe own, Ext.new hD, by rw [List.drop_zero]; exact p1'⟩, ?_⟩
  rintro i m H2 ⟨rfl, hi, S2, L2, acc, vacc, hDl, hDn, ra, s2, er2, x2, p2⟩
  by_cases hlt : i < q.1.length
  · have hget : q.1[i]? = some q.1[i] := List.getElem?_eq_getElem hlt
    rw [List.drop_eq_getElem_cons hlt] at p2
    unfold compF at p2
    split at p2
    · rename_i hg
      obtain ⟨y1, _⟩ := yl L2 S2 H2 s2 x2 hg
      obtain ⟨go, yy⟩ := y1 i _ hget
      refine .inr ⟨go, fun H => i + 1 ≤ q.1.length ∧ ∃ S2 L2 acc vacc, H D = some (.lst vacc) ∧ D ∉ L2 ∧ RepVs K LT L2 H acc vacc ∧ SR K LT T L2 S2 H ∧ ER K LT L2 H (wipeD ρ own) (wipe σ own) ∧ Ext L1 H1 L2 H ∧
        PostL K LT T L1 H1 (at_ W σ) (compF q.2 g ft fe (wipeD ρ own) (q.1.drop (i + 1)) acc S2) Q, fun H' h' => ⟨_, Nat.sub_lt_sub_left hlt (Nat.lt_succ_self i), rfl, h'⟩, fun x H3 hy => ?_⟩
      obtain ⟨rx, s3, x3⟩ := yy x H3 hy
      split at p2
      · rename_i ρ1 hρ1
        refine ⟨_, wipeD ρ own, S2, L2, ρ1, rx, er2.ext s2 x3, s3, hρ1, fun σ1 er3 hw => ⟨(hw own hsl).trans wipe_wipe, ρ1, S2, L2, er3, s3, ?_⟩⟩
        have x13 : Ext L1 H1 L2 H3 := x2.trans x3
        have hD3 : H3 D = some (.lst vacc) := x3.keep D _ hDl hDn (fun ps z => by cases z)
        have ra3 := ra.ext s2 x3
        have er3' := er2.ext s2 x3
        cases ht : ft ρ1 S2 with
        | bad => rw [ht] at p2; exact p2.elim
        | exc c S' => rw [ht] at p2; exact p2.elim
        | ok k S3 =>
          rw [ht] at p2
          intro H4 L4 s4 x4
          have hD4 : H4 D = some (.lst vacc) := x4.keep D _ hD3 hDn (fun ps z => by cases z)
          have hDn4 : D ∉ L4 := x4.notIn hD3 hDn (fun ps z => by cases z)
          cases k with
          | false =>
            rw [if_neg Bool.false_ne_true]
            exact ⟨hlt, S3, L4, acc, vacc, hD4, hDn4, ra3.ext s3 x4, s4, er3'.ext s3 x4, x13.trans x4, p2⟩
          | true =>
            rw [if_pos rfl]
            refine ⟨ρ1, S3, L4, er3.ext s3 x4, s4, ?_⟩
            dsimp only at p2
            cases hee : fe ρ1 S3 with
            | bad => rw [hee] at p2; exact p2.elim
            | exc c S' => rw [hee] at p2; exact p2.elim
            | ok v S4 =>
              rw [hee] at p2
              dsimp only at p2
              intro y H5 L5 ry s5 x5
              have hD5 : H5 D = some (.lst vacc) := x5.keep D _ hD4 hDn4 (fun ps z => by cases z)
              have hDn5 : D ∉ L5 := x5.notIn hD4 hDn4 (fun ps z => by cases z)
              split at p2
              · rename_i hz
                have ag : Agr H5 (upd H5 D (.lst (vacc ++ [y]))) := Agr.out hD5
                have ra5 := (ra3.ext s3 x4).ext s4 x5
                refine ⟨vacc, hD5, by rw [← ra.length]; exact hz, hlt, S4, L5, acc ++ [v], vacc ++ [y], upd_same, hDn5, (ra5.app (.cons ry .nil)).agr ag, s5.out hD5 hDn5, ((er3'.ext s3 x4).ext s4 x5).agr ag, ((x13.trans x4).trans x5).out hD, p2⟩
              · exact p2.elim
      · exact p2.elim
    · exact p2.elim
  · have hz : q.1.drop i = [] := List.drop_eq_nil_of_le (by omega)
    rw [hz] at p2
    unfold compF at p2
    split at p2
    · rename_i hg
      obtain ⟨_, y2⟩ := yl L2 S2 H2 s2 x2 hg
      exact .inl ⟨y2 i (by omega), p2 D vacc H2 L2 hDl hDn (fun o ho _ _ => by rw [hD] at ho; cases ho) ra s2 x2⟩
    · exact p2.elim
abbrev SPTs (LT : XAt) (T : List (Addr × Str)) (X : Cx) (es : List Expr) (f : Ts) : Prop := PTs X es (tT X.K LT T f W0)
theorem spts_nil : SPTs LT T X [] tYes := PTs.imp pts_nil fun σ H Q ⟨ρ, S, L, er, sr, p⟩ => (show PostP X.K LT T L H (at_ W0 σ) (.ok true S) Q from p) H L sr (Ext.refl _ _)
theorem spts_one (h : STs LT T X c ft) : SPTs LT T X [c] ft := pts_one (h W0 takes0)
theorem sls_comp {scope : Scope} {own : List (Str × Nat)} (hc : X.calm = true) (hN : X.N.Nodup) (hi : SIt LT T X tg iter it) (ok : BlkOk X.N X.env.scope scope own) (hsl : ∀ i ∈ sl, i ∈ own.map (·.2))
    (hb : ∀ (s : Shared) (H : Hp) (C : Addr) (cl : List (Str × Addr)) (fp : List Addr), STg LT T (X.blk s H scope (compEnvC scope cl C X.env) fp) tg g sl ∧ SPTs LT T (X.blk s H scope (compEnvC scope cl C X.env) fp) ifs ft ∧ SE LT T (X.blk s H scope (compEnvC scope cl C X.env) fp) elt fe)
    (hs : ∀ x, foldedSetIterable iter X.env x = pure x) : SLs LT T X (.ListComp elt [⟨tg, iter, ifs, 0⟩] scope pos) (aComp (own.map (·.2)) it g ft fe) := fun W tk =>
  (pe_lc hc hN (hi W tk) ok (fun s H C cl fp => (hb s H C cl fp).1) (fun s H C cl fp => (hb s H C cl fp).2.1) (fun s H C cl fp => (hb s H C cl fp).2.2 W0 takes0) hs).imp fun σ H Q q => lc_read hsl q
end
end Pf
end

section
set_option Elab.async false
set_option linter.all false
set_option maxRecDepth 100000
set_option maxHeartbeats 1000000
/-! P8: statements. -/
namespace L2
open PySem PySem.Spec PyProof.Rows
theorem PS.imp {X : Cx} {e : Stmt} {t t' : TS} (h : PS X e t) (i : ∀ D σ H, t' D σ H → t D σ H) : PS X e t' := ⟨fun pins s σ H D I q => h.run pins s σ H D I (i _ _ _ q)⟩
theorem PSs.imp {X : Cx} {e : List Stmt} {t t' : TS} (h : PSs X e t) (i : ∀ D σ H, t' D σ H → t D σ H) : PSs X e t' := ⟨fun pins s σ H D I q => h.run pins s σ H D I (i _ _ _ q)⟩
end L2
namespace Pf
open PySem PySem.Spec PyProof.Rows L2
def PostS (K : PySem.W.Frag) (LT : XAt) (T : List (Addr × Str)) (L : List Addr) (H : Hp) (W : WX) (r : SO) (D : Ends) : Prop := match r with
  | .nx ρ S' => ∀ σ' H' L', ER K LT L' H' ρ σ' → SR K LT T L' S' H' → Ext L H L' H' → D.nx σ' H'
  | .bk ρ S' => ∀ σ' H' L', ER K LT L' H' ρ σ' → SR K LT T L' S' H' → Ext L H L' H' → D.bk σ' H'
  | .ct ρ S' => ∀ σ' H' L', ER K LT L' H' ρ σ' → SR K LT T L' S' H' → Ext L H L' H' → D.ct σ' H'
  | .rt d S' => ∀ v H' L', RepV K LT L' H' d v → SR K LT T L' S' H' → Ext L H L' H' → D.rt v H'
  | .ex c ρ S' => ∀ (dx : DX c) σ' H' L', ER K LT L' H' ρ σ' → SR K LT T L' S' H' → Ext L H L' H' → W (.ref (He.ga K c)) dx.1 σ' H'
  | .bad => False
def tS (K : PySem.W.Frag) (LT : XAt) (T : List (Addr × Str)) (f : St) (W : WX) : TS := fun D σ H => ∃ ρ S L, ER K LT L H ρ σ ∧ SR K LT T L S H ∧ PostS K LT T L H W (f ρ S) D
abbrev SSt (LT : XAt) (T : List (Addr × Str)) (X : Cx) (st : Stmt) (f : St) : Prop := ∀ W, Takes X W → PS X st (tS X.K LT T f W)
abbrev SSs (LT : XAt) (T : List (Addr × Str)) (X : Cx) (st : List Stmt) (f : St) : Prop := ∀ W, Takes X W → PSs X st (tS X.K LT T f W)
section
variable {K : PySem.W.Frag} {LT : XAt} {T : List (Addr × Str)} {L : List Addr} {H : Hp} {S : Store} {ρ : Env} {σ : L2.St} {W : WX} {En : Ends}
theorem PostS.weak {L1 : List Addr} {H1 : Hp} {r : SO} (h : PostS K LT T L H W r En) (e : Ext L H L1 H1) : PostS K LT T L1 H1 W r En := by
  cases r with
  | nx ρ S => exact fun σ' H' L' r1 s1 e1 => h σ' H' L' r1 s1 (e.trans e1)
  | bk ρ S => exact fun σ' H' L' r1 s1 e1 => h σ' H' L' r1 s1 (e.trans e1)
  | ct ρ S => exact fun σ' H' L' r1 s1 e1 => h σ' H' L' r1 s1 (e.trans e1)
  | rt ρ S => exact fun σ' H' L' r1 s1 e1 => h σ' H' L' r1 s1 (e.trans e1)
  | ex c ρ S => exact fun dx σ' H' L' r1 s1 e1 => h dx σ' H' L' r1 s1 (e.trans e1)
  | bad => exact h
theorem bindES {a : Ex} {g : D → Store → SO} (er : ER K LT L H ρ σ) (sr : SR K LT T L S H) (h : PostS K LT T L H W (sX (a ρ S) ρ g) En) :
    tE K LT T a W σ H fun x H1 => ∃ dx S1 L1, RepV K LT L1 H1 dx x ∧ SR K LT T L1 S1 H1 ∧ ER K LT L1 H1 ρ σ ∧ PostS K LT T L1 H1 W (g dx S1) En ∧ Ext L H L1 H1 := by
  refine ⟨ρ, S, L, er, sr, ?_⟩
  cases q : a ρ S with
  | ok d S' =>
    rw [q] at h
    exact fun v H' L' r s e => ⟨d, S', L', r, s, er.ext sr e, PostS.weak h e, e⟩
  | exc c S' => rw [q] at h; exact fun dx H' L' s e => (show PostS K LT T L H W (.ex c ρ S') En from h) dx σ H' L' (er.ext sr e) s e
  | bad => rw [q] at h; exact (show False from h).elim
theorem bindTS {a : Ts} {g : Bool → Store → SO} (er : ER K LT L H ρ σ) (sr : SR K LT T L S H) (h : PostS K LT T L H W (sX (a ρ S) ρ g) En) :
    tT K LT T a W σ H fun x H1 => ∃ S1 L1, SR K LT T L1 S1 H1 ∧ ER K LT L1 H1 ρ σ ∧ PostS K LT T L1 H1 W (g x S1) En ∧ Ext L H L1 H1 := by
  refine ⟨ρ, S, L, er, sr, ?_⟩
  cases q : a ρ S with
  | ok d S' =>
    rw [q] at h
    exact fun H' L' s e => ⟨S', L', s, er.ext sr e, PostS.weak h e, e⟩
  | exc c S' => rw [q] at h; exact fun dx H' L' s e => (show PostS K LT T L H W (.ex c ρ S') En from h) dx σ H' L' (er.ext sr e) s e
  | bad => rw [q] at h; exact (show False from h).elim
theorem bindAS {a : Ar} {g : List D → Store → SO} (er : ER K LT L H ρ σ) (sr : SR K LT T L S H) (h : PostS K LT T L H W (sX (a ρ S) ρ g) En) :
    tA K LT T a W σ H fun x H1 => ∃ dx S1 L1, RepVs K LT L1 H1 dx x ∧ SR K LT T L1 S1 H1 ∧ ER K LT L1 H1 ρ σ ∧ PostS K LT T L1 H1 W (g dx S1) En ∧ Ext L H L1 H1 := by
  refine ⟨ρ, S, L, er, sr, ?_⟩
  cases q : a ρ S with
  | ok d S' =>
    rw [q] at h
    exact fun v H' L' r s e => ⟨d, S', L', r, s, er.ext sr e, PostS.weak h e, e⟩
  | exc c S' => rw [q] at h; exact fun dx H' L' s e => (show PostS K LT T L H W (.ex c ρ S') En from h) dx σ H' L' (er.ext sr e) s e
  | bad => rw [q] at h; exact (show False from h).elim
theorem bindIS {a : It} {g : List D × Gd → Store → SO} (er : ER K LT L H ρ σ) (sr : SR K LT T L S H) (h : PostS K LT T L H W (sX (a ρ S) ρ g) En) :
    tI K LT T a W σ H fun J H1 => ∃ q S1 L1, Yields K LT T L1 H1 J q.1 q.2 ∧ gdOk q.2 S1 ∧ SR K LT T L1 S1 H1 ∧ ER K LT L1 H1 ρ σ ∧ PostS K LT T L1 H1 W (g q S1) En ∧ Ext L H L1 H1 := by
  refine ⟨ρ, S, L, er, sr, ?_⟩
  cases q : a ρ S with
  | ok d S' =>
    rw [q] at h
    exact fun J H' L' h1 h2 s e => ⟨d, S', L', h1, h2, s, er.ext sr e, PostS.weak h e, e⟩
  | exc c S' => rw [q] at h; exact fun dx H' L' s e => (show PostS K LT T L H W (.ex c ρ S') En from h) dx σ H' L' (er.ext sr e) s e
  | bad => rw [q] at h; exact (show False from h).elim
end
section
variable {LT : XAt} {T : List (Addr × Str)} {X : Cx} {tg e a b c elt iter o i : Expr} {es ifs : List Expr} {f fa fb fc fe : Ex} {fs : Ar} {fi gi it : It} {ft : Ts} {pos p p2 : Pos} {g : Tg} {gs : Tgs} {sl sl2 : List Nat} {st : Stmt} {sts : List Stmt} {t u : St}
def sNever : St := fun _ _ => .bad
theorem ss_never : SSt LT T X st sNever := fun W tk => ps_never.imp fun D σ H ⟨_, _, _, _, _, p⟩ => p.elim
def cNever : Ex := fun _ _ => .bad
theorem pe_never {e : Expr} : PE X e fun _ _ _ => False := ⟨fun _ _ _ _ _ _ h => h.elim⟩
theorem se_never : SE LT T X e cNever := fun W tk => pe_never.imp fun σ H Q ⟨_, _, _, _, _, p⟩ => p
/-- an expression statement; an assignment -/
theorem ss_set {x : Str} {i : Nat} (hN : X.N.Nodup) (hi : X.N[i]? = some x) (hx : Loc X.env.scope x) (hf : X.fn x = true ∨ X.env.scope.names.lookup x = some .local) (hs : swapsWith e (some (.Name x p)) pos.line X.env = pure false) (he : SE LT T X e fe) :
    SSt LT T X (.Assign [.Name x p] e pos) (sSet (gV i) fe) := fun W tk => (ps_set hN hi hx (he W tk) hs hf).imp fun D σ H ⟨ρ, S, L, er, sr, p⟩ => tE_mono (bindES er sr p) fun x H1 ⟨dx, S1, L1, r1, s1, e1, p1, x1⟩ => by
  exact (show PostS X.K LT T L1 H1 W (.nx (ρ.set i (some dx)) S1) D from p1) _ H1 L1 (e1.set i r1) s1 (Ext.refl _ _)
theorem ss_setLc {x : Str} {i : Nat} {scope : Scope} {own : List (Str × Nat)} (hc : X.calm = true) (hN : X.N.Nodup) (hi : X.N[i]? = some x) (hx : X.env.scope.names.lookup x = some .local) (hsw : swapsWith (.ListComp elt [⟨tg, iter, ifs, 0⟩] scope pos) (some (.Name x p)) p2.line X.env = pure true)
    (hit : SIt LT T X tg iter it) (ok : BlkOk X.N X.env.scope scope own) (hsl : ∀ i ∈ sl, i ∈ own.map (·.2))
    (hb : ∀ (s : Shared) (H : Hp) (C : Addr) (cl : List (Str × Addr)) (fp : List Addr), STg LT T (X.blk s H scope (compEnvC scope cl C X.env) fp) tg g sl ∧ SPTs LT T (X.blk s H scope (compEnvC scope cl C X.env) fp) ifs ft ∧ SE LT T (X.blk s H scope (compEnvC scope cl C X.env) fp) elt fe)
    (hs : ∀ x, foldedSetIterable iter X.env x = pure x) : SSt LT T X (.Assign [.Name x p] (.ListComp elt [⟨tg, iter, ifs, 0⟩] scope pos) p2) (sSet (gV i) (cNew (aComp (own.map (·.2)) it g ft fe))) := fun W tk =>
  (ps_setLc hc hN hi hx hsw (hit W tk) ok (fun s H C cl fp => (hb s H C cl fp).1) (fun s H C cl fp => (hb s H C cl fp).2.1) (fun s H C cl fp => (hb s H C cl fp).2.2 W0 takes0) hs).imp fun D σ H ⟨ρ, S, L, er, sr, p⟩ =>
    lc_read hsl (tL_new (tE_mono (bindES er sr p) fun x H1 ⟨dx, S1, L1, r1, s1, e1, p1, x1⟩ => (show PostS X.K LT T L1 H1 W (.nx (ρ.set i (some dx)) S1) D from p1) _ H1 L1 (e1.set i r1) s1 (Ext.refl _ _)))
theorem ss_asg (hs : swapsWithSole [tg] e pos.line X.env = pure false) (hw : swappedStores [tg] e X.env = pure none) (hn : notStar tg = true) (hg : STg LT T X tg g sl) (he : SE LT T X e fe) : SSt LT T X (.Assign [tg] e pos) (sSet g fe) := fun W tk =>
  (ps_asg (he W tk) hg hs hw (by rw [assign_cons hn] <;> rfl)).imp fun D σ H ⟨ρ, S, L, er, sr, p⟩ => tE_mono (bindES er sr p) fun x H1 ⟨dx, S1, L1, r1, s1, e1, p1, x1⟩ => by
    split at p1
    · rename_i ρ1 h1
      exact ⟨dx, ρ, S1, L1, ρ1, r1, e1, s1, h1, fun σ1 er1 _ => p1 σ1 H1 L1 er1 s1 (Ext.refl _ _)⟩
    · exact p1.elim
def gPar (is : List Nat) : Tgs := fun ds ρ => if ds.length = is.length then some ((is.zip ds).foldl (fun ρ p => ρ.set p.1 (some p.2)) ρ) else none
theorem ss_par {i j : Nat} {x y : Str} {px py pt : Pos} {kt k2 : Nat} {pt2 : Pos} (hc : X.calm = true) (hN : X.N.Nodup) (hi : X.N[i]? = some x) (hj : X.N[j]? = some y) (hij : i ≠ j)
    (hx : X.env.scope.names.lookup x = some .local) (hy : X.env.scope.names.lookup y = some .local) (ha : SAr LT T X [a, b] fs)
    (hw : swappedStores [.Tuple [.Name x px, .Name y py] kt pt] (.Tuple [a, b] k2 pt2) X.env = pure (some [x, y])) : SSt LT T X (.Assign [.Tuple [.Name x px, .Name y py] kt pt] (.Tuple [a, b] k2 pt2) pos) (sPar (gPar [i, j]) fs) := fun W tk =>
  (ps_par hc hN hi hj hij hx hy (ha W tk) hw).imp fun D σ H ⟨ρ, S, L, er, sr, p⟩ => tA_mono (bindAS er sr p) fun xs H1 ⟨ds, S1, L1, r1, s1, e1, p1, x1⟩ => by
    unfold gPar at p1
    split at p1
    · rename_i ρ1 h1
      split at h1
      · rename_i hl
        match ds, hl, r1 with
        | [d1, d2], _, r1 =>
          obtain ⟨v, w, rfl, q1, q2⟩ := r1.two
          cases h1
          exact ⟨v, w, rfl, p1 _ H1 L1 ((e1.set i q1).set j q2) s1 (Ext.refl _ _)⟩
      · cases h1
    · exact p1.elim
theorem ss_par3 {i j l : Nat} {x y z : Str} {c : Expr} {px py pz pt : Pos} {kt k2 : Nat} {pt2 : Pos} (hc : X.calm = true) (hN : X.N.Nodup) (hi : X.N[i]? = some x) (hj : X.N[j]? = some y) (hl : X.N[l]? = some z) (hij : i ≠ j) (hil : i ≠ l) (hjl : j ≠ l)
    (hx : X.env.scope.names.lookup x = some .local) (hy : X.env.scope.names.lookup y = some .local) (hz : X.env.scope.names.lookup z = some .local) (ha : SAr LT T X [a, b, c] fs)
    (hw : swappedStores [.Tuple [.Name x px, .Name y py, .Name z pz] kt pt] (.Tuple [a, b, c] k2 pt2) X.env = pure (some [x, y, z])) : SSt LT T X (.Assign [.Tuple [.Name x px, .Name y py, .Name z pz] kt pt] (.Tuple [a, b, c] k2 pt2) pos) (sPar (gPar [i, j, l]) fs) := fun W tk =>
  (ps_par3 hc hN hi hj hl hij hil hjl hx hy hz (ha W tk) hw).imp fun D σ H ⟨ρ, S, L, er, sr, p⟩ => tA_mono (bindAS er sr p) fun xs H1 ⟨ds, S1, L1, r1, s1, e1, p1, x1⟩ => by
    unfold gPar at p1
    split at p1
    · rename_i ρ1 h1
      split at h1
      · rename_i hl'
        match ds, hl', r1 with
        | [d1, d2, d3], _, .cons q1 r1 =>
          obtain ⟨v, w, rfl, q2, q3⟩ := r1.two
          cases h1
          exact ⟨_, v, w, rfl, p1 _ H1 L1 (((e1.set i q1).set j q2).set l q3) s1 (Ext.refl _ _)⟩
      · cases h1
    · exact p1.elim
theorem ss_expr (hs : swapsWith e none pos.line X.env = pure false) (he : SE LT T X e fe) : SSt LT T X (.Expr e pos) (sDrop fe) := fun W tk => (ps_expr (he W tk) hs).imp fun D σ H ⟨ρ, S, L, er, sr, p⟩ => tE_mono (bindES er sr p) fun x H1 ⟨dx, S1, L1, r1, s1, e1, p1, x1⟩ =>
  p1 σ H1 L1 e1 s1 (Ext.refl _ _)
theorem ss_doc {x : Str} {j : Nat} : SSt LT T X (.Expr (.Constant (.str x) j p) pos) sNx := fun W tk => ps_doc.imp fun D σ H ⟨ρ, S, L, er, sr, p⟩ => p σ H L er sr (Ext.refl _ _)
theorem ss_pass : SSt LT T X (.Pass pos) sNx := fun W tk => ps_pass.imp fun D σ H ⟨ρ, S, L, er, sr, p⟩ => p σ H L er sr (Ext.refl _ _)
theorem ss_brk : SSt LT T X (.Break pos) sBrk := fun W tk => ps_break.imp fun D σ H ⟨ρ, S, L, er, sr, p⟩ => p σ H L er sr (Ext.refl _ _)
theorem ss_cnt : SSt LT T X (.Continue pos) sCnt := fun W tk => ps_continue.imp fun D σ H ⟨ρ, S, L, er, sr, p⟩ => p σ H L er sr (Ext.refl _ _)
theorem ss_ret (he : SE LT T X e fe) : SSt LT T X (.Return (some e) pos) (sRet fe) := fun W tk => (ps_ret (he W tk)).imp fun D σ H ⟨ρ, S, L, er, sr, p⟩ => tE_mono (bindES er sr p) fun x H1 ⟨dx, S1, L1, r1, s1, e1, p1, x1⟩ =>
  p1 x H1 L1 r1 s1 (Ext.refl _ _)
def sRetN : St := fun _ S => .rt .non S
theorem ss_retN : SSt LT T X (.Return none pos) sRetN := fun W tk => ps_retN.imp fun D σ H ⟨ρ, S, L, er, sr, p⟩ => p _ H L .non sr (Ext.refl _ _)
theorem ss_if {x y : List Stmt} (ht : STs LT T X c ft) (ha : SSs LT T X x t) (hb : SSs LT T X y u) : SSt LT T X (.If c x y pos) (sIf ft t u) := fun W tk => (ps_if (ht W tk) (ha W tk) (hb W tk)).imp fun D σ H ⟨ρ, S, L, er, sr, p⟩ =>
  tT_mono (bindTS er sr p) fun k H1 ⟨S1, L1, s1, e1, p1, x1⟩ => by
    cases k with
    | true => exact ⟨ρ, S1, L1, e1, s1, p1⟩
    | false => exact ⟨ρ, S1, L1, e1, s1, p1⟩
theorem sss_nil : SSs LT T X [] sNx := fun W tk => pss_nil.imp fun D σ H ⟨ρ, S, L, er, sr, p⟩ => p σ H L er sr (Ext.refl _ _)
theorem sss_one (h : SSt LT T X st t) : SSs LT T X [st] t := fun W tk => pss_one (h W tk)
theorem sss_cons (h1 : SSt LT T X st t) (h2 : SSs LT T X sts u) : SSs LT T X (st :: sts) (sSeq t u) := fun W tk => (pss_cons (h1 W tk) (h2 W tk)).imp fun D σ H ⟨ρ, S, L, er, sr, p⟩ => by
  refine ⟨ρ, S, L, er, sr, ?_⟩
  unfold sSeq at p
  cases q : t ρ S with
  | nx ρ1 S1 => rw [q] at p; exact fun σ' H' L' r1 s1 e1 => ⟨ρ1, S1, L', r1, s1, p.weak e1⟩
  | bk ρ1 S1 => rw [q] at p; exact p
  | ct ρ1 S1 => rw [q] at p; exact p
  | rt d S1 => rw [q] at p; exact p
  | ex c ρ1 S1 => rw [q] at p; exact p
  | bad => rw [q] at p; exact p
theorem ss_for {body : List Stmt} (hp : PassesOwn (model X.prog X.w) X.A X.env X.xe) (hc : X.calm = true) (hi : SIt LT T X tg iter it) (hg : STg LT T X tg g sl) (hb : SSs LT T X body t) (hs : ∀ x, foldedSetIterable iter X.env x = pure x) : SSt LT T X (.For tg iter body [] pos) (sFor it g t) := fun W tk =>
  (ps_for hp hc (hi W tk) hg (hb W tk) hs).imp fun D σ H ⟨ρ, S, L, er, sr, p⟩ => tI_mono (bindIS er sr p) fun J H1 ⟨q, S1, L1, yl, gd, s1, er1, p1, x1⟩ => by
    clear p
    refine ⟨fun i m σ H => m = q.1.length - i ∧ i ≤ q.1.length ∧ ∃ ρ S2 L2, ER X.K LT L2 H ρ σ ∧ SR X.K LT T L2 S2 H ∧ Ext L1 H1 L2 H ∧ PostS X.K LT T L1 H1 W (forF q.2 g t (q.1.drop i) ρ S2) D,
      ⟨q.1.length, rfl, Nat.zero_le _, ρ, S1, L1, er1, s1, Ext.refl _ _, by rw [List.drop_zero]; exact p1⟩, ?_⟩
    rintro i m σ2 H2 ⟨rfl, hi, ρ2, S2, L2, er2, s2, x2, p2⟩
    by_cases hlt : i < q.1.length
    · have hget : q.1[i]? = some q.1[i] := List.getElem?_eq_getElem hlt
      rw [List.drop_eq_getElem_cons hlt] at p2
      unfold forF at p2
      split at p2
      · rename_i hgd
        obtain ⟨y1, _⟩ := yl L2 S2 H2 s2 x2 hgd
        obtain ⟨go, yy⟩ := y1 i _ hget
        refine .inr ⟨go, fun σ H => i + 1 ≤ q.1.length ∧ ∃ ρ S2 L2, ER X.K LT L2 H ρ σ ∧ SR X.K LT T L2 S2 H ∧ Ext L1 H1 L2 H ∧ PostS X.K LT T L1 H1 W (forF q.2 g t (q.1.drop (i + 1)) ρ S2) D,
          fun σ' H' h' => ⟨_, Nat.sub_lt_sub_left hlt (Nat.lt_succ_self i), rfl, h'⟩, fun x H3 hy => ?_⟩
        obtain ⟨rx, s3, x3⟩ := yy x H3 hy
        have x13 : Ext L1 H1 L2 H3 := x2.trans x3
        split at p2
        · rename_i ρ3 hρ3
          refine ⟨_, ρ2, S2, L2, ρ3, rx, er2.ext s2 x3, s3, hρ3, fun σ3 er3 _ => ⟨ρ3, S2, L2, er3, s3, ?_⟩⟩
          cases hb : t ρ3 S2 with
          | nx ρ4 S4 => rw [hb] at p2; exact fun σ' H' L' r4 s4 e4 => ⟨hlt, ρ4, S4, L', r4, s4, x13.trans e4, p2⟩
          | ct ρ4 S4 => rw [hb] at p2; exact fun σ' H' L' r4 s4 e4 => ⟨hlt, ρ4, S4, L', r4, s4, x13.trans e4, p2⟩
          | bk ρ4 S4 => rw [hb] at p2; exact fun σ' H' L' r4 s4 e4 => p2 σ' H' L' r4 s4 (x13.trans e4)
          | rt d S4 => rw [hb] at p2; exact fun v H' L' r4 s4 e4 => p2 v H' L' r4 s4 (x13.trans e4)
          | ex c ρ4 S4 => rw [hb] at p2; exact fun dx σ' H' L' r4 s4 e4 => p2 dx σ' H' L' r4 s4 (x13.trans e4)
          | bad => rw [hb] at p2; exact p2
        · exact p2.elim
      · exact p2.elim
    · have hz : q.1.drop i = [] := List.drop_eq_nil_of_le (by omega)
      rw [hz] at p2
      unfold forF at p2
      split at p2
      · rename_i hgd
        obtain ⟨_, y2⟩ := yl L2 S2 H2 s2 x2 hgd
        exact .inl ⟨y2 i (by omega), p2 σ2 H2 L2 er2 s2 x2⟩
      · exact p2.elim
theorem ss_while {body : List Stmt} (hp : PassesOwn (model X.prog X.w) X.A X.env X.xe) (ht : STs LT T X c ft) (hb : SSs LT T X body t) : SSt LT T X (.While c body [] pos) (sWhile ft t) := fun W tk =>
  (ps_while hp (ht W tk) (hb W tk)).imp fun D σ H ⟨ρ, S, L, er, sr, p⟩ => by
    refine ⟨fun m σ H2 => ∃ ρ S2 L2, ER X.K LT L2 H2 ρ σ ∧ SR X.K LT T L2 S2 H2 ∧ PostS X.K LT T L2 H2 W (whileF ft t m ρ S2) D, ⟨fuel, ρ, S, L, er, sr, p⟩, ?_⟩
    rintro m σ2 H2 ⟨ρ2, S2, L2, er2, s2, p2⟩
    cases m with
    | zero => exact (show False from p2).elim
    | succ n =>
      unfold whileF at p2
      refine tT_mono (bindTS er2 s2 p2) fun k H3 ⟨S3, L3, s3, e3, p3, x3⟩ => ?_
      cases k with
      | false => exact p3 σ2 H3 L3 e3 s3 (Ext.refl _ _)
      | true =>
        rw [if_pos rfl] at p3 ⊢
        refine ⟨fun σ H2 => ∃ ρ S2 L2, ER X.K LT L2 H2 ρ σ ∧ SR X.K LT T L2 S2 H2 ∧ PostS X.K LT T L2 H2 W (whileF ft t n ρ S2) D, fun σ' H' h' => ⟨n, Nat.lt_succ_self n, h'⟩, ρ2, S3, L3, e3, s3, ?_⟩
        cases hb : t ρ2 S3 with
        | nx ρ4 S4 => rw [hb] at p3; exact fun σ' H' L' r4 s4 e4 => ⟨ρ4, S4, L', r4, s4, PostS.weak p3 e4⟩
        | ct ρ4 S4 => rw [hb] at p3; exact fun σ' H' L' r4 s4 e4 => ⟨ρ4, S4, L', r4, s4, PostS.weak p3 e4⟩
        | bk ρ4 S4 => rw [hb] at p3; exact p3
        | rt d S4 => rw [hb] at p3; exact p3
        | ex c ρ4 S4 => rw [hb] at p3; exact p3
        | bad => rw [hb] at p3; exact p3
/-- o[i] = e -/
theorem ss_sub {op : D → D → D → Store → R Unit} (hset : PSet X (rSet3 X.K LT T op)) (ha : ∀ v, assign (.Subscript o i p) X.env v = (do
      let ov ← holding [v] (eval o X.env)
      let iv ← holding [v, ov] (eval i X.env)
      standAt p
      holding [v, ov, iv] (setItem ov iv v)
      release [v, ov, iv] [])) (hs : swapsWith e (some (.Subscript o i p)) pos.line X.env = pure false) (hw : swappedStores [.Subscript o i p] e X.env = pure none) (ho : SE LT T X o fa) (hi : SE LT T X i fb) (he : SE LT T X e fe) : SSt LT T X (.Assign [.Subscript o i p] e pos) (sSub op fa fb fe) := fun W tk =>
  (ps_asg (he W tk) (pg_sub (ho W tk) (hi W tk) hset ha) hs hw).imp fun D σ H ⟨ρ, S, L, er, sr, p⟩ =>
    tE_mono (bindES er sr p) fun v H1 ⟨dv, S1, L1, r1, s1, e1, p1, x1⟩ => tE_mono (bindES e1 s1 p1) fun ov H2 ⟨dov, S2, L2, r2, s2, e2, p2, x2⟩ => tE_mono (bindES e2 s2 p2) fun iv H3 ⟨di, S3, L3, r3, s3, e3, p3, x3⟩ => by
      refine ⟨dov, di, dv, S3, L3, at_ W σ, r2.ext s2 x3, r3, (r1.ext s1 x2).ext s2 x3, s3, ?_⟩
      cases q : op dov di dv S3 with
      | ok u S4 => rw [q] at p3; exact fun H4 L4 s4 x4 => (show PostS X.K LT T L3 H3 W (.nx ρ S4) D from p3) σ H4 L4 (e3.ext s3 x4) s4 x4
      | exc c S4 => rw [q] at p3; exact fun dx H4 L4 s4 x4 => (show PostS X.K LT T L3 H3 W (.ex c ρ S4) D from p3) dx σ H4 L4 (e3.ext s3 x4) s4 x4
      | bad => rw [q] at p3; exact (show False from p3).elim
end
end Pf
end

section
set_option Elab.async false
set_option linter.all false
set_option maxRecDepth 100000
set_option maxHeartbeats 4000000
/-! P8g: calls where it is known that no repr is under way. -/
namespace Pf
open PySem PySem.Spec PyProof.Rows L2
/-- room, and no repr under way -/
structure RoomG (k : Nat) (A : Around) : Prop where
  room : Room k A
  gd : A.guards = some []
theorem RoomG.deeper {k : Nat} {A : Around} (r : RoomG (k + 1) A) (env : PySem.Env) : RoomG k (A.deeper env) := ⟨r.room.deeper env, r.gd⟩
theorem RoomG.depth {k : Nat} {A : Around} (r : RoomG k A) : A.depth < recursionLimit := r.room.depth
theorem RoomG.hd {k : Nat} {A : Around} (r : RoomG k A) : A.handled = none := r.room.hd
theorem RoomG.units {k : Nat} {A : Around} (r : RoomG k A) : A.units + 64 < cLine := r.room.units
theorem RoomG.dp {k : Nat} {A : Around} (r : RoomG k A) : A.depth + 3 * k + 5 < recursionLimit := r.room.dp
theorem RoomG.un {k : Nat} {A : Around} (r : RoomG k A) : A.units + 16 * k + 200 < cLine := r.room.un
/-- a def's promise, kept where no repr is under way -/
structure FnG (P : Program) (w : World) (K : PySem.W.Frag) (mg : Str → Option Value) (base : Heap) (CX : CXT) (k : Nat) (f : Addr) (fd : FuncData) (ps : List Str) (sp : Sp) : Prop where
  len : ∀ vs H Q E, sp vs H Q E → vs.length = ps.length
  run : ∀ (A : Around) (outer : List PySem.Env) (s : Shared) (H : Hp) (args : Args) (us : List Value) (vs : List V) (Q : VK) (E : XK), RoomG k A → Env0 P w K mg base A outer s H → BindsTo s fd args (ps.zip us) → Vals vs us → sp vs H Q E →
    codeAny (model P w) A (.call (.ref f) args) (CR CX outer P w H s Q E) s
section
variable {CX : CXT} {P : Program} {w : World} {K : PySem.W.Frag} {mg : Str → Option Value} {base : Heap}
/-- the callee is run from a walk -/
theorem runG {X : Cx} {k : Nat} {f : Addr} {fd : FuncData} {ps : List Str} {sp : Sp} {E : L2.St → XK} {pins : List (Addr × Obj)} {σ : L2.St} {H : Hp} {s : Shared} {Q : VK} {us : List Value} {vs : List V}
    (F : FnG X.prog X.w X.K X.mg X.base CX k f fd ps sp) (hr : RoomG k X.A) (hb : Binds X.K fd ps []) (hx : PassesAt CX X σ (E σ)) (I : Inv X pins σ H s) (r : Vals vs us) (h : sp vs H Q (E σ)) :
    wpAny (model X.prog X.w) X.A (call (.ref f) us) (EP X pins σ Q) X.xe s := by
  have e1 : us.length = ps.length := r.length.symm.trans (F.len _ _ _ _ h)
  have bound : BindsTo s fd ⟨us, []⟩ (ps.zip us) := by
    have q := hb s us I.kIn (by simpa using e1)
    simpa using q
  have whole := F.run _ _ _ _ _ _ _ Q (E σ) hr I.env0 bound r h
  refine wpAny_call (codeAny_mono whole ?_)
  rintro (e | fl) s' hq
  · exact hx pins H s e s' I hq
  · revert hq
    cases fl <;> intro hq
    all_goals first | exact I.after hq | exact (show False from hq).elim
/-- a def by its body -/
theorem fnG_of {k : Nat} {f : Addr} {name qual : Str} {params : Arguments} {body : List Stmt} {scope : Scope} {dV kV doc pm cdv ct oc : Value} {an od : Option Addr} {osl : Array (Option Value)} {N ps : List Str} {sp : Sp}
    (lk : K.lookup f = some ⟨oc, od, .func (PySem.W.fnOf name qual params body scope dV kV doc pm an cdv ct), osl⟩) (hcd : PySem.W.codeIn K cdv qual = true) (S : FnScope N ps scope)
    (len : ∀ vs H Q E, sp vs H Q E → vs.length = ps.length)
    (hbody : ∀ (A : Around) (outer : List PySem.Env) (s : Shared) (H : Hp) (vs : List V) (Q : VK) (E : XK), RoomG k (A.deeper (envOfC qual scope s.heap.objs.size f cdv)) → sp vs H Q E →
      ∃ t, PSs (cxOf CX P w K mg base N qual scope f cdv A outer s H E) body t ∧ t { nx := fun _ H' => Q .non H', rt := Q } (start N vs) H) :
    FnG P w K mg base CX (k + 1) f (PySem.W.fnOf name qual params body scope dV kV doc pm an cdv ct) ps sp := by
  constructor
  · exact len
  intro A outer s H args us vs Q E hr e0 hb r hsp
  have inK : K.In s.heap := e0.mod.kin.keeps fun b o z => (e0.bs b o z).1
  have noLim : s.heap.NoLimit := e0.mod.nolimit.keeps fun b o z => (e0.bs b o z).1
  have kinds : ∀ y ∈ ps.zip us, scope.names.lookup y.1 = some .local ∨ (scope.names.lookup y.1 = some .cell ∧ ((cellsFrom (s.heap.objs.size + 1) scope.names []).lookup y.1).isSome = true) := by
    rintro ⟨n, v⟩ hy
    refine (S.par n (List.of_mem_zip hy).1).imp id fun q => ?_
    exact ⟨q, PySem.W.cellsFrom_some _ _ _ (.inl q)⟩
  have entered := codeAny_call_function (A := A) (args := args) (prog := P) (w := w) (s := s) (R := CR CX outer P w H s Q E) hr.room.depth (inK _ _ lk) rfl S.co S.gen rfl (PySem.W.codeRec_of inK hcd)
  refine entered (hb _ _ _ _ (wpAny_newFunctionEnv_cells S.kind kinds ?_))
  rintro env rfl s1 x
  refine ⟨noLim.keeps x.toInCall.keep, codeAny_func ?_⟩
  obtain ⟨t, ht, hq⟩ := hbody A outer s H vs Q E (hr.deeper _) hsp
  have atStart : Inv (cxOf CX P w K mg base N qual scope f cdv A outer s H E) [] (start N vs) H s1 := inv_start S hr.room.hd e0 (len _ _ _ _ hsp) r x
  refine wpAny_mono (ht.run [] s1 (start N vs) H _ atStart hq) ?_ fun _ _ z => z
  have done : ∀ {σ' : L2.St} {H' : Hp} {v : V} {u : Value} {s' : Shared}, Inv (cxOf CX P w K mg base N qual scope f cdv A outer s H E) [] σ' H' s' → RelV v u → Q v H' → CE outer P w H s Q u s' :=
    fun {σ' H' v u s'} J rv q => ⟨v, H', J.os, J.bare, J.base, J.hok, rv, q⟩
  rintro (_ | _ | _ | u) s' hs
  · obtain ⟨σ', H', J, q⟩ := hs
    exact done (v := V.non) (u := Value.none) J rfl q
  · exact (show False from hs.choose_spec.choose_spec.2).elim
  · exact (show False from hs.choose_spec.choose_spec.2).elim
  · obtain ⟨v, σ', H', J, rv, q⟩ := hs
    exact done J rv q
end
end Pf
end

section
set_option Elab.async false
set_option linter.all false
set_option maxRecDepth 100000
set_option maxHeartbeats 4000000
/-! P8h: the law's end, where the promise is kept while no repr is under way. -/
namespace Pf
open PySem PySem.Spec PyProof.Rows L2
/-- what is told of at the law's start: the tables of the lambdas' code; the script, unless K tells of it -/
def hpL (T : List Addr) (own : Bool) (a : Addr) (o : Obj) (xs : List V) : Hp := fun b =>
  match decide (b ∈ T) with
  | true => some (.tbl #[])
  | false => match own && decide (b = a) with
    | true => some (.frz o (.lst xs))
    | false => none
section
variable {T : List Addr} {own : Bool} {a b : Addr} {o : Obj} {xs : List V}
theorem hpL_T (h : b ∈ T) : hpL T own a o xs b = some (.tbl #[]) := by
  unfold hpL
  rw [decide_eq_true h]
theorem hpL_a (h : a ∉ T) : hpL T true a o xs a = some (.frz o (.lst xs)) := by
  unfold hpL
  rw [decide_eq_false h]
  simp
theorem hpL_no (h1 : b ∉ T) (h2 : b ≠ a) : hpL T own a o xs b = none := by
  unfold hpL
  rw [decide_eq_false h1, decide_eq_false h2]
  simp
theorem hpL_off (h1 : b ∉ T) : hpL T false a o xs b = none := by
  unfold hpL
  rw [decide_eq_false h1]
  simp
/-- all that it tells -/
theorem hpL_any {u : HO} (h : hpL T own a o xs b = some u) : (b ∈ T ∧ u = .tbl #[]) ∨ (own = true ∧ b = a ∧ b ∉ T ∧ u = .frz o (.lst xs)) := by
  by_cases h1 : b ∈ T
  · rw [hpL_T h1] at h
    exact .inl ⟨h1, (Option.some.inj h).symm⟩
  · cases hw : own with
    | false => rw [hw, hpL_off h1] at h; cases h
    | true =>
      by_cases h2 : b = a
      · subst h2
        rw [hw, hpL_a h1] at h
        exact .inr ⟨rfl, rfl, h1, (Option.some.inj h).symm⟩
      · rw [hpL_no h1 h2] at h; cases h
end
/-- the promise at the law's start -/
def LawAtG (l : PySem.W.OpenLaw) (w : World) (K : PySem.W.Frag) (k n : Nat) (x : Str) (mg : Str → Option Value) (fa : Addr) (h : Heap) : Prop :=
  ∃ (fd : FuncData) (cs : List (Addr × Addr)) (sp : Sp), (∀ p ∈ cs, h.get? p.2 = some { cls := .none, data := .fields #[] }) ∧ (∀ p ∈ cs, K.lookup p.2 = none) ∧ (∀ p ∈ cs, PySem.W.CodeHd h p.1 p.2) ∧ (∀ (s : Shared) (u : Value), BindsTo s fd ⟨[u], []⟩ [(x, u)]) ∧
    (∀ (H : Hp) (a : Addr) (ns : List Int), ns.length ≤ n → (∀ z ∈ ns, Builtin.Int.intBits z ≤ 1048576) → (∀ p ∈ cs, H p.2 = some (.tbl #[])) → SqL K H a (ns.map V.int) → sp [.ref a] H (fun v _ => v = .bl true) fun _ _ _ => False) ∧
    ∀ base : Heap, K.In base → base.Ns mainGlobals mg → (∀ p ∈ cs, LamX.TabB base mg p.1 p.2) → FnG l.prog w K mg base (L2.CX l.prog w) k fa fd [x] sp
theorem caller_room {k : Nat} (h : Room k callerA) : RoomG k callerA := ⟨h, rfl⟩
/-- an object that is no sequence and no empty table is not told of -/
theorem notTold {h : Heap} {T : List Addr} {own : Bool} {a b : Addr} {oa o : Obj} {vs : Array Value} {n : Nat} {xs : List V} (hT : ∀ c ∈ T, h.get? c = some { cls := .none, data := .fields #[] }) (ha : h.get? a = some oa) (hd : oa.data = .seq vs n)
    (hb : h.get? b = some o) (h1 : ∀ vs n, o.data ≠ .seq vs n) (h2 : o.data ≠ .fields #[]) : hpL T own a oa xs b = none := by
  refine hpL_no (fun z => ?_) fun z => ?_
  · have q := hT b z
    rw [hb] at q
    exact h2 (congrArg Obj.data (Option.some.inj q))
  · subst z
    rw [ha] at hb
    rw [← Option.some.inj hb] at h1
    exact h1 _ _ hd
theorem walk_G {l : PySem.W.OpenLaw} {n k : Nat} {q : Program} {loose : List Str} {XP : (Str → Option Value) → Heap → Prop} {YP : World → Heap → Prop} {d : DefRec} {x : Str}
    (hn : l.most = some n) (hn2 : n ≤ sizeLine) (hdf : d.params.defaults = []) (hr : Room k callerA)
    (F : ∀ (w : World) (mg : Str → Option Value) (fa : Addr) (h : Heap), YP w h → h.Ns mainGlobals mg → mg d.name = some (.ref fa) → ∃ K : PySem.W.Frag, K.In h ∧ LawAtG l w K k n x mg fa h) :
    PySem.W.WalkO q loose XP YP l.row.toRowW d [] (fun f vs => PySem.call f vs) := by
  refine Att.attach_callB hn hdf fun w s₀ s₁ mg mb fa o pm cd doc a vs ns G Y ho hd hcd hmg hobj hints hlen hbits hg => ?_
  obtain ⟨K, KX, fd, cs, sp, hT0, nT, C, hb, hsp, hF⟩ := F w mg fa _ Y G.T.g hmg
  have hT : ∀ c ∈ cs.map (·.2), s₁.heap.get? c = some { cls := .none, data := .fields #[] } := by
    intro c hc
    obtain ⟨p, hp, rfl⟩ := List.mem_map.mp hc
    exact hT0 p hp
  have inT : ∀ p ∈ cs, p.2 ∈ cs.map (·.2) := fun p hp => List.mem_map.mpr ⟨p, hp, rfl⟩
  have aT : a ∉ cs.map (·.2) := by
    intro z
    have q := (hT a z).symm.trans hobj
    have q2 := congrArg Obj.data (Option.some.inj q)
    cases q2
  have hsz : (ns.map V.int).length ≤ sizeLine := by rw [List.length_map]; exact Nat.le_trans hlen hn2
  -- what is told of
  generalize hown : (K.lookup a).isNone = own
  generalize hHe : hpL (cs.map (·.2)) own a { cls := .type "list", data := .seq vs.toArray } (ns.map V.int) = H
  have quiet : ∀ {b : Addr} {o : Obj}, s₁.heap.get? b = some o → (∀ vs n, o.data ≠ .seq vs n) → o.data ≠ .fields #[] → (hidT s₁.heap H).get? b = some o := by
    intro b o hbo h1 h2
    refine hidT_get hbo ?_
    rw [← hHe]
    exact notTold hT hobj rfl hbo h1 h2
  have nsAt : ∀ {b : Addr} {m : Str → Option Value}, s₁.heap.Ns b m → (hidT s₁.heap H).Ns b m := by
    rintro b m ⟨o, es, ep, e, dd, r⟩
    refine ⟨o, es, ep, quiet e (fun vs n z => ?_) fun z => ?_, dd, r⟩
    all_goals rw [dd] at z; cases z
  have kin : K.In (hidT s₁.heap H) := by
    intro b o e
    refine hidT_get (KX b o e) ?_
    rw [← hHe]
    cases hq : hpL (cs.map (·.2)) own a { cls := .type "list", data := .seq vs.toArray } (ns.map V.int) b with
    | none => rfl
    | some u =>
      rcases hpL_any hq with ⟨h1, _⟩ | ⟨h1, h2, _, _⟩
      · obtain ⟨p, hp, e2⟩ := List.mem_map.mp h1
        rw [← e2, nT p hp] at e
        cases e
      · rw [← hown, ← h2, e] at h1
        cases h1
  have tabs : ∀ p ∈ cs, LamX.TabB (hidT s₁.heap H) mg p.1 p.2 := by
    intro p hp
    have t0 := hT0 p hp
    refine ⟨?_, ?_, ?_⟩
    · obtain ⟨o, us, f1, f2, f3, f4, f5, f6, f7, e1, r1, r2, r3, rest⟩ := C p hp
      refine ⟨o, us, f1, f2, f3, f4, f5, f6, f7, quiet e1 (fun vs n z => ?_) fun z => ?_, r1, r2, r3, rest⟩
      · rw [r2] at z; cases z
      · rw [r2] at z
        rw [Data.fields.inj z] at r3
        simp at r3
    · obtain ⟨bm, ob, b1, b2, b3, b4, b5, b6⟩ := G.T.bmain
      refine ⟨bm, ob, b1, b2, fun z => ?_, fun z => ?_, quiet b3 (fun vs n z => ?_) fun z => ?_, b4, b5, b6⟩
      · obtain ⟨o, es, ep, e, dd, _⟩ := G.T.g
        rw [z, e] at b3
        rw [← Option.some.inj b3, dd] at b6
        cases b6
      · rw [z, t0] at b3
        rw [← Option.some.inj b3] at b6
        cases b6
      · rw [b6] at z; cases z
      · rw [b6] at z; cases z
    · intro z
      obtain ⟨o, es, ep, e, dd, _⟩ := G.T.g
      rw [z, t0] at e
      rw [← Option.some.inj e] at dd
      cases dd
  have seen : SqL K H a (ns.map V.int) := by
    cases hk : K.lookup a with
    | none =>
      rw [hk] at hown
      refine .inl (.inr ⟨{ cls := .type "list", data := .seq vs.toArray }, ?_⟩)
      rw [← hHe, ← hown]
      exact hpL_a aT
    | some oa =>
      have e := KX a oa hk
      rw [hobj] at e
      have e2 := Option.some.inj e
      subst e2
      exact .inr ⟨_, vs.toArray, _, hk, rfl, rfl, rfl, by rw [List.size_toArray, hints.length]; simpa using hsz, by simpa using vals_ints hints⟩
  have hok : HOk l.prog w H s₁.heap := by
    intro b u hu
    rw [← hHe] at hu
    rcases hpL_any hu with ⟨h1, rfl⟩ | ⟨_, rfl, _, rfl⟩
    · exact hT b h1
    · exact ⟨hobj, hsz, vs, _, vals_ints hints, hobj⟩
  have env : Env0 l.prog w K mg (hidT s₁.heap H) callerA [] s₁ H :=
    { frames := rfl
      mod := ⟨kin, nsAt G.T.g, ⟨mb, nsAt G.T.b, G.T.builtins⟩, by obtain ⟨mc, h1, h2⟩ := G.T.nolimit; exact ⟨mc, nsAt h1, h2⟩⟩
      bs := fun b o e => of_hidT e
      bsz := Nat.le_of_eq (hidT_size _ _)
      funs := trivial
      frf := fun b hb => absurd (show b ∈ ([] : List Addr) from hb) (by simp)
      hok := hok
      bare := .of_eq hg }
  have told : ∀ p ∈ cs, H p.2 = some (.tbl #[]) := fun p hp => by rw [← hHe]; exact hpL_T (inT p hp)
  refine codeAny_mono ((hF _ kin (nsAt G.T.g) tabs).run callerA [] s₁ H ⟨[.ref a], []⟩ [.ref a] [.ref a] _ _ (caller_room hr) env (hb s₁ (.ref a)) (.cons rfl .nil) (hsp H a ns hlen hbits told seen)) ?_
  rintro (e | fl) s' hq
  · obtain ⟨_, _, _, _, _, _, _, _, _, _, _, _, z⟩ := hq
    exact z.elim
  cases fl with
  | next => exact (show False from hq).elim
  | brk => exact (show False from hq).elim
  | cont => exact (show False from hq).elim
  | ret u =>
    obtain ⟨v, H', os, bare, un, hok', r', hv⟩ := hq
    have hv' : v = .bl true := hv
    subst hv'
    have hu : u = Value.bool true := r'
    subst hu
    have same : ∀ b o, b ∉ cs.map (·.2) → s₁.heap.get? b = some o → s'.heap.get? b = some o := by
      intro b o nb e
      cases hq : H b with
      | none => exact un.keep b o e hq (by intro z; exact absurd (show b ∈ ([] : List Addr) from z) (by simp)) (by simp)
      | some u =>
        rw [← hHe] at hq
        rcases hpL_any hq with ⟨h1, _⟩ | ⟨_, rfl, _, rfl⟩
        · exact absurd h1 nb
        · rw [hHe] at hq
          obtain ⟨e2, _⟩ := hok' b _ (un.frzs b _ _ hq)
          rw [hobj] at e
          rw [← Option.some.inj e]
          exact e2
    have more : ∀ p ∈ cs, ∃ m : Array Value, s'.heap.get? p.2 = some { cls := .none, data := .fields m } := by
      intro p hp
      obtain ⟨m, z⟩ := un.tbls p.2 #[] (told p hp)
      exact ⟨_, hok' p.2 _ z⟩
    refine ⟨rfl, ⟨fun b o e => ?_, fun b o e => ?_⟩, os, bare⟩
    · by_cases nb : b ∈ cs.map (·.2)
      · obtain ⟨p, hp, e2⟩ := List.mem_map.mp nb
        subst e2
        obtain ⟨m, hm⟩ := more p hp
        rw [hT0 p hp] at e
        have e3 := Option.some.inj e
        subst e3
        exact .inr (.inl ⟨((C p hp).tab (hT0 p hp)).isCodeTable, rfl, #[], m, rfl, by rw [Array.empty_append]; exact hm⟩)
      · exact .inl (same b o nb e)
    · by_cases nb : b ∈ cs.map (·.2)
      · obtain ⟨p, hp, e2⟩ := List.mem_map.mp nb
        subst e2
        obtain ⟨m, hm⟩ := more p hp
        exact ⟨_, hm⟩
      · exact ⟨o, same b o nb e⟩
end Pf
end

section
set_option Elab.async false
set_option linter.all false
set_option maxRecDepth 100000
set_option maxHeartbeats 1000000
/-! P9: closures: called, made. -/
namespace Pf
open PySem PySem.Spec PyProof.Rows L2
/-- a cell of cl -/
def InC (cl : List (Str × Addr)) (b : Addr) : Prop := ∃ y, cl.lookup y = some b
open Classical in
/-- the cells of cl are not told of -/
noncomputable def unc (cl : List (Str × Addr)) (H : Hp) : Hp := fun b => if InC cl b then none else H b
open Classical in
/-- told of again, as before -/
noncomputable def rtr (cl : List (Str × Addr)) (H0 H : Hp) : Hp := fun b => if InC cl b then H0 b else H b
theorem unc_in {cl : List (Str × Addr)} {H : Hp} {b : Addr} (h : InC cl b) : unc cl H b = none := if_pos h
theorem unc_out {cl : List (Str × Addr)} {H : Hp} {b : Addr} (h : ¬ InC cl b) : unc cl H b = H b := if_neg h
theorem rtr_in {cl : List (Str × Addr)} {H0 H : Hp} {b : Addr} (h : InC cl b) : rtr cl H0 H b = H0 b := if_pos h
theorem rtr_out {cl : List (Str × Addr)} {H0 H : Hp} {b : Addr} (h : ¬ InC cl b) : rtr cl H0 H b = H b := if_neg h
theorem fix_ne_tbl {c : Addr} {o : Obj} (ps : Array Value) : FixO c o ≠ .tbl ps := fun z => by unfold FixO at z; cases z
/-- the cells are told of as they are -/
def CellsT (cl : List (Str × Addr)) (H : Hp) : Prop := ∀ b, InC cl b → ∃ oc u, H b = some (FixO b oc) ∧ oc.data = .cell (some u)
theorem CellsOk.trk {H : Hp} {cl : List (Str × Addr)} {fr : List Str} {vs : List V} (C : CellsOk H cl fr vs) : CellsT cl H := fun b ⟨y, hy⟩ => by
  obtain ⟨i, hi⟩ := List.mem_iff_getElem?.mp (C.all y b hy)
  have hl : i < vs.length := by rw [C.len]; exact (List.getElem?_eq_some_iff.mp hi).1
  obtain ⟨c, oc, u, h1, h2, h3, _⟩ := C.at_ i y _ hi (List.getElem?_eq_getElem hl)
  rw [hy] at h1
  cases h1
  exact ⟨oc, u, h2, h3⟩
def HO.isTF : HO → Bool
  | .tup _ => true
  | .frz _ _ => true
  | _ => false
/-- tuples, known things are the same -/
def AgrD (H H' : Hp) : Prop := ∀ b o, H b = some o → HO.isTF o = true → H' b = some o
section
variable {K : PySem.W.Frag} {LT : XAt} {T : List (Addr × Str)} {L L' : List Addr} {H H' H0 H1 : Hp} {S S' : Store} {P : Program} {w : World} {h : Heap} {cl : List (Str × Addr)}
mutual
theorem RepV.agrD (g : AgrD H H') : ∀ {d : D} {v : V}, isD d = true → RepV K LT L H d v → RepV K LT L H' d v
  | _, _, _, .non => .non
  | _, _, _, .bl b => .bl b
  | _, _, _, .int i => .int i
  | _, _, _, .str x => .str x
  | _, _, hd, .tup h hd' ho r => .tup (by
      rcases h with (h | ⟨o, h⟩) | h
      · exact .inl (.inl (g _ _ h rfl))
      · exact .inl (.inr ⟨o, g _ _ h rfl⟩)
      · exact .inr h) (fun z => let ⟨o, h1, h2⟩ := hd' z; ⟨o, g _ _ h1 rfl, h2⟩) (fun z => g _ _ (ho z) rfl) (RepVs.agrD g (by simpa [isD] using hd) r)
  | _, _, hd, .rol h r => .rol (by
      rcases h with ⟨o, h⟩ | h
      · exact .inl ⟨o, g _ _ h rfl⟩
      · exact .inr h) (RepVs.agrD g (by simpa [isD] using hd) r)
  | _, _, _, .ref h => .ref h
  | _, _, hd, .clo _ _ _ _ => by simp [isD] at hd
  | _, _, hd, .exn _ => by simp [isD] at hd
theorem RepVs.agrD (g : AgrD H H') : ∀ {ds : List D} {vs : List V}, isDs ds = true → RepVs K LT L H ds vs → RepVs K LT L H' ds vs
  | _, _, _, .nil => .nil
  | _, _, hd, .cons r t => by
    simp only [isDs, Bool.and_eq_true] at hd
    exact .cons (RepV.agrD g hd.1 r) (RepVs.agrD g hd.2 t)
end
theorem SR.agrD (sr : SR K LT T L S H) (g : AgrD H H') (hL : ∀ a ∈ L, H' a = H a) (ht : LamX.Tabs T H') : SR K LT T L S H' :=
  ⟨sr.len, fun m o a h1 h2 => by
    have r := sr.objs m o a h1 h2
    have ha := hL a (List.mem_of_getElem? h2)
    cases o with
    | lst ds => obtain ⟨vs, q1, q2, q3⟩ := r; exact ⟨vs, ha.trans q1, q2.agrD g q3, q3⟩
    | dK kvs => obtain ⟨vs, q1, q2, q3, q4⟩ := r; exact ⟨vs, ha.trans q1, q2, q3.agrD g q4, q4⟩
    | dT kvs => obtain ⟨vs, q1, q2, q3, q4⟩ := r; exact ⟨vs, ha.trans q1, q2, q3.agrD g q4, q4⟩, sr.sep, ht⟩
theorem hok_unc (hok : HOk P w H h) (C : ∀ b, InC cl b → ∃ oc, H b = some (FixO b oc)) : HOk P w (unc cl H) h := fun a o e => by
  by_cases ha : InC cl a
  · rw [unc_in ha] at e; cases e
  · rw [unc_out ha] at e
    have nb : ∀ b u, H b = some u → (∀ φ, u ≠ .ext φ) → ¬ InC cl b := fun b u hb hn z => by
      obtain ⟨oc, q⟩ := C b z
      rw [hb] at q
      exact hn _ (Option.some.inj q)
    exact (hok a o e).stay (fun _ _ _ q => q) (fun b q => by rw [unc_out (nb b _ q (fun φ z => by cases z))]; exact q) (fun b xs q => by rw [unc_out (nb b _ q (fun φ z => by cases z))]; exact q)
theorem fix_ok {a : Addr} {oc : Obj} (h1 : h.get? a = some oc) (H : Hp) : ObjOk P w H h a (FixO a oc) := ⟨h1, ⟨oc, h1⟩, fun _ _ e k => k _ e⟩
theorem hok_rtr (hok : HOk P w H1 h) (hn : ∀ b, InC cl b → H1 b = none) (C : ∀ b, InC cl b → ∃ oc, H0 b = some (FixO b oc) ∧ h.get? b = some oc) : HOk P w (rtr cl H0 H1) h := fun a o e => by
  by_cases ha : InC cl a
  · rw [rtr_in ha] at e
    obtain ⟨oc, q1, q2⟩ := C a ha
    rw [q1] at e
    cases e
    exact fix_ok q2 _
  · rw [rtr_out ha] at e
    exact (hok a o e).stay (fun _ _ _ q => q) (fun b q => by rw [rtr_out (fun z => by rw [hn b z] at q; cases q)]; exact q) (fun b xs q => by rw [rtr_out (fun z => by rw [hn b z] at q; cases q)]; exact q)
theorem cell_code (hok : HOk P w H h) (C : CellsT cl H) {b : Addr} {q : Str} (e : H b = some (LamX.CodeO b q)) : ¬ InC cl b := fun z => by
  obtain ⟨oc, u, h1, h2⟩ := C b z
  obtain ⟨h3, _, _⟩ := hok b _ h1
  obtain ⟨⟨oc2, vs, t, h4, h5, _⟩, _, _⟩ := hok b _ e
  have h3 : h.get? b = some oc := h3
  rw [h4] at h3
  cases h3
  rw [h2] at h5
  cases h5
theorem cell_get (hok : HOk P w H h) {b : Addr} {oc : Obj} (e : H b = some (FixO b oc)) : h.get? b = some oc := (hok b _ e).1
theorem tabs_unc (hok : HOk P w H h) (C : CellsT cl H) (t : LamX.Tabs T H) : LamX.Tabs T (unc cl H) := fun p hp => by
  obtain ⟨ps, q1, q2, q3⟩ := t p hp
  refine ⟨ps, by rw [unc_out (fun z => by obtain ⟨oc, u, z1, _⟩ := C _ z; rw [q1] at z1; exact fix_ne_tbl ps (Option.some.inj z1).symm)]; exact q1, q2, fun pos cv hc => ?_⟩
  obtain ⟨c, e1, e2⟩ := q3 pos cv hc
  exact ⟨c, e1, by rw [unc_out (cell_code hok C e2)]; exact e2⟩
theorem tabs_rtr (hn : ∀ b, InC cl b → H1 b = none) (t : LamX.Tabs T H1) : LamX.Tabs T (rtr cl H0 H1) := t.ext fun b o e => by
  rw [rtr_out (fun z => by rw [hn b z] at e; cases e)]; exact e
theorem agr_unc (C : CellsT cl H) : AgrD H (unc cl H) := fun b o e ht => by
  rw [unc_out (fun z => by obtain ⟨oc, u, z1, _⟩ := C _ z; rw [e] at z1; cases z1; unfold FixO at ht; cases ht)]; exact e
theorem agr_rtr (hn : ∀ b, InC cl b → H1 b = none) : AgrD H1 (rtr cl H0 H1) := fun b o e _ => by
  rw [rtr_out (fun z => by rw [hn b z] at e; cases e)]; exact e
theorem sr_unc (sr : SR K LT T L S H) (hok : HOk P w H h) (C : CellsT cl H) : SR K LT T L S (unc cl H) :=
  sr.agrD (agr_unc C) (fun a ha => unc_out fun z => by obtain ⟨oc, u, z1, _⟩ := C _ z; exact sr.notMut z1 (by unfold FixO; rfl) ha) (tabs_unc hok C sr.tabs)
theorem sr_rtr (sr : SR K LT T L S H1) (hn : ∀ b, InC cl b → H1 b = none) : SR K LT T L S (rtr cl H0 H1) :=
  sr.agrD (agr_rtr hn) (fun a ha => rtr_out fun z => sr.notNone (hn a z) ha) (tabs_rtr hn sr.tabs)
theorem ext_rtr (sr : SR K LT T L' S' H1) (hn : ∀ b, InC cl b → H1 b = none) (e : Ext L (unc cl H) L' H1) : Ext L H L' (rtr cl H H1) := by
  obtain ⟨⟨M, rfl, hm⟩, k⟩ := e
  refine ⟨⟨M, rfl, fun a ha o ho na nt => ?_⟩, fun b o hb nb nt => ?_⟩
  · by_cases hc : InC cl a
    · exact sr.notNone (hn a hc) (List.mem_append_right _ ha)
    · exact hm a ha o (by rw [unc_out hc]; exact ho) na nt
  · by_cases hc : InC cl b
    · rw [rtr_in hc]; exact hb
    · rw [rtr_out hc]; exact k b o (by rw [unc_out hc]; exact hb) nb nt
end
/-! ### a closure called -/
abbrev nfL (li : LamI) (cl : List (Str × Addr)) (c' : Addr) : NdefX.NF := ⟨"<lambda>", li.qual, li.params, [], li.scope, cl, c'⟩
structure LamOk (li : LamI) : Prop where
  S : NdefX.NScope li.N li.ps li.fr li.scope
  hb : ∀ (cl : List (Str × Addr)) (pm cdv ctv : Value) (us : List Value), us.length = li.ps.length → bindArgs (PySem.W.kla_fn "<lambda>" li.qual li.params li.body li.scope cl pm cdv ctv) ⟨us, []⟩ = pure (li.ps.zip us)
/-- what a call leaves is plain -/
def okR : R D → R D
  | .ok d S => if isD d = true then .ok d S else .bad
  | r => r
abbrev lamStart (li : LamI) (args caps : List D) : Env := args.map some ++ (caps.map some ++ List.replicate (li.N.length - args.length - caps.length) none)
abbrev ncxL (P : Program) (w : World) (K : PySem.W.Frag) (mg : Str → Option Value) (base : Heap) (li : LamI) (f : Addr) (cl : List (Str × Addr)) (c' : Addr) (A : Around) (outer : List PySem.Env) (s : Shared) (H : Hp) (E : XK) : Cx :=
  NdefX.ncx (L2.CX P w) P w K mg base li.N (nfL li cl c') f A outer s H E
section
variable {X : Cx} {LT : XAt} {T : List (Addr × Str)} {L : List Addr} {H : Hp} {S : Store} {pins : List (Addr × Obj)} {σ : L2.St} {s : Shared}
theorem er_start {K : PySem.W.Frag} {args caps : List D} {vs cvs : List V} {N : List Str} {n : Nat} (hN : n = N.length) (ra : RepVs K LT L H args vs) (rc : RepVs K LT L H caps cvs) :
    ER K LT L H (args.map some ++ (caps.map some ++ List.replicate (n - args.length - caps.length) none)) (NdefX.startF N vs (cvs.map some)) := by
  subst hN
  unfold NdefX.startF
  refine ⟨by simp only [List.length_append, List.length_map, List.length_replicate, ra.length, rc.length], fun i d h => ?_⟩
  rw [slot_get] at h
  by_cases hi : i < args.length
  · rw [List.getElem?_append_left (by simpa using hi), List.getElem?_map, List.getElem?_eq_getElem hi] at h
    have e : args[i] = d := Option.some.inj h
    obtain ⟨v, h1, h2⟩ := ra.get (List.getElem?_eq_getElem hi)
    rw [e] at h2
    exact ⟨v, by rw [List.getElem?_append_left (by rw [List.length_map, ← ra.length]; exact hi), List.getElem?_map, h1]; rfl, h2⟩
  · rw [List.getElem?_append_right (by simpa using hi), List.length_map] at h
    have hvs : (vs.map (some : V → Option V)).length = args.length := by rw [List.length_map, ra.length]
    have hcs : (cvs.map (some : V → Option V)).length = caps.length := by rw [List.length_map, rc.length]
    rw [List.getElem?_append_right (by rw [hvs]; omega), hvs]
    by_cases hj : i - args.length < caps.length
    · rw [List.getElem?_append_left (by simpa using hj), List.getElem?_map, List.getElem?_eq_getElem hj] at h
      have e : caps[i - args.length] = d := Option.some.inj h
      obtain ⟨v, h1, h2⟩ := rc.get (List.getElem?_eq_getElem hj)
      rw [e] at h2
      exact ⟨v, by rw [List.getElem?_append_left (by rw [hcs]; exact hj), List.getElem?_map, h1]; rfl, h2⟩
    · rw [List.getElem?_append_right (by simpa using hj), List.getElem?_replicate] at h
      split at h <;> cases h
theorem clo_call {li : LamI} {f c' : Addr} {cl : List (Str × Addr)} {pm ctv : Value} {vs cvs : List V} {args caps : List D} {us : List Value} {k : Nat} {fb : Ex} {Q : VK} {E : XK} (I : Inv X pins σ H s) (ok : LamOk li)
    (hf : H f = some (FixO f (PySem.W.kla_obj "<lambda>" li.qual li.params li.body li.scope cl pm c' ctv))) (hc : H c' = some (LamX.CodeO c' li.qual)) (C : CellsOk H cl li.fr cvs) (rc : RepVs X.K LT L H caps cvs) (hdc : isDs caps = true)
    (ra : RepVs X.K LT L H args vs) (hda : isDs args = true) (hv : Vals vs us) (sr : SR X.K LT T L S H) (hr : RoomG (k + 1) X.A) (hl : args.length = li.ps.length)
    (hbody : ∀ (A : Around) (outer : List PySem.Env) (s : Shared) (H : Hp) (E : XK), RoomG k (A.deeper (NdefX.envF (nfL li cl c') f s.heap.objs.size)) → SE LT T (ncxL X.prog X.w X.K X.mg X.base li f cl c' A outer s H E) li.body fb)
    (p : Post X.K LT T L H E (okR (fb (lamStart li args caps) S)) Q) : codeAny (model X.prog X.w) X.A (.call (.ref f) ⟨us, []⟩) (CR (L2.CX X.prog X.w) X.stack X.prog X.w H s Q E) s := by
  have CT := C.trk
  have ho := cell_get I.hok hf
  obtain ⟨⟨oc, vs0, t, hoc, hdcc, hvc⟩, _, _⟩ := I.hok c' _ hc
  have hlv : vs.length = li.ps.length := by rw [← ra.length]; exact hl
  have nfs : ∀ b, InC cl b → b ∉ frs X.stack := fun b z hb => by
    obtain ⟨oc, u, q1, _⟩ := CT b z
    rw [I.stkFree b hb] at q1
    cases q1
  have e0 := I.env0
  have hokI : HOk X.prog X.w (unc cl H) s.heap := hok_unc I.hok fun b z => let ⟨oc, u, q1, _⟩ := CT b z; ⟨oc, q1⟩
  have e1 : Env0 X.prog X.w X.K X.mg X.base X.A X.stack s (unc cl H) := ⟨e0.frames, e0.mod, fun b o e => ⟨(e0.bs b o e).1, by
    by_cases z : InC cl b
    · exact unc_in z
    · rw [unc_out z]; exact (e0.bs b o e).2⟩, e0.bsz, e0.funs, fun b hb => by rw [unc_out (fun z => nfs b z hb)]; exact e0.frf b hb, hokI, e0.bare⟩
  have CA : NdefX.CellsAt cl li.fr (cvs.map some) s.heap (unc cl H) := ⟨by rw [List.length_map]; exact C.len, fun y c e => ⟨unc_in ⟨y, e⟩, by
      obtain ⟨oc, u, q1, q2⟩ := CT c ⟨y, e⟩
      exact ⟨some u, oc, cell_get I.hok q1, q2⟩⟩, C.inj, fun i y e => by
      have hi : i < cvs.length := by rw [C.len]; exact (List.getElem?_eq_some_iff.mp e).1
      obtain ⟨c, oc, u, q1, q2, q3, q4⟩ := C.at_ i y _ e (List.getElem?_eq_getElem hi)
      refine ⟨c, q1, fun v hv => ?_⟩
      rw [List.getElem?_map, List.getElem?_eq_getElem hi] at hv
      cases hv
      exact ⟨u, q4, oc, cell_get I.hok q2, q3⟩⟩
  have lim : s.heap.NoLimit := e0.mod.nolimit.keeps fun b o e => (e0.bs b o e).1
  refine PySem.W.kla_callFunE hr.depth ho rfl ok.S.co ok.S.gen rfl ⟨c', oc, vs0, t, rfl, hoc, hdcc, hvc⟩ ?_
  rw [ok.hb cl pm (.ref c') ctv us (by rw [← hv.length]; exact hlv)]
  refine wpAny_pure (wpAny_newFunctionEnv ok.S.nocell (fun ⟨n, _⟩ hy => ok.S.par n (List.of_mem_zip hy).1) (fun h₁ hns hsb => ⟨lim.fresh _ hsb, ?_⟩) ok.S.kind)
  show codeAny _ _ (.expr li.body (NdefX.envF (nfL li cl c') f s.heap.objs.size)) _ _
  have kp : ∀ b o, s.heap.get? b = some o → h₁.get? b = some o := fun b o e => hsb.extBut b o (Nat.ne_of_lt (Heap.lt_size e)) (Heap.get?_push_of_some _ e)
  -- what is wanted within
  let E' : XK := fun cls d Ho => E cls d (rtr cl H Ho)
  let Q' : VK := fun v Ho => (∀ b, InC cl b → Ho b = none) → Q v (rtr cl H Ho)
  have J : Inv (ncxL X.prog X.w X.K X.mg X.base li f cl c' X.A X.stack s (unc cl H) E') [] (NdefX.startF li.N vs (cvs.map some)) (unc cl H) { s with heap := h₁, toks := s.toks + (li.ps.zip us).length } := NdefX.inv_startN ok.S hr.hd e1 hlv hv CA hns kp
  have tk : Takes (ncxL X.prog X.w X.K X.mg X.base li f cl c' X.A X.stack s (unc cl H) E') (fun cls d _ H' => (∀ b, InC cl b → H' b = none) → E' cls d H') := fun u s' xx => by
    refine (takes_of (X := ncxL X.prog X.w X.K X.mg X.base li f cl c' X.A X.stack s (unc cl H) E') (E := E') rfl rfl rfl rfl) u s' ?_
    obtain ⟨a, B, sI, pins, σ', H', cls, d, e, I', nb, up, sky, na, os, ag, w'⟩ := xx
    exact ⟨a, B, sI, pins, σ', H', cls, d, e, I', nb, up, sky, na, os, ag, w' fun b ⟨y, hy⟩ => I'.freeC y b hy⟩
  have hcn : ∀ {Ho : Hp} {S' : Store} {L' : List Addr}, True := trivial
  have srI := sr_unc sr I.hok CT
  have hrun := (hbody X.A X.stack s (unc cl H) E' (hr.deeper _) _ tk).run [] _ _ _ Q' J ⟨lamStart li args caps, S, L, er_start rfl (ra.agrD (agr_unc CT) hda) (rc.agrD (agr_unc CT) hdc), srI, by
    cases hq : fb (lamStart li args caps) S with
    | bad => rw [hq] at p; exact p
    | exc c S' =>
      rw [hq] at p
      intro dx H' L' s' e' hn
      exact (show Post X.K LT T L H E (.exc c S') Q from p) dx (rtr cl H H') L' (sr_rtr s' hn) (ext_rtr s' hn e')
    | ok d S' =>
      rw [hq] at p
      have p' : Post X.K LT T L H E (if isD d = true then .ok d S' else .bad) Q := p
      intro v H' L' r' s' e' hn
      by_cases hd : isD d = true
      · rw [if_pos hd] at p'
        exact p' v (rtr cl H H') L' (r'.agrD (agr_rtr hn) hd) (sr_rtr s' hn) (ext_rtr s' hn e')
      · rw [if_neg hd] at p'
        exact (show False from p').elim⟩
  refine PySem.W.kla_codeExpr (wpAny_mono hrun (fun u s' hq => ?_) fun e s' hq => ?_)
  · obtain ⟨v, H', J', rv, q⟩ := hq
    have hn : ∀ b, InC cl b → H' b = none := fun b ⟨y, hy⟩ => J'.freeC y b hy
    have un : Un (frs X.stack) [] (unc cl H) H' s.heap s'.heap := J'.base
    have cg : ∀ b, InC cl b → ∃ oc, H b = some (FixO b oc) ∧ s'.heap.get? b = some oc := fun b z => by
      obtain ⟨oc, u, q1, q2⟩ := CT b z
      exact ⟨oc, q1, un.keep b oc (cell_get I.hok q1) (unc_in z) (nfs b z) (by simp)⟩
    refine ⟨v, rtr cl H H', J'.os, J'.bare, ⟨fun b o e n h1 h2 => ?_, fun b o e n h1 h2 => ?_, fun b o e n h2 => ?_, fun b o e h2 => un.there b o e h2, fun b xs e => ?_, fun b o u e => ?_, fun b ps e => ?_⟩, hok_rtr J'.hok hn cg, rv, q hn⟩
    · have nb : ¬ InC cl b := fun z => by obtain ⟨oc, u, q1, _⟩ := CT b z; rw [n] at q1; cases q1
      exact un.keep b o e (by rw [unc_out nb]; exact n) h1 h2
    · have nb : ¬ InC cl b := fun z => by obtain ⟨oc, u, q1, _⟩ := CT b z; rw [n] at q1; cases q1
      exact un.slot b o e (by rw [unc_out nb]; exact n) h1 h2
    · have nb : ¬ InC cl b := fun z => by obtain ⟨oc, u, q1, _⟩ := CT b z; rw [n] at q1; cases q1
      rw [rtr_out nb]
      exact un.free b o e (by rw [unc_out nb]; exact n) h2
    · have nb : ¬ InC cl b := fun z => by obtain ⟨oc, u, q1, _⟩ := CT b z; rw [e] at q1; unfold FixO at q1; cases q1
      rw [rtr_out nb]
      exact un.tups b xs (by rw [unc_out nb]; exact e)
    · have nb : ¬ InC cl b := fun z => by obtain ⟨oc, u, q1, _⟩ := CT b z; rw [e] at q1; unfold FixO at q1; cases q1
      rw [rtr_out nb]
      exact un.frzs b o u (by rw [unc_out nb]; exact e)
    · have nb : ¬ InC cl b := fun z => by obtain ⟨oc, u, q1, _⟩ := CT b z; rw [e] at q1; unfold FixO at q1; cases q1
      rw [rtr_out nb]
      exact un.tbls b ps (by rw [unc_out nb]; exact e)
  · refine wpAny_mono hq (fun _ s'' hx => ?_) fun _ s'' hx => ?_
    all_goals
      obtain ⟨a, B, H', cls, d, e1, fl, hok', ub, na, os, ag, hE⟩ := hx
      have hn : ∀ b, InC cl b → H' b = none := fun b z => by
        obtain ⟨oc, u, q1, _⟩ := CT b z
        exact ub.free b oc (cell_get I.hok q1) (unc_in z)
      have cg : ∀ b, InC cl b → ∃ oc, H b = some (FixO b oc) ∧ B.get? b = some oc := fun b z => by
        obtain ⟨oc, u, q1, q2⟩ := CT b z
        exact ⟨oc, q1, ub.keep b oc (cell_get I.hok q1) (unc_in z) (nfs b z)⟩
      refine ⟨a, B, rtr cl H H', cls, d, e1, fl, hok_rtr hok' hn cg, ⟨fun b o e n h1 => ?_, fun b o e h1 => ub.slot b o e h1, fun b o e n => ?_, fun b o e h1 => ub.there b o e h1, fun b xs e => ?_, fun b o u e => ?_, fun b ps e => ?_⟩, ?_, os, ag, hE⟩
      · have nb : ¬ InC cl b := fun z => by obtain ⟨oc, u, q1, _⟩ := CT b z; rw [n] at q1; cases q1
        exact ub.keep b o e (by rw [unc_out nb]; exact n) h1
      · have nb : ¬ InC cl b := fun z => by obtain ⟨oc, u, q1, _⟩ := CT b z; rw [n] at q1; cases q1
        rw [rtr_out nb]
        exact ub.free b o e (by rw [unc_out nb]; exact n)
      · have nb : ¬ InC cl b := fun z => by obtain ⟨oc, u, q1, _⟩ := CT b z; rw [e] at q1; unfold FixO at q1; cases q1
        rw [rtr_out nb]
        exact ub.tups b xs (by rw [unc_out nb]; exact e)
      · have nb : ¬ InC cl b := fun z => by obtain ⟨oc, u, q1, _⟩ := CT b z; rw [e] at q1; unfold FixO at q1; cases q1
        rw [rtr_out nb]
        exact ub.frzs b o u (by rw [unc_out nb]; exact e)
      · have nb : ¬ InC cl b := fun z => by obtain ⟨oc, u, q1, _⟩ := CT b z; rw [e] at q1; unfold FixO at q1; cases q1
        rw [rtr_out nb]
        exact ub.tbls b ps (by rw [unc_out nb]; exact e)
      · have nb : ¬ InC cl a := fun z => by
          obtain ⟨oc, _, q1⟩ := cg a z
          rw [fl.2.1] at q1
          cases q1
        rw [rtr_out nb]
        exact na
end
end Pf
end

section
set_option Elab.async false
set_option linter.all false
set_option maxRecDepth 100000
set_option maxHeartbeats 1000000
/-! P10: calls: of defs, of closures, of defs with a lambda. -/
namespace Pf
open PySem PySem.Spec PyProof.Rows L2
/-- what a def promises -/
def spOf (K : PySem.W.Frag) (LT : XAt) (T : List (Addr × Str)) (np : Nat) (g : List D → Store → R D) : Sp := fun vs H Q E => vs.length = np ∧ ∃ ds S L, RepVs K LT L H ds vs ∧ SR K LT T L S H ∧ Post K LT T L H E (g ds S) Q
/-- a def at level k -/
structure DefOk (LT : XAt) (T : List (Addr × Str)) (X : Cx) (k : Nat) (x : Str) (np : Nat) (g : List D → Store → R D) : Prop where
  ex : ∃ (f : Addr) (fd : FuncData) (ps : List Str), ps.length = np ∧ FnG X.prog X.w X.K X.mg X.base (L2.CX X.prog X.w) k f fd ps (spOf X.K LT T np g) ∧ X.mg x = some (.ref f) ∧ PySem.W.keepIn X.K (.ref f) = true ∧ L2.Binds X.K fd ps []
  nd : (x == ("__debug__" : Str)) = false
  bad : ∀ ds S, ds.length ≠ np → g ds S = .bad
/-- the closures at level k -/
def LamsOk (LT : XAt) (T : List (Addr × Str)) (X : Cx) (C : Calls) (k : Nat) : Prop := ∀ li caps args S, C.l li caps args S = .bad ∨
  ∃ k', k = k' + 1 ∧ LamOk li ∧ isDs caps = true ∧ isDs args = true ∧ args.length = li.ps.length ∧ ∃ fb, C.l li caps args S = okR (fb (lamStart li args caps) S) ∧
    ∀ (f : Addr) (cl : List (Str × Addr)) (c' : Addr) (A : Around) (outer : List PySem.Env) (s : Shared) (H : Hp) (E : XK), RoomG k' (A.deeper (NdefX.envF (nfL li cl c') f s.heap.objs.size)) → SE LT T (ncxL X.prog X.w X.K X.mg X.base li f cl c' A outer s H E) li.body fb
section
variable {LT : XAt} {T : List (Addr × Str)} {X : Cx} {e : Expr} {es : List Expr} {fs : Ar} {pos p p1 p2 : Pos} {C : Calls} {k i np : Nat} {x : Str} {L : List Addr} {H : Hp} {S : Store} {pins : List (Addr × Obj)} {σ : L2.St} {s : Shared}
/-- the callee runs -/
theorem run_def {W : WX} (tk : Takes X W) (F : DefOk LT T X k x np (C.f i)) (hr : RoomG k X.A) {f : Addr} {fd : FuncData} {ps : List Str} (F1 : FnG X.prog X.w X.K X.mg X.base (L2.CX X.prog X.w) k f fd ps (spOf X.K LT T np (C.f i))) (hb : L2.Binds X.K fd ps []) {vs : List V} {us : List Value} {ds : List D} {Q : VK}
    (I : Inv X pins σ H s) (r : Vals vs us) (r1 : RepVs X.K LT L H ds vs) (sr : SR X.K LT T L S H) (p : Post X.K LT T L H (at_ W σ) (C.f i ds S) Q) : wpAny (model X.prog X.w) X.A (call (.ref f) us) (EP X pins σ Q) X.xe s := by
  by_cases hv : ds.length = np
  · exact runG (E := fun σ => at_ W σ) F1 hr hb (passAt tk σ) I r ⟨by rw [← r1.length]; exact hv, ds, S, L, r1, sr, p⟩
  · rw [F.bad ds S hv] at p
    exact p.elim
/-- f(..), f a def -/
theorem se_call (F : DefOk LT T X k x np (C.f i)) (hr : RoomG k X.A) (hg : Gl X x) (h1 : notStar e = true) (h2 : es.all notStar = true) (ha : SAr LT T X (e :: es) fs) : SE LT T X (.Call (.Name x p) (e :: es) [] pos) (cCall C i fs) := fun W tk => by
  obtain ⟨f, fd, ps, hl, F1, hm, hk, hb⟩ := F.ex
  refine ⟨fun pins s σ H Q I h => ?_⟩
  obtain ⟨ρ, S, L, er, sr, p⟩ := h
  refine wpAny_Call_Name_kw (ld_glob I hg hm ?_ F.nd)
  refine PySem.W.callWith_K (h₀ := X.base) I.ok.mod.kin hk (thn ((ha W tk).run pos pins s σ H _ I (bindA tgP er sr p)) fun us s1 ⟨vs, H1, I1, r, ds, S1, L1, r1, s1', e1, p1, x1⟩ => ⟨I1.kIn, ?_⟩) (star_cons h1) (star_any h2)
  exact run_def tk F hr F1 hb I1 r r1 s1' p1
theorem se_call0 (F : DefOk LT T X k x np (C.f i)) (hr : RoomG k X.A) (hg : Gl X x) : SE LT T X (.Call (.Name x p) [] [] pos) (cCall C i aNil) := fun W tk => by
  obtain ⟨f, fd, ps, hl, F1, hm, hk, hb⟩ := F.ex
  refine ⟨fun pins s σ H Q I h => ?_⟩
  obtain ⟨ρ, S, L, er, sr, p⟩ := h
  refine wpAny_Call_Name_kw (ld_glob I hg hm ?_ F.nd)
  exact PySem.W.callWith_K0 I.kIn hk (run_def tk F hr F1 hb (us := []) I .nil .nil sr p)
/-- a(..), a a slot that holds a closure -/
theorem clo_run {W : WX} (tk : Takes X W) (hL : LamsOk LT T X C k) (hr : RoomG k X.A) {li : LamI} {f c' : Addr} {cl : List (Str × Addr)} {pm ctv : Value} {vs cvs : List V} {args caps : List D} {us : List Value} {Q : VK} (I : Inv X pins σ H s)
    (hf : H f = some (FixO f (PySem.W.kla_obj "<lambda>" li.qual li.params li.body li.scope cl pm c' ctv))) (hc : H c' = some (LamX.CodeO c' li.qual)) (Cc : CellsOk H cl li.fr cvs) (rc : RepVs X.K LT L H caps cvs)
    (ra : RepVs X.K LT L H args vs) (hv : Vals vs us) (sr : SR X.K LT T L S H) (p : Post X.K LT T L H (at_ W σ) (C.l li caps args S) Q) : wpAny (model X.prog X.w) X.A (call (.ref f) us) (EP X pins σ Q) X.xe s := by
  rcases hL li caps args S with h | ⟨k', rfl, ok, hdc, hda, hl, fb, hfb, hbody⟩
  · rw [h] at p; exact p.elim
  · rw [hfb] at p
    refine wpAny_call (codeAny_mono (clo_call (E := at_ W σ) I ok hf hc Cc rc hdc ra hda hv sr hr hl (fun A outer s H E hr' => hbody f cl c' A outer s H E hr') p) fun r s' hq => ?_)
    cases r with
    | error e => exact passAt tk σ pins H s e s' I hq
    | ok fl =>
      cases fl with
      | ret u => exact I.after hq
      | next => exact False.elim hq
      | brk => exact False.elim hq
      | cont => exact False.elim hq
theorem se_clo (hL : LamsOk LT T X C k) (hr : RoomG k X.A) (hN : X.N[i]? = some x) (hv : Vis X.env.scope x) (hd : (x == ("__debug__" : Str)) = false) (hcd : (x == ("__classdict__" : Str)) = false) (h1 : notStar e = true) (h2 : es.all notStar = true) (ha : SAr LT T X (e :: es) fs) :
    SE LT T X (.Call (.Name x p1) (e :: es) [] pos) (cCallV C i fs) := fun W tk => by
  refine ⟨fun pins s σ H Q I h => ?_⟩
  obtain ⟨ρ, S, L, er, sr, p⟩ := h
  unfold cCallV at p
  split at p
  · rename_i li caps hs
    obtain ⟨v, h1', h2'⟩ := er.at_ i _ hs
    cases h2' with
    | @clo _ f c' cl cvs _ pm ctv hf hc Cc rc =>
      refine wpAny_Call_Name_kw (thn ((pe_var (pos := p1) (i := i) hN hv hd hcd).run pins s σ H (fun v H1 => v = .ref f ∧ H1 = H) I ⟨.ref f, h1', rfl, rfl⟩) fun u s1 ⟨v, H1, I1, r1, q1⟩ => ?_)
      obtain ⟨ev, eH⟩ := q1
      subst ev eH
      obtain rfl : u = Value.ref f := r1
      refine PySem.W.callWith_F ⟨_, _, _, _, cell_get I1.hok hf⟩ (thn ((ha W tk).run pos pins s1 σ _ _ I1 (bindA tgP er sr p)) fun us s2 ⟨vs, H2, I2, r, ds, S1, L1, r1, s1', e1, p1, x1⟩ => ?_) (star_cons h1) (star_any h2)
      have hf2 := sr.keep x1 hf (by unfold FixO; rfl) fix_ne_tbl
      have hc2 := sr.keep x1 hc (by unfold LamX.CodeO; rfl) LamX.codeO_ne
      exact ⟨⟨_, _, _, _, cell_get I2.hok hf2⟩, clo_run tk hL hr I2 hf2 hc2 (Cc.ext sr x1) (rc.ext sr x1) r1 r s1' p1⟩
  · exact p.elim
theorem se_clo0 (hL : LamsOk LT T X C k) (hr : RoomG k X.A) (hN : X.N[i]? = some x) (hv : Vis X.env.scope x) (hd : (x == ("__debug__" : Str)) = false) (hcd : (x == ("__classdict__" : Str)) = false) :
    SE LT T X (.Call (.Name x p1) [] [] pos) (cCallV C i aNil) := fun W tk => by
  refine ⟨fun pins s σ H Q I h => ?_⟩
  obtain ⟨ρ, S, L, er, sr, p⟩ := h
  unfold cCallV at p
  split at p
  · rename_i li caps hs
    obtain ⟨v, h1', h2'⟩ := er.at_ i _ hs
    cases h2' with
    | @clo _ f c' cl cvs _ pm ctv hf hc Cc rc =>
      refine wpAny_Call_Name_kw (thn ((pe_var (pos := p1) (i := i) hN hv hd hcd).run pins s σ H (fun v H1 => v = .ref f ∧ H1 = H) I ⟨.ref f, h1', rfl, rfl⟩) fun u s1 ⟨v, H1, I1, r1, q1⟩ => ?_)
      obtain ⟨ev, eH⟩ := q1
      subst ev eH
      obtain rfl : u = Value.ref f := r1
      exact PySem.W.callWith_F0 ⟨_, _, _, _, cell_get I1.hok hf⟩ (clo_run tk hL hr I1 hf hc Cc rc (vs := []) (us := []) .nil .nil sr p)
  · exact p.elim
end
/-! ### a lambda made and handed to a def -/
/-- where the maker's lambdas are noted -/
def LamMk (T : List (Addr × Str)) (X : Cx) : Prop := ∃ c P, LamX.TabB X.base X.mg c P ∧ X.env.code = .ref c ∧ (P, X.env.qual ++ "<lambda>") ∈ T ∧ ∀ p ∈ T, p.1 = P → p.2 = X.env.qual ++ "<lambda>"
section
variable {X : Cx} {pins : List (Addr × Obj)} {σ : L2.St} {H : Hp} {s : Shared} {T : List (Addr × Str)}
/-- the lambda is made: a new object -/
theorem lam_new {params : Arguments} {body : Expr} {scope : Scope} {pos : Pos} {E : Value → Shared → Prop} {Q : Value → Shared → Prop} (I : Inv X pins σ H s) (M : LamMk T X)
    (hT : LamX.Tabs T H) (hdef : defaultsOf params X.env = ([], [])) (hfree : ∀ y ∈ scope.names, y.2 = .free → ∃ c, X.env.cells.lookup y.1 = some c)
    (h : ∀ (f c' : Addr) (pm ctv : Value) (H1 : Hp) (s' : Shared), Inv X pins σ H1 s' → LamX.ExtN H H1 → LamX.Tabs T H1 → s.heap.objs.size ≤ f →
      s'.heap.get? f = some (PySem.W.kla_obj "<lambda>" (X.env.qual ++ "<lambda>") params body scope (cloFrom X.env.cells scope.names []) pm c' ctv) → H1 f = none → H1 c' = some (LamX.CodeO c' (X.env.qual ++ "<lambda>")) → Q (.ref f) s') :
    wpAny (model X.prog X.w) X.A (eval (.Lambda params body scope pos) X.env) Q E s := by
  obtain ⟨c, P, TB, hcode, hm, hu⟩ := M
  obtain ⟨ps, hP, ht, ha⟩ := hT _ hm
  refine PySem.W.kla_eval hdef ?_
  have bP : s.heap.BuiltinsAt X.mg P := TB.bm.keeps I.bk
  have hP' : s.heap.get? P = some { cls := .none, data := .fields ps } := I.hok P _ hP
  cases hc : codeAmong pos ps.toList with
  | none =>
    refine PySem.W.kla_makeFunction (mg := X.mg) (c := c) (P := P) (ps := ps) (closure_ok hfree) I.ok.glob (I.mod.glob.keeps I.bk) hcode (TB.code.keeps I.bk) hP' ht hc TB.gP bP fun c' ctv h' tk hx hge hlt hrec htb => ?_
    obtain ⟨c2, oc, vs, t, e2, hoc, hd, hv⟩ := hrec
    cases e2
    have hsz : s.heap.objs.size ≤ h'.objs.size := Nat.le_trans hge (Nat.le_of_lt hlt)
    have nC : H c' = none := I.hok.fresh hge
    have I1 := LamX.inv_table (t' := tk) (more := #[rawInt pos.line, rawInt pos.col, .ref c']) (h' := h'.push (PySem.W.kla_obj "<lambda>" (X.env.qual ++ "<lambda>") params body scope (cloFrom X.env.cells scope.names []) ((X.mg "__name__").getD .none) c' ctv)) I hP
      (fun b o hb e => Heap.get?_push_of_some _ (hx b o hb e)) (Heap.get?_push_of_some _ htb) hge ⟨oc, vs, t, Heap.get?_push_of_some _ hoc, hd, hv⟩
    have hE : LamX.ExtN H (upd (upd H P (.tbl (ps ++ #[rawInt pos.line, rawInt pos.col, .ref c']))) c' (LamX.CodeO c' (X.env.qual ++ "<lambda>"))) := fun b o e n => by
      rw [upd_ne (ne_of_none e nC), upd_ne (fun z => n ps (Option.some.inj (e.symm.trans (by rw [z]; exact hP))))]
      exact e
    have eL : (ps ++ #[rawInt pos.line, rawInt pos.col, .ref c']).toList = ps.toList ++ [rawInt pos.line, rawInt pos.col, .ref c'] := by simp
    refine h h'.objs.size c' ((X.mg "__name__").getD .none) ctv _ _ I1 hE (fun p hp => ?_) hsz (Heap.get?_push_size _ rfl) ?_ upd_same
    · by_cases hb : p.1 = P
      · rw [hu p hp hb, hb]
        refine ⟨_, by rw [upd_ne (ne_of_none hP nC), upd_same], by rw [eL]; exact PySem.TriplesOk_snoc _ _ _ _ ht, fun p' cv hcv => ?_⟩
        rw [eL] at hcv
        rcases LamX.among_app _ ht hcv with z | z
        · obtain ⟨c0, e1, e2⟩ := ha p' cv z
          exact ⟨c0, e1, hE _ _ e2 LamX.codeO_ne⟩
        · exact ⟨c', z, upd_same⟩
      · obtain ⟨ps', a1, a2, a3⟩ := hT p hp
        refine ⟨ps', by rw [upd_ne (ne_of_none a1 nC), upd_ne hb]; exact a1, a2, fun p' cv hcv => ?_⟩
        obtain ⟨c0, e1, e2⟩ := a3 p' cv hcv
        exact ⟨c0, e1, hE _ _ e2 LamX.codeO_ne⟩
    · have n1 : h'.objs.size ≠ c' := Nat.ne_of_gt hlt
      have n2 : h'.objs.size ≠ P := Nat.ne_of_gt (Nat.lt_of_lt_of_le (Heap.lt_size hP') hsz)
      rw [upd_ne n1, upd_ne n2]
      exact I.hok.fresh hsz
  | some cv =>
    obtain ⟨c', e, hco⟩ := ha pos cv hc
    subst e
    refine PySem.W.kla_makeFunctionHit (mg := X.mg) (c := c) (P := P) (ps := ps) (closure_ok hfree) I.ok.glob (I.mod.glob.keeps I.bk) hcode (TB.code.keeps I.bk) hP' ht hc bP fun ctv h' tk hx hsz => ?_
    have I1 : Inv X pins σ H { s with heap := h'.push (PySem.W.kla_obj "<lambda>" (X.env.qual ++ "<lambda>") params body scope (cloFrom X.env.cells scope.names []) ((X.mg "__name__").getD .none) c' ctv), toks := tk } := I.kept fun b o e => Heap.get?_push_of_some _ (hx b o e)
    exact h h'.objs.size c' ((X.mg "__name__").getD .none) ctv H _ I1 (fun _ _ e _ => e) hT hsz (Heap.get?_push_size _ rfl) (I.hok.fresh hsz) hco
end
open Classical in
/-- the lambda and its cells are told of -/
noncomputable def trkL (cl : List (Str × Addr)) (f : Addr) (o : Obj) (h : Heap) (H : Hp) : Hp := fun b => if b = f then some (FixO f o) else if InC cl b then (h.get? b).map (FixO b) else H b
open Classical in
noncomputable def untL (cl : List (Str × Addr)) (f : Addr) (H : Hp) : Hp := fun b => if b = f ∨ InC cl b then none else H b
/-- a lambda's names lie so to the maker's -/
structure LamFit (X : Cx) (li : LamI) (js : List Nat) : Prop where
  fn : ∀ x, X.fn x = true
  qual : li.qual = X.env.qual ++ "<lambda>"
  free : ∀ y ∈ li.scope.names, y.2 = .free → y.1 ∈ li.fr ∧ X.env.scope.names.lookup y.1 = some .cell
  fr : ∀ y ∈ li.fr, (y, NameKind.free) ∈ li.scope.names
  js : js.map (fun j => X.N[j]?) = li.fr.map some
  dfl : defaultsOf li.params X.env = ([], [])
/-- what is let out of a call with a lambda is not served -/
def noX : R D → R D
  | .ok d S => if isD d = true then .ok d S else .bad
  | _ => .bad
def cCallL (C : Calls) (i : Nat) (as : Ar) (li : LamI) (js : List Nat) : Ex := fun ρ S => (as ρ S).bind fun xs S1 => match capsOf ρ js with
  | some caps => if isDs caps = true then noX (C.f i (xs ++ [.clo li caps]) S1) else .bad
  | none => .bad
section
variable {LT : XAt} {T : List (Addr × Str)} {X : Cx} {L : List Addr} {H : Hp} {S : Store} {pins : List (Addr × Obj)} {σ : L2.St} {s : Shared} {ρ : Env}
theorem caps_get {K : PySem.W.Frag} (er : ER K LT L H ρ σ) : ∀ {js : List Nat} {caps : List D}, capsOf ρ js = some caps → ∃ vs, RepVs K LT L H caps vs ∧ js.map (fun j => (σ[j]?).getD none) = vs.map some
  | [], caps, h => by cases h; exact ⟨[], .nil, rfl⟩
  | j :: js, caps, h => by
    unfold capsOf at h
    split at h
    · rename_i d hd
      cases hq : capsOf ρ js with
      | none => rw [hq] at h; cases h
      | some cs =>
        rw [hq] at h
        cases h
        obtain ⟨vs, r, e⟩ := caps_get er hq
        obtain ⟨v, h1, h2⟩ := er.at_ j d hd
        exact ⟨v :: vs, .cons h2 r, by rw [List.map_cons, List.map_cons, e, h1]; rfl⟩
    · cases h
/-- a def called with arguments, the last of them a lambda just made -/
theorem lam_pass {W : WX} {k i np : Nat} {x : Str} {C : Calls} (tk : Takes X W) (F : DefOk LT T X k x np (C.f i)) (hr : RoomG k X.A) {g : Addr} {fd : FuncData} {ps : List Str} (F1 : FnG X.prog X.w X.K X.mg X.base (L2.CX X.prog X.w) k g fd ps (spOf X.K LT T np (C.f i))) (hb : L2.Binds X.K fd ps [])
    {li : LamI} {js : List Nat} {f c' : Addr} {pm ctv : Value} {vs : List V} {us : List Value} {ds caps : List D} {Q : VK} {s0 : Shared} (Lf : LamFit X li js) (I0 : Inv X pins σ H s0) {H1 : Hp} (I1 : Inv X pins σ H1 s) (eN : LamX.ExtN H H1) (T1 : LamX.Tabs T H1) (hfs : s0.heap.objs.size ≤ f)
    (hf : s.heap.get? f = some (PySem.W.kla_obj "<lambda>" li.qual li.params li.body li.scope (cloFrom X.env.cells li.scope.names []) pm c' ctv)) (hfn : H1 f = none) (hc : H1 c' = some (LamX.CodeO c' li.qual))
    (r : Vals vs us) (ra : RepVs X.K LT L H ds vs) (er : ER X.K LT L H ρ σ) (sr : SR X.K LT T L S H) (hcap : capsOf ρ js = some caps) (hdc : isDs caps = true) (p : Post X.K LT T L H (at_ W σ) (noX (C.f i (ds ++ [.clo li caps]) S)) Q) :
    wpAny (model X.prog X.w) X.A (call (.ref g) (us ++ [.ref f])) (EP X pins σ Q) X.xe s := by
  have hfree : ∀ y ∈ li.scope.names, y.2 = .free → ∃ c, X.env.cells.lookup y.1 = some c := fun y hy e => I1.ok.has _ (.inl (Lf.free y hy e).2)
  generalize hcl : cloFrom X.env.cells li.scope.names [] = cl at hf
  have cm : ∀ {y c}, cl.lookup y = some c → X.env.cells.lookup y = some c ∧ y ∈ li.fr := fun {y c} e => by
    subst hcl
    refine ⟨NdefX.clo_cm hfree e, ?_⟩
    rcases cloFrom_mem (PySem.mem_of_lookup e) with hm | ⟨h1, h2⟩
    · cases hm
    · exact (Lf.free _ h1 rfl).1
  have cmI : ∀ {b}, InC cl b → ∃ y, X.env.cells.lookup y = some b := fun {b} ⟨y, e⟩ => ⟨y, (cm e).1⟩
  have cN : ∀ {b}, InC cl b → H1 b = none := fun {b} z => by obtain ⟨y, e⟩ := cmI z; exact I1.freeC y b e
  have cS : ∀ {b}, InC cl b → X.s_0.heap.objs.size ≤ b := fun {b} z => by obtain ⟨y, e⟩ := cmI z; exact I1.ok.cab y b (Lf.fn y) e
  have cG : ∀ {b}, InC cl b → ∃ v, s.heap.IsCell b v := fun {b} z => by obtain ⟨y, e⟩ := cmI z; exact I1.cell y b e
  have fS : X.s_0.heap.objs.size ≤ f := Nat.le_trans I0.sz hfs
  have fC : ¬ InC cl f := fun z => by
    obtain ⟨v, o, ho, hd⟩ := cG z
    rw [hf] at ho
    cases ho
    cases hd
  have nfr : ∀ b, (b = f ∨ InC cl b) → b ∉ frs X.stack := fun b hb z => by
    rcases List.mem_cons.mp (I1.stkSub b z) with e | e
    · rcases hb with q | q
      · have h1 := I0.lt
        rw [← e, q] at h1
        exact Nat.lt_irrefl _ (Nat.lt_of_lt_of_le h1 hfs)
      · obtain ⟨y, ey⟩ := cmI q
        exact I1.cne y b ey e
    · obtain ⟨_, o, ho, _⟩ := I1.ok.funs.mem e
      have h1 := Heap.lt_size ho
      rcases hb with q | q
      · rw [q] at h1; exact Nat.lt_irrefl _ (Nat.lt_of_lt_of_le h1 fS)
      · exact Nat.lt_irrefl _ (Nat.lt_of_lt_of_le h1 (cS q))
  -- the grown heap
  generalize hHt : trkL cl f (PySem.W.kla_obj "<lambda>" li.qual li.params li.body li.scope cl pm c' ctv) s.heap H1 = Ht
  have tF : Ht f = some (FixO f (PySem.W.kla_obj "<lambda>" li.qual li.params li.body li.scope cl pm c' ctv)) := by rw [← hHt]; unfold trkL; rw [if_pos rfl]
  have tC : ∀ {b}, InC cl b → ∃ oc v, s.heap.get? b = some oc ∧ oc.data = .cell v ∧ Ht b = some (FixO b oc) := fun {b} z => by
    obtain ⟨v, oc, ho, hd⟩ := cG z
    refine ⟨oc, v, ho, hd, ?_⟩
    rw [← hHt]
    unfold trkL
    rw [if_neg (fun e => fC (by rw [← e]; exact z)), if_pos z, ho]
    rfl
  have tO : ∀ {b}, b ≠ f → ¬ InC cl b → Ht b = H1 b := fun {b} h1 h2 => by rw [← hHt]; unfold trkL; rw [if_neg h1, if_neg h2]
  have tE : ∀ b o, H1 b = some o → Ht b = some o := fun b o e => by
    rw [tO (fun z => by rw [z, hfn] at e; cases e) (fun z => by rw [cN z] at e; cases e)]; exact e
  have hokT : HOk X.prog X.w Ht s.heap := fun a o e => by
    by_cases h1 : a = f
    · rw [h1, tF] at e; cases e; rw [h1]; exact fix_ok hf _
    · by_cases h2 : InC cl a
      · obtain ⟨oc, v, ho, _, q⟩ := tC h2
        rw [q] at e; cases e; exact fix_ok ho _
      · rw [tO h1 h2] at e
        exact (I1.hok a o e).stay (fun _ _ _ q => q) (fun b q => tE b _ q) fun b xs q => tE b _ q
  have e0 := I1.env0
  have e1 : Env0 X.prog X.w X.K X.mg X.base X.A X.stack s Ht := ⟨e0.frames, e0.mod, fun b o e => ⟨(e0.bs b o e).1, by
      have hb : b < X.s_0.heap.objs.size := Nat.lt_of_lt_of_le (Heap.lt_size e) I1.ok.bsz
      rw [tO (fun z => by rw [z] at hb; exact Nat.lt_irrefl _ (Nat.lt_of_lt_of_le hb fS)) (fun z => Nat.lt_irrefl _ (Nat.lt_of_lt_of_le hb (cS z)))]
      exact (e0.bs b o e).2⟩, e0.bsz, e0.funs, fun b hb => by
      rw [tO (fun z => nfr b (.inl z) hb) (fun z => nfr b (.inr z) hb)]; exact e0.frf b hb, hokT, e0.bare⟩
  -- data
  have xE : Ext L H L Ht := ⟨⟨[], by simp, fun a h => by cases h⟩, fun b o h _ nt => tE b o (eN b o h nt)⟩
  have srT : SR X.K LT T L S Ht := ⟨sr.len, fun n mo a h1 h2 => RepO.ext sr xE (sr.objs n mo a h1 h2) fun u hu => by
      obtain ⟨u', q1, q2⟩ := (sr.objs n mo a h1 h2).mut
      rw [hu] at q1
      cases q1
      exact tE a u (eN a u hu fun ps z => by rw [z] at q2; cases q2), sr.sep, T1.ext fun b o e => tE b o e⟩
  obtain ⟨cvs, rcv, ejs⟩ := caps_get er hcap
  have rcT : RepVs X.K LT L Ht caps cvs := rcv.ext sr xE
  have ljs : js.length = cvs.length := by have := congrArg List.length ejs; simpa using this
  have lfr : js.length = li.fr.length := by have := congrArg List.length Lf.js; simpa using this
  have CO : CellsOk Ht cl li.fr cvs := ⟨by rw [← ljs]; exact lfr, fun x y c h1 h2 => I1.ok.inj x y c (cm h1).1 (cm h2).1, fun y c e => (cm e).2, fun n y v h1 h2 => by
    have hy := Lf.fr y (List.mem_of_getElem? h1)
    have hyc := (Lf.free _ hy rfl).2
    have hn : n < js.length := by rw [lfr]; exact (List.getElem?_eq_some_iff.mp h1).1
    have hj : X.N[js[n]]? = some y := by
      have q : (js.map fun j => X.N[j]?)[n]? = some (some y) := by rw [Lf.js, List.getElem?_map, h1]; rfl
      rw [List.getElem?_map, List.getElem?_eq_getElem hn] at q
      exact Option.some.inj q
    have hs : σ[js[n]]? = some (some v) := by
      have q : (js.map fun j => (σ[j]?).getD none)[n]? = some (some v) := by rw [ejs, List.getElem?_map, h2]; rfl
      rw [List.getElem?_map, List.getElem?_eq_getElem hn] at q
      have q : (σ[js[n]]?).getD none = some v := Option.some.inj q
      cases hh : σ[js[n]]? with
      | none => rw [hh] at q; cases q
      | some z => rw [hh] at q; exact congrArg some q
    obtain ⟨m, hn', hl⟩ := I1.loc
    obtain ⟨u, ru, lk⟩ := hl _ y v hj hs (.inr (.inl hyc))
    rcases lk with ⟨k1, _⟩ | ⟨_, c, hcc, oc, ho, hd⟩
    · have k1 : X.env.scope.names.lookup y = some .local := k1
      rw [hyc] at k1; cases k1
    · have hclc : cl.lookup y = some c := by rw [← hcl]; exact NdefX.clo_has hfree hy hcc
      obtain ⟨oc', v', ho', hd', ht⟩ := tC ⟨y, hclc⟩
      rw [ho] at ho'
      cases ho'
      exact ⟨c, oc, u, hclc, ht, hd, ru⟩⟩
  have rclo : RepV X.K LT L Ht (.clo li caps) (.ref f) := .clo tF (tE _ _ hc) CO rcT
  have hv : (ds ++ [D.clo li caps]).length = np := Classical.byContradiction fun h => by rw [F.bad _ S h] at p; exact p
  have raT : RepVs X.K LT L Ht (ds ++ [.clo li caps]) (vs ++ [.ref f]) := (ra.ext sr xE).app (.cons rclo .nil)
  have rT : Vals (vs ++ [V.ref f]) (us ++ [.ref f]) := r.append (.cons rfl .nil)
  let Q' : VK := fun v H' => (∀ b o, (b = f ∨ InC cl b) → Ht b = some (FixO b o) → H' b = some (FixO b o)) ∧ ((∀ b q, (b = f ∨ InC cl b) → H' b ≠ some (LamX.CodeO b q)) → Q v (untL cl f H'))
  have hsp : spOf X.K LT T np (C.f i) (vs ++ [.ref f]) Ht Q' (fun _ _ _ => False) := by
    refine ⟨by rw [← raT.length]; exact hv, _, S, L, raT, srT, ?_⟩
    cases hq : C.f i (ds ++ [.clo li caps]) S with
    | bad => rw [hq] at p; exact p
    | exc c S' => rw [hq] at p; exact (show False from p).elim
    | ok d S' =>
      rw [hq] at p
      have p' : Post X.K LT T L H (at_ W σ) (if isD d = true then .ok d S' else .bad) Q := p
      intro v H' L' r' s' x'
      have hkeep : ∀ b o, (b = f ∨ InC cl b) → Ht b = some (FixO b o) → H' b = some (FixO b o) := fun b o _ e => x'.keep b _ e (srT.notMut e (by unfold FixO; rfl)) fix_ne_tbl
      refine ⟨hkeep, fun hcode => ?_⟩
      by_cases hd : isD d = true
      · rw [if_pos hd] at p'
        have uN : ∀ b, ¬ (b = f ∨ InC cl b) → untL cl f H' b = H' b := fun b h => by unfold untL; rw [if_neg h]
        have fix : ∀ b, (b = f ∨ InC cl b) → ∃ o, H' b = some (FixO b o) := fun b hb => by
          rcases hb with q | q
          · subst q; exact ⟨_, hkeep _ _ (.inl rfl) tF⟩
          · obtain ⟨oc, v, _, _, ht⟩ := tC q; exact ⟨_, hkeep _ _ (.inr q) ht⟩
        have ag : AgrD H' (untL cl f H') := fun b o e ht => by
          rw [uN b fun z => by obtain ⟨o', q⟩ := fix b z; rw [e] at q; cases q; unfold FixO at ht; cases ht]; exact e
        have cF : H' c' = some (LamX.CodeO c' li.qual) := x'.keep c' _ (tE _ _ hc) (fun z => by
          have z' : c' ∈ L := z
          exact srT.notMut (tE _ _ hc) (by unfold LamX.CodeO; rfl) z') LamX.codeO_ne
        refine p' v _ L' (r'.agrD ag hd) (s'.agrD ag (fun a ha => uN a fun z => by obtain ⟨o', q⟩ := fix a z; exact s'.notMut q (by unfold FixO; rfl) ha) ?_) ?_
        · intro q hq'
          obtain ⟨ps', q1, q2, q3⟩ := s'.tabs q hq'
          obtain ⟨ps1, w1, w2, w3⟩ := T1 q hq'
          refine ⟨ps', by rw [uN _ fun z => by obtain ⟨o', qq⟩ := fix _ z; rw [q1] at qq; exact fix_ne_tbl ps' (Option.some.inj qq).symm]; exact q1, q2, fun pos cv hcv => ?_⟩
          obtain ⟨cc, e1', e2'⟩ := q3 pos cv hcv
          exact ⟨cc, e1', by rw [uN _ fun z => hcode _ _ z e2']; exact e2'⟩
        · refine ⟨x'.pre.elim fun M hM => ⟨M, hM.1, fun a ha o ho na nt => hM.2 a ha o (tE a o (eN a o ho nt)) na nt⟩, fun b o hb nb nt => ?_⟩
          have h1 := eN b o hb nt
          rw [uN b fun z => by
            rcases z with z | z
            · rw [z, hfn] at h1; cases h1
            · rw [cN z] at h1; cases h1]
          exact x'.keep b o (tE b o h1) nb nt
      · rw [if_neg hd] at p'; exact (show False from p').elim
  obtain ⟨hl', hsp'⟩ := hsp
  have hlp : (us ++ [Value.ref f]).length = ps.length := by
    rw [← rT.length]
    exact F1.len _ _ _ _ ⟨hl', hsp'⟩
  have b := hb s (us ++ [.ref f]) I1.kIn (by rw [List.append_nil]; exact hlp)
  rw [List.append_nil] at b
  refine wpAny_call (codeAny_mono (F1.run X.A X.stack s Ht ⟨us ++ [.ref f], []⟩ _ _ Q' (fun _ _ _ => False) hr e1 b rT ⟨hl', hsp'⟩) fun rr s' hq => ?_)
  cases rr with
  | error e =>
    obtain ⟨_, _, _, _, _, _, _, _, _, _, _, _, z⟩ := hq
    exact z.elim
  | ok fl =>
    cases fl with
    | ret u =>
      obtain ⟨v, H2, os, bare, un, hok2, rv, q⟩ := hq
      obtain ⟨kp, q⟩ := q
      have get2 : ∀ b, (b = f ∨ InC cl b) → ∃ o, s.heap.get? b = some o ∧ s'.heap.get? b = some o ∧ H2 b = some (FixO b o) ∧ ∀ vs, o.data ≠ .fields vs := fun b hb => by
        rcases hb with z | z
        · have h2 := kp f _ (.inl rfl) tF
          rw [z]
          exact ⟨_, hf, cell_get hok2 h2, h2, fun vs z => by cases z⟩
        · obtain ⟨oc, v', ho, hd, ht⟩ := tC z
          have h2 := kp b _ (.inr z) ht
          exact ⟨oc, ho, cell_get hok2 h2, h2, fun vs z => by rw [hd] at z; cases z⟩
      have hcode : ∀ b q, (b = f ∨ InC cl b) → H2 b ≠ some (LamX.CodeO b q) := fun b q hb e => by
        obtain ⟨o, _, h2, _, h4⟩ := get2 b hb
        obtain ⟨⟨oc2, vs2, t2, h5, h6, _⟩, _, _⟩ := hok2 b _ e
        rw [h2] at h5
        cases h5
        exact h4 _ h6
      have uN : ∀ b, ¬ (b = f ∨ InC cl b) → untL cl f H2 b = H2 b := fun b h => by unfold untL; rw [if_neg h]
      have uY : ∀ b, (b = f ∨ InC cl b) → untL cl f H2 b = none := fun b h => by unfold untL; rw [if_pos h]
      have nT : ∀ b o, H1 b = some o → ¬ (b = f ∨ InC cl b) := fun b o e z => by
        rcases z with z | z
        · rw [z, hfn] at e; cases e
        · rw [cN z] at e; cases e
      have hok3 : HOk X.prog X.w (untL cl f H2) s'.heap := fun a o e => by
        by_cases ha : a = f ∨ InC cl a
        · rw [uY a ha] at e; cases e
        · rw [uN a ha] at e
          refine (hok2 a o e).stay (fun _ _ _ q => q) (fun b q => ?_) fun b xs q => ?_
          · rw [uN b fun z => by obtain ⟨o', _, _, h3, _⟩ := get2 b z; rw [q] at h3; unfold FixO at h3; cases h3]; exact q
          · rw [uN b fun z => by obtain ⟨o', _, _, h3, _⟩ := get2 b z; rw [q] at h3; unfold FixO at h3; cases h3]; exact q
      have un3 : Un (frs X.stack) [] H1 (untL cl f H2) s.heap s'.heap := by
        refine ⟨fun b o e n h1 h2 => ?_, fun b o e n h1 h2 => ?_, fun b o e n h2 => ?_, fun b o e h2 => un.there b o e h2, fun b xs e => ?_, fun b o u e => ?_, fun b ps e => ?_⟩
        · by_cases hb : b = f ∨ InC cl b
          · obtain ⟨o', g1, g2, _, _⟩ := get2 b hb
            rw [e] at g1
            cases g1
            exact g2
          · exact un.keep b o e (by rw [tO (fun z => hb (.inl z)) (fun z => hb (.inr z))]; exact n) h1 h2
        · have hb : ¬ (b = f ∨ InC cl b) := fun z => nfr b z h1
          exact un.slot b o e (by rw [tO (fun z => hb (.inl z)) (fun z => hb (.inr z))]; exact n) h1 h2
        · by_cases hb : b = f ∨ InC cl b
          · exact uY b hb
          · rw [uN b hb]
            exact un.free b o e (by rw [tO (fun z => hb (.inl z)) (fun z => hb (.inr z))]; exact n) h2
        · rw [uN b (nT b _ e)]; exact un.tups b xs (tE b _ e)
        · rw [uN b (nT b _ e)]; exact un.frzs b o u (tE b _ e)
        · rw [uN b (nT b _ e)]; exact un.tbls b ps (tE b _ e)
      exact ⟨v, _, I1.call' (ch := []) os un3 hok3 bare (fun b z => absurd z (by simp)), rv, q hcode⟩
    | next => exact False.elim hq
    | brk => exact False.elim hq
    | cont => exact False.elim hq
/-- the arguments of a call, the last of them a lambda -/
def SAL (LT : XAt) (T : List (Addr × Str)) (X : Cx) (args : List Expr) (fs : Ar) (li : LamI) : Prop := ∀ W, Takes X W → ∀ (pos : Pos) (pins : List (Addr × Obj)) (s : Shared) (σ : L2.St) (H : Hp) (Q : List V → Hp → Prop), Inv X pins σ H s → tA X.K LT T fs W σ H (fun vs H1 => LamX.Tabs T H1 ∧ Q vs H1) →
  wpAny (model X.prog X.w) X.A (spliced (backTo pos (starEach args X.env))) (fun us s' => ∃ (us0 : List Value) (vs : List V) (f c' : Addr) (pm ctv : Value) (H0 H1 : Hp) (s0 : Shared), us = us0 ++ [.ref f] ∧ Vals vs us0 ∧ Inv X pins σ H0 s0 ∧ Inv X pins σ H1 s' ∧ LamX.ExtN H0 H1 ∧ LamX.Tabs T H1 ∧ s0.heap.objs.size ≤ f ∧
    s'.heap.get? f = some (PySem.W.kla_obj "<lambda>" li.qual li.params li.body li.scope (cloFrom X.env.cells li.scope.names []) pm c' ctv) ∧ H1 f = none ∧ H1 c' = some (LamX.CodeO c' li.qual) ∧ Q vs H0) X.xe s
theorem sal_one {li : LamI} {js : List Nat} {lpos : Pos} (M : LamMk T X) (Lf : LamFit X li js) : SAL LT T X [.Lambda li.params li.body li.scope lpos] aNil li := fun W tk pos pins s σ H Q I h => by
  obtain ⟨ρ, S, L, er, sr, p⟩ := h
  obtain ⟨hT, q⟩ := (show PostA X.K LT T L H (at_ W σ) (.ok [] S) _ from p) [] H L .nil sr (Ext.refl _ _)
  show wpAny _ _ (spliced ((false, eval (.Lambda li.params li.body li.scope lpos) X.env) :: backTo pos (starEach [] X.env))) _ _ s
  refine Calls.spliced_cons (lam_new I M hT Lf.dfl (fun y hy e => I.ok.has _ (.inl (Lf.free y hy e).2)) fun f c' pm ctv H1 s' I1 eN T1 hs hf hfn hc => ?_)
  rw [← Lf.qual] at hf hc
  exact Calls.spliced_nil ⟨[], [], f, c', pm, ctv, H, H1, s, rfl, .nil, I, I1, eN, T1, hs, hf, hfn, hc, q⟩
theorem sal_cons {e : Expr} {es : List Expr} {fa : Ex} {fs : Ar} {li : LamI} (hs : notStar e = true) (ha : SE LT T X e fa) (hr : SAL LT T X es fs li) : SAL LT T X (e :: es) (aCons fa fs) li := fun W tk pos pins s σ H Q I h => by
  obtain ⟨ρ, S, L, er, sr, p⟩ := h
  rw [star_cons hs]
  show wpAny _ _ (spliced ((false, eval e X.env) :: backTo pos (starEach es X.env))) _ _ s
  refine Calls.spliced_cons (thn ((ha W tk).run pins s σ H _ I (bindE tgPA er sr p)) fun u s1 ⟨x, H1, I1, r1, dx, S1, L1, q1, s1', e1, p1, x1⟩ => ?_)
  refine thn (hr W tk pos pins s1 σ H1 (fun vs H2 => Q (x :: vs) H2) I1 ?_) fun us s2 ⟨us0, vs, f, c', pm, ctv, H0, H2, s0, eu, rv, I0, I2, eN, T1, hs', hf, hfn, hc, q⟩ => ?_
  · exact tA_mono (bindA tgPA e1 s1' p1) fun xs H2 ⟨ds, S2, L2, r2, s2, e2, p2, x2⟩ => p2 _ _ _ (.cons (q1.ext s1' x2) r2) s2 (Ext.refl _ _)
  · exact ⟨u :: us0, x :: vs, f, c', pm, ctv, H0, H2, s0, by rw [eu]; rfl, .cons r1 rv, I0, I2, eN, T1, hs', hf, hfn, hc, q⟩
/-- f(.., lambda ..: ..) -/
theorem se_callL {e : Expr} {es : List Expr} {fs : Ar} {li : LamI} {js : List Nat} {C : Calls} {k i np : Nat} {x : Str} {p pos : Pos} (F : DefOk LT T X k x np (C.f i)) (hr : RoomG k X.A) (hg : Gl X x) (Lf : LamFit X li js) (h1 : notStar e = true) (h2 : es.all notStar = true) (ha : SAL LT T X (e :: es) fs li) :
    SE LT T X (.Call (.Name x p) (e :: es) [] pos) (cCallL C i fs li js) := fun W tk => by
  obtain ⟨g, fd, ps, hl, F1, hm, hk, hb⟩ := F.ex
  refine ⟨fun pins s σ H Q I h => ?_⟩
  obtain ⟨ρ, S, L, er, sr, p⟩ := h
  refine wpAny_Call_Name_kw (ld_glob I hg hm ?_ F.nd)
  refine PySem.W.callWith_K (h₀ := X.base) I.ok.mod.kin hk (thn (ha W tk pos pins s σ H (fun vs H1 => ∃ ds S1 L1, RepVs X.K LT L1 H1 ds vs ∧ SR X.K LT T L1 S1 H1 ∧ ER X.K LT L1 H1 ρ σ ∧ Post X.K LT T L1 H1 (at_ W σ) (match capsOf ρ js with
    | some caps => if isDs caps = true then noX (C.f i (ds ++ [.clo li caps]) S1) else .bad
    | none => .bad) Q) I ?_) fun us s1 ⟨us0, vs, f, c', pm, ctv, H0, H1, s0, eu, rv, I0, I1, eN, T1, hs', hf, hfn, hc, ds, S1, L1, r1, s1', e1, p1⟩ => ⟨I1.kIn, ?_⟩) (star_cons h1) (star_any h2)
  · exact tA_mono (bindA tgP er sr p) fun xs H1 ⟨ds, S1, L1, r1, s1, e1, p1, x1⟩ => ⟨s1.tabs, ds, S1, L1, r1, s1, e1, p1⟩
  · rw [eu]
    split at p1
    · rename_i caps hcap
      split at p1
      · rename_i hd
        exact lam_pass tk F hr F1 hb Lf I0 I1 eN T1 hs' hf hfn hc rv r1 e1 s1' hcap hd p1
      · exact p1.elim
    · exact p1.elim
end
end Pf
end

section
set_option Elab.async false
set_option linter.all false
set_option maxRecDepth 100000
set_option maxHeartbeats 1000000
/-! P11: a def by its body; what nobody holds is gone at its end. -/
namespace Pf
open PySem PySem.Spec PyProof.Rows L2
section
variable {K : PySem.W.Frag} {LT : XAt} {T : List (Addr × Str)} {L L' M : List Addr} {H H' : Hp} {S S' : Store}
mutual
theorem RepV.shrink : ∀ {d : D} {v : V}, wfD L.length d = true → RepV K LT (L ++ M) H d v → RepV K LT L H d v
  | _, _, _, .non => .non
  | _, _, _, .bl b => .bl b
  | _, _, _, .int i => .int i
  | _, _, _, .str x => .str x
  | _, _, h, .tup hq hd ho r => .tup hq hd ho (RepVs.shrink (by simpa [wfD] using h) r)
  | _, _, h, .rol hq r => .rol hq (RepVs.shrink (by simpa [wfD] using h) r)
  | _, _, h, .ref e => .ref (by
      rw [List.getElem?_append_left (by simpa [wfD] using h)] at e
      exact e)
  | _, _, h, .clo _ _ _ _ => by simp [wfD] at h
  | _, _, h, .exn _ => by simp [wfD] at h
theorem RepVs.shrink : ∀ {ds : List D} {vs : List V}, wfDs L.length ds = true → RepVs K LT (L ++ M) H ds vs → RepVs K LT L H ds vs
  | _, _, _, .nil => .nil
  | _, _, h, .cons r t => by
    simp only [wfDs, Bool.and_eq_true] at h
    exact .cons (RepV.shrink h.1 r) (RepVs.shrink h.2 t)
end
mutual
theorem RepV.wf : ∀ {d : D} {v : V}, isD d = true → RepV K LT L H d v → wfD L.length d = true
  | _, _, _, .non => rfl
  | _, _, _, .bl b => rfl
  | _, _, _, .int i => rfl
  | _, _, _, .str x => rfl
  | _, _, h, .tup hq hd _ r => by
    unfold wfD
    exact RepVs.wf (by simpa [isD] using h) r
  | _, _, h, .rol hq r => by
    unfold wfD
    exact RepVs.wf (by simpa [isD] using h) r
  | _, _, h, .ref e => by
    unfold wfD
    exact decide_eq_true (List.getElem?_eq_some_iff.mp e).1
  | _, _, h, .clo _ _ _ _ => by simp [isD] at h
  | _, _, h, .exn _ => by simp [isD] at h
theorem RepVs.wf : ∀ {ds : List D} {vs : List V}, isDs ds = true → RepVs K LT L H ds vs → wfDs L.length ds = true
  | _, _, _, .nil => rfl
  | _, _, h, .cons r t => by
    simp only [isDs, Bool.and_eq_true] at h
    simp only [wfDs, Bool.and_eq_true]
    exact ⟨RepV.wf h.1 r, RepVs.wf h.2 t⟩
end
theorem RepO.wf {o : MO} {a : Addr} (r : RepO K LT L H o a) : wfO L.length o = true := by
  cases o with
  | lst ds => obtain ⟨vs, q1, q2, q3⟩ := r; exact q2.wf q3
  | dK kvs => obtain ⟨vs, q1, q2, q3, q4⟩ := r; exact q3.wf q4
  | dT kvs => obtain ⟨vs, q1, q2, q3, q4⟩ := r; exact q3.wf q4
theorem RepO.shrink {o : MO} {a : Addr} (h : wfO L.length o = true) (r : RepO K LT (L ++ M) H o a) : RepO K LT L H o a := by
  cases o with
  | lst ds => obtain ⟨vs, q1, q2, q3⟩ := r; exact ⟨vs, q1, q2.shrink h, q3⟩
  | dK kvs => obtain ⟨vs, q1, q2, q3, q4⟩ := r; exact ⟨vs, q1, q2, q3.shrink h, q4⟩
  | dT kvs => obtain ⟨vs, q1, q2, q3, q4⟩ := r; exact ⟨vs, q1, q2, q3.shrink h, q4⟩
theorem Ext.shrink (e : Ext L H L' H') : Ext L H L H' := ⟨⟨[], by simp, fun a h => by cases h⟩, e.keep⟩
theorem SR.shrink (s0 : SR K LT T L S H) (s : SR K LT T L' S' H') (e : Ext L H L' H') (hk : keepOk S S') : SR K LT T L (S'.take S.length) H' := by
  obtain ⟨M, rfl, _⟩ := e.pre
  have hl : L.length ≤ S'.length := by rw [← s.len, List.length_append]; omega
  refine ⟨by rw [List.length_take, ← s0.len]; omega, fun n o a h1 h2 => ?_, fun n m a h1 h2 => s.sep n m a (by rw [List.getElem?_append_left (List.getElem?_eq_some_iff.mp h1).1]; exact h1) (by rw [List.getElem?_append_left (List.getElem?_eq_some_iff.mp h2).1]; exact h2), s.tabs⟩
  have hn : n < L.length := (List.getElem?_eq_some_iff.mp h2).1
  have hnS : n < S.length := by rw [← s0.len]; exact hn
  rw [List.getElem?_take_of_lt hnS] at h1
  have r := s.objs n o a h1 (by rw [List.getElem?_append_left hn]; exact h2)
  refine r.shrink ?_
  rcases hk n o hnS h1 with z | z
  · exact (s0.objs n o a z h2).wf
  · rw [s0.len]; exact z
open Classical in
theorem gcR_exc {c : Str} : gcR S (.exc c S') = if S'.length ≤ S.length then .exc c S' else if keepOk S S' then .exc c (S'.take S.length) else .exc c S' := rfl
open Classical in
theorem gcR_ok {d : D} : gcR S (.ok d S') = if isD d = true then (if S'.length ≤ S.length then .ok d S'
    else if wfD S.length d = true ∧ keepOk S S' then .ok d (S'.take S.length)
    else match d with
      | .ref n => (match S'[n]? with
        | some (.lst ds) => if S.length ≤ n ∧ wfDs S.length ds = true ∧ keepOk S S' then .ok (.ref S.length) (S'.take S.length ++ [.lst ds]) else .ok d S'
        | _ => .ok d S')
      | _ => .ok d S') else .bad := rfl
theorem gc_post {E : XK} {r : R D} {Q : VK} (s0 : SR K LT T L S H) (p : Post K LT T L H E (gcR S r) Q) : Post K LT T L H E r Q := by
  cases r with
  | bad => exact p
  | exc c S' =>
    rw [gcR_exc] at p
    intro dx H' L' s e
    split at p
    · exact p dx H' L' s e
    · split at p
      · rename_i hk
        exact p dx H' L (s0.shrink s e hk) e.shrink
      · exact p dx H' L' s e
  | ok d S' =>
    rw [gcR_ok] at p
    intro v H' L' r s e
    split at p
    · split at p
      · exact p v H' L' r s e
      · split at p
        · rename_i hw
          obtain ⟨M, rfl, _⟩ := e.pre
          exact p v H' L (r.shrink (by rw [s0.len]; exact hw.1)) (s0.shrink s e hw.2) e.shrink
        · split at p
          · split at p
            · rename_i ds hs
              split at p
              · rename_i hz
                obtain ⟨M, rfl, hM⟩ := id e.pre
                cases r with
                | @ref _ a hl =>
                  have sh := s0.shrink s e hz.2.2
                  obtain ⟨vs, q1, q2, q3⟩ := s.objs _ _ a hs hl
                  have nL : a ∉ L := fun z => by
                    obtain ⟨m, hm, em⟩ := List.mem_iff_getElem.mp z
                    have := s.sep m _ a (by rw [List.getElem?_append_left hm, List.getElem?_eq_getElem hm, em]) hl
                    rw [← s0.len] at hz
                    omega
                  have hMa : a ∈ M := by
                    rcases List.mem_append.mp (List.mem_of_getElem? hl) with z | z
                    · exact absurd z nL
                    · exact z
                  have ea : Ext L H (L ++ [a]) H' := ⟨⟨[a], rfl, fun b hb => by rw [List.mem_singleton.mp hb]; exact hM a hMa⟩, e.keep⟩
                  refine p (.ref a) H' (L ++ [a]) (.ref ?_) (sh.adopt q1 nL (q2.shrink (by rw [s0.len]; exact hz.2.1)) q3) ea
                  rw [← s0.len, List.getElem?_append_right (Nat.le_refl _), Nat.sub_self]
                  rfl
              · exact p v H' L' r s e
            · exact p v H' L' r s e
          · exact p v H' L' r s e
    · exact p.elim
end
end Pf
end

section
set_option Elab.async false
set_option linter.all false
set_option maxRecDepth 100000
set_option maxHeartbeats 1000000
/-! P12: errors raised, caught. -/
namespace Pf
open PySem PySem.Spec PyProof.Rows L2
/-- the classes of errors, each with its classes upward (itself the first) -/
abbrev CTab := List (Str × List Str)
def subC (CT : CTab) (c C : Str) : Option Bool := (CT.lookup c).map fun anc => anc.contains C
/-- what K says of the classes -/
structure ClsOk (K : PySem.W.Frag) (CT : CTab) : Prop where
  exc : ∀ c anc, CT.lookup c = some anc → ExcC K (He.ga K c)
  sub : ∀ c C b, subC CT c C = some b → (CT.lookup C).isSome = true → PySem.W.exmOne K (.ref (He.ga K c)) (.ref (He.ga K C)) = some b ∧ PySem.W.kitOne K (.ref (He.ga K c)) (.ref (He.ga K C)) = some b
  val : ∀ c b, subC CT c "ValueError" = some b → PySem.W.kitOne K (.ref (He.ga K c)) (.type "ValueError") = some b
section
variable {X : Cx} {C : Addr} {bmB : List Value} {B newId initId : String}
/-- c() -/
theorem pmk_own0 {x : Str} {p pos : Pos} (F : ExcBaseFacts B newId initId bmB) (q : PySem.W.excIn X.K C bmB newId = true) (gC : X.mg x = some (.ref C)) (kC : PySem.W.keepIn X.K (.ref C) = true) (r : Raises X (.ref C)) (hg : Gl X x)
    (hdb : (x == ("__debug__" : Str)) = false) : PMk X (.Call (.Name x p) [] [] pos) (fun _ H Q => Q (.ref C) none H) := by
  intro pins s σ H Q I h
  refine wpAny_Call_Name_kw (ld_glob I hg gC ?_ hdb)
  refine PySem.W.callWith_K0 I.kIn kC ?_
  show wpAny _ _ (call (.ref C) []) _ _ _
  obtain ⟨bm, N, nm, qn, bs, hdct, sn, sub, ab, col, dd, k0, k1, k2, k3, k5, mN, hC, hN, hni, T⟩ := exc_obj I.kIn q
  refine wpAny_call_exc_subT F T hC hN hni (fun h' e hm => ?_) (by show 0 ≤ sizeLine; exact Nat.zero_le _)
  exact mk_of I hm r h (I.hok.gone hm.new)
end
section
variable {K : PySem.W.Frag} {LT LT' : XAt} {T : List (Addr × Str)} {L : List Addr} {H : Hp} {S : Store} {ρ : Env} {σ : L2.St}
mutual
theorem RepV.toX : ∀ {d : D} {v : V}, isD d = true → RepV K LT L H d v → RepV K LT' L H d v
  | _, _, _, .non => .non
  | _, _, _, .bl b => .bl b
  | _, _, _, .int i => .int i
  | _, _, _, .str x => .str x
  | _, _, h, .tup hq hd ho r => .tup hq hd ho (RepVs.toX (by simpa [isD] using h) r)
  | _, _, h, .rol hq r => .rol hq (RepVs.toX (by simpa [isD] using h) r)
  | _, _, _, .ref e => .ref e
  | _, _, h, .clo _ _ _ _ => by simp [isD] at h
  | _, _, h, .exn _ => by simp [isD] at h
theorem RepVs.toX : ∀ {ds : List D} {vs : List V}, isDs ds = true → RepVs K LT L H ds vs → RepVs K LT' L H ds vs
  | _, _, _, .nil => .nil
  | _, _, h, .cons r t => by
    simp only [isDs, Bool.and_eq_true] at h
    exact .cons (RepV.toX h.1 r) (RepVs.toX h.2 t)
end
theorem SR.toX (sr : SR K LT T L S H) : SR K LT' T L S H := ⟨sr.len, fun n o a h1 h2 => by
  have r := sr.objs n o a h1 h2
  cases o with
  | lst ds => obtain ⟨vs, q1, q2, q3⟩ := r; exact ⟨vs, q1, q2.toX q3, q3⟩
  | dK kvs => obtain ⟨vs, q1, q2, q3, q4⟩ := r; exact ⟨vs, q1, q2, q3.toX q4, q4⟩
  | dT kvs => obtain ⟨vs, q1, q2, q3, q4⟩ := r; exact ⟨vs, q1, q2, q3.toX q4, q4⟩, sr.sep, sr.tabs⟩
/-- the slots that hold plain data -/
def plainE (ρ : Env) : Env := ρ.map fun o => match o with
  | some d => if isD d = true then some d else none
  | none => none
theorem slot_plain {i : Nat} {d : D} (h : slot (plainE ρ) i = some d) : slot ρ i = some d ∧ isD d = true := by
  rw [slot_get] at h ⊢
  unfold plainE at h
  rw [List.getElem?_map] at h
  cases q : ρ[i]? with
  | none => rw [q] at h; cases h
  | some o =>
    rw [q] at h
    cases o with
    | none => cases h
    | some e =>
      have h' : (if isD e = true then some e else none) = some d := h
      by_cases hd : isD e = true
      · rw [if_pos hd] at h'; cases h'; exact ⟨rfl, hd⟩
      · rw [if_neg hd] at h'; cases h'
theorem ER.toX (er : ER K LT L H ρ σ) : ER K LT' L H (plainE ρ) σ := ⟨by unfold plainE; rw [List.length_map]; exact er.len, fun i d h => by
  obtain ⟨h1, h2⟩ := slot_plain h
  obtain ⟨v, q1, q2⟩ := er.at_ i d h1
  exact ⟨v, q1, q2.toX h2⟩⟩
theorem ER.setX (er : ER K LT L H ρ σ) (i : Nat) (x : Option V) : ER K LT L H (ρ.set i none) (σ.set i x) := ⟨by rw [List.length_set, List.length_set]; exact er.len, fun j d h => by
  rw [slot_set] at h
  by_cases hj : i = j
  · subst hj
    rw [if_pos rfl] at h
    by_cases hl : i < ρ.length
    · rw [if_pos hl] at h; cases h
    · rw [if_neg hl] at h; cases h
  · rw [if_neg hj] at h
    obtain ⟨v, q1, q2⟩ := er.at_ j d h
    exact ⟨v, by rw [List.getElem?_set_ne hj]; exact q1, q2⟩⟩
end
/-- the end of a suite: it returns plain data -/
def sufR (o : SO) : SO := match o with
  | .rt d S => if isD d = true then .rt d S else .bad
  | _ => .bad
/-- try: b / except C as (slot i): su -/
def sTry (CT : CTab) (b : St) (C : Str) (i : Nat) (su : St) : St := fun ρ S => match b ρ S with
  | .ex c ρ1 S1 => (match subC CT c C with
    | some true => if plainX c = true then sufR (su ((plainE ρ1).set i (some (.exn c))) S1) else .bad
    | some false => .ex c ρ1 S1
    | none => .bad)
  | o => o
def oIsE (CT : CTab) (C : Str) (x : D) (S : Store) : R D := match x with
  | .exn c => (match subC CT c C with
    | some b => .ok (.bl b) S
    | none => .bad)
  | _ => .bad
/-- one suite after the other, the error without a name -/
def sMany (CT : CTab) (c : Str) (ρ1 : Env) (S1 : Store) : List (Str × St) → SO
  | [] => .ex c ρ1 S1
  | (C, su) :: r => (match subC CT c C with
    | some true => sufR (su (plainE ρ1) S1)
    | some false => sMany CT c ρ1 S1 r
    | none => .bad)
def sTrys (CT : CTab) (b : St) (hs : List (Str × St)) : St := fun ρ S => match b ρ S with
  | .ex c ρ1 S1 => sMany CT c ρ1 S1 hs
  | o => o
section
variable {LT : XAt} {T : List (Addr × Str)} {X : Cx} {CT : CTab} {pos p p2 pos' np : Pos} {c C x n : Str} {i : Nat} {b : St} {t : St} {body suite : List Stmt} {b₀ : Stmt}
theorem suf_post {K : PySem.W.Frag} {LT' : XAt} {L : List Addr} {H : Hp} {W : WX} {o : SO} {D D' : Ends} (h : PostS K LT T L H W (sufR o) D) (hr : ∀ v H, D.rt v H → D'.rt v H := by exact fun _ _ h => h) : PostS K LT' T L H W0 o D' := by
  cases o with
  | rt d S' =>
    have h' : PostS K LT T L H W (if isD d = true then .rt d S' else .bad) D := h
    intro v H' L' r s e
    by_cases hd : isD d = true
    · rw [if_pos hd] at h'
      exact hr _ _ (h' v H' L' (r.toX hd) s.toX e)
    · rw [if_neg hd] at h'
      exact (show False from h').elim
  | nx _ _ => exact (show False from h).elim
  | bk _ _ => exact (show False from h).elim
  | ct _ _ => exact (show False from h).elim
  | ex _ _ _ => exact (show False from h).elim
  | bad => exact h
theorem ss_raise (hc : X.calm = true) (h : PMk X (.Call (.Name c p) [] [] p2) (fun _ H Q => Q (.ref (He.ga X.K c)) none H)) : SSt LT T X (.Raise (some (.Call (.Name c p) [] [] p2)) none pos) (sRaise c) := fun W tk =>
  (ps_raise hc tk h).imp fun D σ H ⟨ρ, S, L, er, sr, q⟩ => (show PostS X.K LT T L H W (.ex c ρ S) D from q) ⟨none, .inr rfl⟩ σ H L er sr (Ext.refl _ _)
theorem ss_try (hs : X.stack = X.env :: X.outer) (hf : X.env.frame = some X.env.locals) (hN : X.N.Nodup) (hi : X.N[i]? = some n) (hln : X.env.kindOf n = some .local) (hc : Names X C (.ref (He.ga X.K C))) (hK : ClsOk X.K CT) (hC : (CT.lookup C).isSome = true)
    (hb : ∀ (pn : List (Addr × Obj)) (xe : Value → Shared → Prop), PassesOwn (model X.prog X.w) X.A X.env xe → SSs LT T (X.tr pn xe) body b)
    (hsu : ∀ (c : Str) (a : Addr) (oe : Obj) (pn : List (Addr × Obj)), (CT.lookup c).isSome = true → Zc (.ref (He.ga X.K c)) none oe → (∃ vs, oe.data = .fields vs) → SSs (some (c, a)) T (X.suite a ((a, oe) :: pn)) (b₀ :: suite) t) :
    SSt LT T X (.Try body [.ExceptHandler (some (.Name C np)) (some n) (b₀ :: suite) pos'] [] [] pos) (sTry CT b C i t) := fun W tk => by
  refine (ps_try_as (X := X) (Wout := W) (tb := fun W => tS X.K LT T b W)
    (ts := fun a cls d D σ H => ∃ c, cls = .ref (He.ga X.K c) ∧ d = none ∧ (CT.lookup c).isSome = true ∧ tS X.K (some (c, a)) T t W0 D σ H) hs hf hN hi hln hc tk
    (fun W pn xe tk' hp => hb pn xe hp W tk') fun a oe cls d pn hz hv => ⟨fun pins s σ H D I ⟨c, e1, e2, hk, q⟩ => ?_⟩).imp fun D σ H ⟨ρ, S, L, er, sr, q⟩ => ?_
  · subst e1 e2
    exact (hsu c a oe pn hk hz hv W0 takes0).run pins s σ H D I q
  · refine ⟨ρ, S, L, er, sr, ?_⟩
    unfold sTry at q
    cases hq : b ρ S with
    | nx ρ1 S1 => rw [hq] at q; exact q
    | bk ρ1 S1 => rw [hq] at q; exact q
    | ct ρ1 S1 => rw [hq] at q; exact q
    | rt d S1 => rw [hq] at q; exact q
    | bad => rw [hq] at q; exact q
    | ex c ρ1 S1 =>
      rw [hq] at q
      dsimp only at q
      intro dx σ' H' L' er' sr' x'
      cases hsb : subC CT c C with
      | none => rw [hsb] at q; exact q.elim
      | some bb =>
        rw [hsb] at q
        obtain ⟨h1, _⟩ := hK.sub c C bb hsb hC
        refine ⟨bb, h1, fun eb a ha => ?_, fun eb => ?_⟩
        · subst eb
          dsimp only at q
          have hk : (CT.lookup c).isSome = true := by
            unfold subC at hsb
            cases hl : CT.lookup c with
            | none => rw [hl] at hsb; cases hsb
            | some _ => rfl
          by_cases hpx : plainX c = true
          · rw [if_pos hpx] at q
            have hdx : dx.1 = none := by
              rcases dx.2 with z | z
              · rw [hpx] at z; cases z
              · exact z
            have hi' : i < ρ1.length ∨ ¬ i < ρ1.length := Classical.em _
            refine ⟨c, rfl, hdx, hk, (plainE ρ1).set i (some (.exn c)), S1, L', (ER.toX er').set i (.exn rfl), sr'.toX, ?_⟩
            exact suf_post (PostS.weak q x')
          · rw [if_neg hpx] at q
            exact (show False from q).elim
        · subst eb
          exact (show PostS X.K LT T L H W (.ex c ρ1 S1) D from q) dx σ' H' L' er' sr' x'
/-- the suites of a try, without names -/
inductive SHs (T : List (Addr × Str)) (X : Cx) (CT : CTab) : List ExceptHandler → List (Str × St) → Prop
  | nil : SHs T X CT [] []
  | cons {C : Str} {t : St} {b₀ : Stmt} {suite : List Stmt} {np pos' : Pos} {hds : List ExceptHandler} {l : List (Str × St)} (hc : Names X C (.ref (He.ga X.K C))) (hC : (CT.lookup C).isSome = true)
      (hsu : ∀ (a : Addr) (oe : Obj) (pn : List (Addr × Obj)), SSs none T (X.suite a ((a, oe) :: pn)) (b₀ :: suite) t) (r : SHs T X CT hds l) : SHs T X CT (.ExceptHandler (some (.Name C np)) none (b₀ :: suite) pos' :: hds) ((C, t) :: l)
def tsOf (K : PySem.W.Frag) (T : List (Addr × Str)) (t : St) : Addr → Value → Option Addr → TS := fun _ _ _ D σ H => tS K none T t W0 D σ H
theorem hds_of {hds : List ExceptHandler} {l : List (Str × St)} (h : SHs T X CT hds l) : HdsOk X hds (l.map fun p => (.ref (He.ga X.K p.1), tsOf X.K T p.2)) := by
  induction h with
  | nil => exact .nil
  | cons hc hC hsu r ih => exact .cons hc (fun a oe cls d pn _ _ => ⟨fun pins s σ H D I q => (hsu a oe pn W0 takes0).run pins s σ H D I q⟩) ih
theorem shs_dom {hds : List ExceptHandler} {l : List (Str × St)} (h : SHs T X CT hds l) : ∀ p ∈ l, (CT.lookup p.1).isSome = true := by
  induction h with
  | nil => intro p hp; cases hp
  | cons hc hC hsu r ih =>
    intro p hp
    rcases List.mem_cons.mp hp with e | hp
    · rw [e]; exact hC
    · exact ih p hp
theorem many_post {L L' : List Addr} {H H' : Hp} {W : WX} {D : Ends} {ρ1 : Env} {S1 : Store} {σ' : L2.St} (hK : ClsOk X.K CT) (dx : DX c) (er' : ER X.K LT L' H' ρ1 σ') (sr' : SR X.K LT T L' S1 H') (x' : Ext L H L' H') : ∀ (l : List (Str × St)), (∀ p ∈ l, (CT.lookup p.1).isSome = true) →
    PostS X.K LT T L H W (sMany CT c ρ1 S1 l) D → wMany X.K W D (l.map fun p => (.ref (He.ga X.K p.1), tsOf X.K T p.2)) (.ref (He.ga X.K c)) dx.1 σ' H'
  | [], _, q => (show PostS X.K LT T L H W (.ex c ρ1 S1) D from q) dx σ' H' L' er' sr' x'
  | (C, su) :: r, hdom, q => by
    unfold sMany at q
    have hC := hdom _ List.mem_cons_self
    cases hsb : subC CT c C with
    | none => rw [hsb] at q; exact q.elim
    | some bb =>
      rw [hsb] at q
      obtain ⟨h1, _⟩ := hK.sub c C bb hsb hC
      refine ⟨bb, h1, fun eb a ha => ?_, fun eb => ?_⟩
      · subst eb
        exact ⟨plainE ρ1, S1, L', er'.toX, sr'.toX, suf_post (PostS.weak q x')⟩
      · subst eb
        exact many_post hK dx er' sr' x' r (fun p hp => hdom p (List.mem_cons_of_mem _ hp)) q
theorem ss_trys {h₀ : ExceptHandler} {hds : List ExceptHandler} {l : List (Str × St)} (hs : X.stack = X.env :: X.outer) (hf : X.env.frame = some X.env.locals) (hK : ClsOk X.K CT)
    (hb : ∀ (pn : List (Addr × Obj)) (xe : Value → Shared → Prop), PassesOwn (model X.prog X.w) X.A X.env xe → SSs LT T (X.tr pn xe) body b) (hh : SHs T X CT (h₀ :: hds) l) :
    SSt LT T X (.Try body (h₀ :: hds) [] [] pos) (sTrys CT b l) := fun W tk => by
  have hdom := shs_dom hh
  refine (ps_try_many (X := X) (Wout := W) (tb := fun W => tS X.K LT T b W) hs hf tk (fun W pn xe tk' hp => hb pn xe hp W tk') (hds_of hh)).imp fun D σ H ⟨ρ, S, L, er, sr, q⟩ => ⟨ρ, S, L, er, sr, ?_⟩
  clear hh
  unfold sTrys at q
  cases hq : b ρ S with
  | nx ρ1 S1 => rw [hq] at q; exact q
  | bk ρ1 S1 => rw [hq] at q; exact q
  | ct ρ1 S1 => rw [hq] at q; exact q
  | rt d S1 => rw [hq] at q; exact q
  | bad => rw [hq] at q; exact q
  | ex c ρ1 S1 =>
    rw [hq] at q
    dsimp only at q
    intro dx σ' H' L' er' sr' x'
    exact many_post hK dx er' sr' x' l hdom q
/-- isinstance(e, C), e the error at hand -/
def IsEAt (LT : XAt) (X : Cx) (CT : CTab) : Prop := ∀ c a, LT = some (c, a) → (CT.lookup c).isSome = true ∧ CallR X (.builtin "isinstance") (rIsE X.K (He.ga X.K c) a)
theorem isE_none {X : Cx} : IsEAt none X CT := fun _ _ h => nomatch h
theorem isE_suite {a : Addr} {oe : Obj} {pn : List (Addr × Obj)} (hK : ClsOk X.K CT) (hk : (CT.lookup c).isSome = true) (hz : Zc (.ref (He.ga X.K c)) none oe) (hv : ∃ vs, oe.data = .fields vs) : IsEAt (some (c, a)) (X.suite a ((a, oe) :: pn)) CT := fun c' a' h => by
  cases h
  obtain ⟨anc, hl⟩ := Option.isSome_iff_exists.mp hk
  exact ⟨hk, call_isE (hK.exc c anc hl) hz hv⟩
theorem se_isE {e : Expr} {fa : Ex} (hx : LT.isSome = true) (h : IsEAt LT X CT) (hK : ClsOk X.K CT) (hC : (CT.lookup C).isSome = true) (B : Bi X "isinstance" (.builtin "isinstance")) (hg : Gl X C) (hm : X.mg C = some (.ref (He.ga X.K C))) (hdb : (C == ("__debug__" : Str)) = false) (h1 : notStar e = true) (ha : SE LT T X e fa) :
    SE LT T X (.Call (.Name "isinstance" p) [e, .Name C p2] [] pos) (c1 (oIsE CT C) fa) := by
  cases hLT : LT with
  | none =>
    rw [hLT] at hx
    cases hx
  | some ca =>
    subst hLT
    obtain ⟨c, a⟩ := ca
    obtain ⟨hk, hcall⟩ := h c a rfl
    refine fun W tk => (pe_callB hcall B.g B.n B.b (pa_cons (ha W tk) (pa_cons (pe_glob (v := .ref (He.ga X.K C)) hg hm rfl hdb) pa_nil (star_cons rfl)) (star_cons h1)) B.nn B.nd (star_cons h1) rfl).imp fun σ H Q ⟨ρ, S, L, er, sr, q⟩ =>
      tE_mono (bindE tgP er sr q) fun x H1 ⟨dx, S1, L1, r1, s1, e1, p1, x1⟩ => ?_
    cases r1 with
    | exn hh =>
      cases hh
      unfold oIsE at p1
      dsimp only at p1
      cases hsb : subC CT c C with
      | none => rw [hsb] at p1; exact p1.elim
      | some bb =>
        rw [hsb] at p1
        exact ⟨.ref (He.ga X.K C), .ref (He.ga X.K C), bb, rfl, fun u hu => hu, (hK.sub c C bb hsb hC).2, p1 _ _ _ (.bl bb) s1 (Ext.refl _ _)⟩
    | _ => exact (show False from p1).elim
end
end Pf
end

section
set_option Elab.async false
set_option linter.all false
set_option maxRecDepth 100000
set_option maxHeartbeats 4000000
namespace L2
open PySem PySem.Spec PyProof.Rows
theorem tuple_mul1 (l : Addr) (items : Array Value) (n : Nat) (dd : Option Addr) (sl : Array (Option Value)) (x : Int) (u : Tok) (c0 : (decide (x < -(2 ^ 63)) || decide (x ≥ 2 ^ 63)) = false) (c1 : (items.isEmpty || x == 1) = true) :
    Meets (Builtin.«tuple.__mul__» ⟨[.ref l, .int x u], []⟩) (fun _ R s => s.heap.get? l = some { cls := .type "tuple", dict := dd, data := .seq items n, slots := sl } ∧
      R (.ok (.ret (Value.ref l))) s) :=
  .of_wp fun prog w A R s h => by
    obtain ⟨hp, g, d, tk, os⟩ := s
    obtain ⟨hl, h⟩ := h
    have f1 := AutoSeq1.idx_int
    wp_walk using wpAny_loadPart' hl
    repeat (first
      | (refine wpAny_ite_false (decide_eq_false (by rw [c0]; exact Bool.false_ne_true)) ?_; wp_walk using wpAny_loadPart' hl)
      | (refine wpAny_ite_true (decide_eq_true c1) ?_; wp_walk using wpAny_loadPart' hl))
    exact ⟨_, rfl, h⟩
theorem tuple_mul0 (l : Addr) (items : Array Value) (n : Nat) (dd : Option Addr) (sl : Array (Option Value)) (x : Int) (u : Tok) (c0 : (decide (x < -(2 ^ 63)) || decide (x ≥ 2 ^ 63)) = false) (c1 : (items.isEmpty || x == 1) = false) (c2 : (decide (x ≤ 0) || items.isEmpty) = true) :
    Meets (Builtin.«tuple.__mul__» ⟨[.ref l, .int x u], []⟩) (fun _ R s => s.heap.get? l = some { cls := .type "tuple", dict := dd, data := .seq items n, slots := sl } ∧
      R (.ok (.ret (Value.ref s.heap.objs.size))) { s with heap := s.heap.push { cls := Value.type "tuple", data := Data.seq #[] }, toks := s.toks }) :=
  .of_wp fun prog w A R s h => by
    obtain ⟨hp, g, d, tk, os⟩ := s
    obtain ⟨hl, h⟩ := h
    have f1 := AutoSeq1.idx_int
    wp_walk using wpAny_loadPart' hl
    repeat (first
      | (refine wpAny_ite_false (decide_eq_false (by rw [c0]; exact Bool.false_ne_true)) ?_; wp_walk using wpAny_loadPart' hl)
      | (refine wpAny_ite_false (decide_eq_false (by rw [c1]; exact Bool.false_ne_true)) ?_; wp_walk using wpAny_loadPart' hl)
      | (refine wpAny_ite_true (decide_eq_true c2) ?_; wp_walk using wpAny_loadPart' hl))
    exact ⟨_, rfl, h⟩
def rRepA (K : PySem.W.Frag) : R2 := fun x y H Q => ∃ l k xs, x = .ref l ∧ y = .int k ∧ SqT K H l xs ∧ -(2 ^ 62) ≤ k ∧ k ≤ 100000 ∧ xs.length * k.toNat ≤ 1000000 ∧
  (if xs = [] ∨ k = 1 then Q (.ref l) H else ∀ p, H p = none → Q (.ref p) (upd H p (.tup (List.replicate k.toNat xs).flatten)))
theorem op_repA {X : Cx} : OpR X (binaryOp .Mult) (rRepA X.K) := by
  intro pins s σ H x y v u Q I rx ry h
  obtain ⟨l, k, xs, rfl, rfl, hT, h1, h2, hm, q⟩ := h
  cases rx
  obtain ⟨t, rfl⟩ := ry
  obtain ⟨its, r, ⟨⟨cls, dd, data, sl⟩, ho, hc, n, hd⟩, hs⟩ := I.tuple hT
  simp only at hc hd
  subst hc hd
  have hle : its.length = xs.length := r.length.symm
  have hsz0 : its.toArray.size = xs.length := by rw [List.size_toArray, hle]
  have c0 : (decide (k < -(2 ^ 63)) || decide (k ≥ 2 ^ 63)) = false := by
    rw [decide_eq_false (by omega), decide_eq_false (by omega)] <;> rfl
  have hie : its.toArray.isEmpty = decide (xs = []) := by
    cases its with
    | nil => rw [show xs = [] from List.eq_nil_of_length_eq_zero hle.symm]; rfl
    | cons a b =>
      have : xs ≠ [] := fun e => by rw [e] at hle; simp at hle
      rw [decide_eq_false this]; rfl
  by_cases hA : xs = [] ∨ k = 1
  · rw [if_pos hA] at q
    have c1 : (its.toArray.isEmpty || k == 1) = true := by
      rw [hie]
      rcases hA with e | e
      · rw [decide_eq_true e]; rfl
      · rw [e]; simp
    refine wpAny_binaryOp_repeat_ref (T := "tuple") (U := "int") (by decide) ⟨_, ho, rfl⟩ (fun s' => typeIs_int s' k t) noFill_tuple_mul F.fills_int_mul F.slot_int_rmul repeat_tuple F.slot_int_index.lookup
      (call_meets F.slot_int_rmul (typeIs_int s k t) F.entry_int_rmul (F.args_int_rmul_2 _ _) (int_rmul_tuple k t l its.toArray n dd sl)
        ⟨ho, rfl, ⟨_, ho, rfl⟩, call_meets F.slot_tuple_mul ⟨_, ho, rfl⟩ F.entry_tuple_mul (F.args_tuple_mul_2 _ _) (tuple_mul1 l its.toArray n dd sl k t c0 c1) ⟨ho, ?_⟩⟩)
    exact ⟨.ref l, H, I, rfl, q⟩
  · rw [if_neg hA] at q
    have hxs : xs ≠ [] := fun e => hA (.inl e)
    have hk1 : k ≠ 1 := fun e => hA (.inr e)
    have c1 : (its.toArray.isEmpty || k == 1) = false := by
      rw [hie, decide_eq_false hxs, Bool.false_or]
      exact beq_eq_false_iff_ne.mpr hk1
    by_cases hk : k ≤ 0
    · have c2 : (decide (k ≤ 0) || its.toArray.isEmpty) = true := by rw [decide_eq_true hk]; rfl
      refine wpAny_binaryOp_repeat_ref (T := "tuple") (U := "int") (by decide) ⟨_, ho, rfl⟩ (fun s' => typeIs_int s' k t) noFill_tuple_mul F.fills_int_mul F.slot_int_rmul repeat_tuple F.slot_int_index.lookup
        (call_meets F.slot_int_rmul (typeIs_int s k t) F.entry_int_rmul (F.args_int_rmul_2 _ _) (int_rmul_tuple k t l its.toArray n dd sl)
          ⟨ho, rfl, ⟨_, ho, rfl⟩, call_meets F.slot_tuple_mul ⟨_, ho, rfl⟩ F.entry_tuple_mul (F.args_tuple_mul_2 _ _) (tuple_mul0 l its.toArray n dd sl k t c0 c1 c2) ⟨ho, ?_⟩⟩)
      have ez : k.toNat = 0 := by omega
      rw [ez] at q
      exact ⟨.ref s.heap.objs.size, _, I.laid (t' := s.toks) (o := .tup []) (fun b ob q => Heap.get?_push_of_some _ q) (Nat.le_refl _) ⟨Nat.zero_le _, [], .nil, IsTup.new _ _⟩, rfl, q _ (I.hok.fresh (Nat.le_refl _))⟩
    · have hmz : xs.length * k.toNat ≤ 1000000 := hm
      have hmI : ((its.toArray.size : Nat) : Int) * k ≤ 1000000 := by
        rw [hsz0]
        have e : k = ((k.toNat : Nat) : Int) := by omega
        rw [e]
        rw [← Int.natCast_mul]
        exact Int.ofNat_le.mpr hmz
      have flen : (List.replicate k.toNat its).flatten.length ≤ sizeLine := by
        rw [PyProof.Rows.lm_len_rep_flat, hle, sizeLine_eq, Nat.mul_comm]
        omega
      have c2 : (decide (k ≤ 0) || its.toArray.isEmpty) = false := by
        rw [hie, decide_eq_false hxs, Bool.or_false]
        exact decide_eq_false hk
      have c4 : Builtin.Tuple.tupleTooMany (((its.toArray.size : Nat) : Int) * k) = false := by
        unfold Builtin.Tuple.tupleTooMany
        rw [sizeLine_eq]
        exact decide_eq_false (by omega)
      refine wpAny_binaryOp_repeat_ref (T := "tuple") (U := "int") (by decide) ⟨_, ho, rfl⟩ (fun s' => typeIs_int s' k t) noFill_tuple_mul F.fills_int_mul F.slot_int_rmul repeat_tuple F.slot_int_index.lookup
        (call_meets F.slot_int_rmul (typeIs_int s k t) F.entry_int_rmul (F.args_int_rmul_2 _ _) (int_rmul_tuple k t l its.toArray n dd sl)
          ⟨ho, rfl, ⟨_, ho, rfl⟩, call_meets F.slot_tuple_mul ⟨_, ho, rfl⟩ F.entry_tuple_mul (F.args_tuple_mul_2 _ _) (tuple_mulW l its.toArray n dd sl k t c0 c1 c2 (by omega) c4 (by rw [size_rep, List.size_toArray]; exact flen)) ⟨ho, ?_⟩⟩)
      rw [size_rep]
      refine ⟨.ref s.heap.objs.size, _, I.laid (t' := s.toks) (o := .tup (List.replicate k.toNat xs).flatten) (fun b ob q => Heap.get?_push_of_some _ q) (Nat.le_refl _) ?_, rfl, q _ (I.hok.fresh (Nat.le_refl _))⟩
      exact ⟨by rw [PyProof.Rows.lm_len_rep_flat, sizeLine_eq, Nat.mul_comm]; omega, _, r.rep k.toNat, IsTup.new _ _⟩
/-- either -/
theorem OpR.orA {X : Cx} {op : Value → Value → Sem Value} {a b : R2} (h1 : OpR X op a) (h2 : OpR X op b) : OpR X op (fun x y H Q => a x y H Q ∨ b x y H Q) := fun pins s σ H x y v u Q I rx ry h => h.elim (h1 pins s σ H x y v u Q I rx ry) (h2 pins s σ H x y v u Q I rx ry)
theorem OpR.impA {X : Cx} {op : Value → Value → Sem Value} {a b : R2} (h1 : OpR X op a) (i : ∀ x y H Q, b x y H Q → a x y H Q) : OpR X op b := fun pins s σ H x y v u Q I rx ry h => h1 pins s σ H x y v u Q I rx ry (i _ _ _ _ h)
end L2
namespace Pf
open PySem PySem.Spec PyProof.Rows L2
/-- + of lists of the store, or as oAdd -/
def oAddA (x y : D) (S : Store) : R D := match x, y with
  | .ref n, .ref m => (match S[n]?, S[m]? with
    | some (.lst xs), some (.lst ys) => if xs.length + ys.length ≤ sizeLine then .ok (.ref S.length) (S ++ [.lst (xs ++ ys)]) else .bad
    | _, _ => .bad)
  | x, y => oAdd x y S
def oRepA (xs : List D) (k : Int) (S : Store) : R D := if -(2 ^ 62) ≤ k ∧ k ≤ 100000 ∧ xs.length * k.toNat ≤ 1000000 then .ok (.tup .any (List.replicate k.toNat xs).flatten) S else .bad
/-- * of a tuple, or as oMul -/
def oMulA (x y : D) (S : Store) : R D := match x, y with
  | .tup _ xs, .int k => oRepA xs k S
  | x, y => oMul x y S
section
variable {X : Cx} {LT : XAt} {T : List (Addr × Str)}
theorem or_addA : OpR X (binaryOp .Add) (rB X.K LT T oAddA) := by
  refine (OpR.orA (or_add (LT := LT) (T := T)) op_cat).impA fun x y H Q ⟨dx, dy, S, L, W, r1, r2, sr, p⟩ => ?_
  by_cases hr : ∃ n m, dx = .ref n ∧ dy = .ref m
  · obtain ⟨n, m, rfl, rfl⟩ := hr
    right
    unfold oAddA at p
    cases r1 with
    | ref h1 =>
      cases r2 with
      | ref h2 =>
        obtain ⟨o1, e1, q1⟩ := sr.at_ h1
        obtain ⟨o2, e2, q2⟩ := sr.at_ h2
        dsimp only at p
        rw [e1, e2] at p
        cases o1 with
        | lst xs =>
          cases o2 with
          | lst ys =>
            dsimp only at p
            obtain ⟨vs, a1, a2, a3⟩ := q1
            obtain ⟨ws, b1, b2, b3⟩ := q2
            by_cases hz : xs.length + ys.length ≤ sizeLine
            · rw [if_pos hz] at p
              refine ⟨_, _, vs, ws, rfl, rfl, a1, b1, by rw [← a2.length, ← b2.length]; exact hz, fun t ht => ?_⟩
              obtain ⟨sr', e'⟩ := sr.alloc ht (a2.app b2) (isDs_app a3 b3)
              exact p (.ref t) _ _ (.ref (by rw [← sr.len, List.getElem?_append_right (Nat.le_refl _), Nat.sub_self]; rfl)) sr' e'
            · rw [if_neg hz] at p; exact p.elim
          | dK _ => exact p.elim
          | dT _ => exact p.elim
        | dK _ => exact p.elim
        | dT _ => exact p.elim
  · left
    refine ⟨dx, dy, S, L, W, r1, r2, sr, ?_⟩
    have e : oAddA dx dy S = oAdd dx dy S := by
      unfold oAddA
      split
      · rename_i n m
        exact absurd ⟨n, m, rfl, rfl⟩ hr
      · rfl
    rw [e] at p
    exact p
theorem or_mulA : OpR X (binaryOp .Mult) (rB X.K LT T oMulA) := by
  refine (OpR.orA (or_mul (LT := LT) (T := T)) op_repA).impA fun x y H Q ⟨dx, dy, S, L, W, r1, r2, sr, p⟩ => ?_
  by_cases hr : ∃ n xs k, dx = .tup n xs ∧ dy = .int k
  · obtain ⟨n, xs, k, rfl, rfl⟩ := hr
    right
    cases r1 with
    | tup hq hd _ rr =>
      cases r2
      have p' : Post X.K LT T L H W (oRepA xs k S) Q := p
      unfold oRepA at p'
      split at p'
      · rename_i hz
        refine ⟨_, k, _, rfl, rfl, hq, hz.1, hz.2.1, by rw [← rr.length]; exact hz.2.2, ?_⟩
        have rk := rr.rep k.toNat
        split
        · rename_i hA
          refine p' _ _ _ (.tup hq (fun z => nomatch z) (fun z => nomatch z) ?_) sr (Ext.refl _ _)
          rcases hA with e | e
          · subst e
            cases rr
            have : (List.replicate k.toNat ([] : List D)).flatten = [] := by simp
            rw [this]
            exact .nil
          · subst e
            have : (List.replicate (Int.toNat 1) xs).flatten = xs := by simp
            rw [this]
            exact rr
        · intro t ht
          exact p' _ _ _ (.tup (SqT.of upd_same) (fun z => nomatch z) (fun z => nomatch z) (rk.ext sr (Ext.new ht))) (sr.new ht) (Ext.new ht)
      · exact p'.elim
  · left
    refine ⟨dx, dy, S, L, W, r1, r2, sr, ?_⟩
    have e : oMulA dx dy S = oMul dx dy S := by
      unfold oMulA
      split
      · rename_i n xs k
        exact absurd ⟨n, xs, k, rfl, rfl⟩ hr
      · rfl
    rw [e] at p
    exact p
end
end Pf
end

section
set_option Elab.async false
set_option linter.all false
set_option maxRecDepth 100000
set_option maxHeartbeats 1000000
/-! P13b: count; slices of either kind. -/
namespace Pf
open PySem PySem.Spec PyProof.Rows L2
theorem plains_of {n : Nat} {ds : List D} (h : okDs n ds = true) : PyData.plainAll (toPys ds) = true := by
  have l := lays_of n ds h
  have : (PyData.list (toPys ds)).canLay0 = true := by simp only [PyData.canLay0]; exact l.1
  exact PyData.plain_of_canLay0 (.list (toPys ds)) this
theorem countP_toPys {y : D} : ∀ ds : List D, (toPys ds).countP (fun z => PyData.eqv z (toPy y)) = ds.countP (fun d => eqD d y)
  | [] => rfl
  | d :: ds => by
    simp only [toPys, List.countP_cons, countP_toPys ds]
    rfl
/-- xs.count(y) -/
def oCount (x y : D) (S : Store) : R D := match lstOf S x with
  | some ds => if okD 50 y && okDs 50 ds then .ok (.int (ds.countP (fun d => eqD d y) : Nat)) S else .bad
  | none => .bad
def oCountT (x y : D) (S : Store) : R D := match x with
  | .tup .hard ds => if okD 50 y && okDs 50 ds then .ok (.int (ds.countP (fun d => eqD d y) : Nat)) S else .bad
  | _ => .bad
section
variable {X : Cx} {LT : XAt} {T : List (Addr × Str)}
theorem mr_count (hu : X.A.units + 65 < cLine) : MtR X "list.count" (rM X.K LT T (m1 oCount)) := by
  intro pins s σ H x xs v us Q I rx rs h
  obtain ⟨dx, ds, S, L, W, r1, r2, sr, p⟩ := h
  unfold m1 at p
  split at p
  · rename_i y
    obtain ⟨w, rfl, rw'⟩ := r2.one
    unfold oCount at p
    split at p
    · rename_i es hes
      split at p
      · rename_i hz
        rw [Bool.and_eq_true] at hz
        obtain ⟨a, vs, rfl, rr, hq⟩ := lst_of sr hes r1
        cases rx
        obtain ⟨uy, rfl, ry⟩ := rs.one
        obtain ⟨its, rv, pl, hlen⟩ := I.list hq
        obtain ⟨bs, e1⟩ := Dp.reads I _ w uy (dp_of 50 hz.1 rw') ry
        obtain ⟨as, h5⟩ := Dp.readsAll I _ _ its (dps_of 50 hz.2 rr) rv
        have l1 := lay_of 50 y hz.1
        have l2 := lays_of 50 es hz.2
        refine SeqAt.count_list_data (vs := its.toArray) pl.isList (by simpa using h5) e1 (plains_of hz.2) (PyData.plain_of_canLay0 _ l1.1) ?_ ?_
        · have : min (PyData.depthAll (toPys es)) (toPy y).depth ≤ 50 := Nat.le_trans (Nat.min_le_left _ _) l2.2
          omega
        · rw [countP_toPys]
          exact ⟨.int (es.countP (fun d => eqD d y) : Nat), H, I.tok _, ⟨_, rfl⟩, p _ _ _ (.int _) sr (Ext.refl _ _)⟩
      · exact p.elim
    · exact p.elim
  · exact p.elim
theorem mr_countT (hu : X.A.units + 65 < cLine) : MtR X "tuple.count" (rM X.K LT T (m1 oCountT)) := by
  intro pins s σ H x xs v us Q I rx rs h
  obtain ⟨dx, ds, S, L, W, r1, r2, sr, p⟩ := h
  unfold m1 at p
  split at p
  · rename_i y
    obtain ⟨w, rfl, rw'⟩ := r2.one
    unfold oCountT at p
    split at p
    · rename_i es
      split at p
      · rename_i hz
        rw [Bool.and_eq_true] at hz
        cases r1 with
        | @tup _ a vs _ hq _ _ rr =>
          cases rx
          obtain ⟨uy, rfl, ry⟩ := rs.one
          obtain ⟨its, rv, pl, hlen⟩ := I.tuple hq
          obtain ⟨bs, e1⟩ := Dp.reads I _ w uy (dp_of 50 hz.1 rw') ry
          obtain ⟨as, h5⟩ := Dp.readsAll I _ _ its (dps_of 50 hz.2 rr) rv
          have l1 := lay_of 50 y hz.1
          have l2 := lays_of 50 es hz.2
          refine SeqAt.count_tuple_data (vs := its.toArray) pl (by simpa using h5) e1 (plains_of hz.2) (PyData.plain_of_canLay0 _ l1.1) ?_ ?_
          · have : min (PyData.depthAll (toPys es)) (toPy y).depth ≤ 50 := Nat.le_trans (Nat.min_le_left _ _) l2.2
            omega
          · rw [countP_toPys]
            exact ⟨.int (es.countP (fun d => eqD d y) : Nat), H, I.tok _, ⟨_, rfl⟩, p _ _ _ (.int _) sr (Ext.refl _ _)⟩
      · exact p.elim
    · exact p.elim
  · exact p.elim
end
/-- a[lo:hi], a a tuple, a list (then a new one) -/
def oCut (x : D) (l h : Option Int) (S : Store) : R D := match x with
  | .tup _ xs => .ok (.tup .any (cutD xs l h)) S
  | x => (match lstOf S x with
    | some xs => if isDs (cutD xs l h) = true then .ok (.ref S.length) (S ++ [.lst (cutD xs l h)]) else .bad
    | none => .bad)
def cCut (a : Ex) (lo hi : Pt) : Ex := fun ρ S => (a ρ S).bind fun x S1 => (lo ρ S1).bind fun l S2 => (hi ρ S2).bind fun h S3 => oCut x l h S3
section
variable {X : Cx} {LT : XAt} {T : List (Addr × Str)} {a : Expr} {fa : Ex} {pos p2 : Pos}
theorem isDs_cut {ds : List D} (h : isDs ds = true) (lo hi : Option Int) : isDs (cutD ds lo hi) = true := by
  have key : ∀ (n : Nat) (ds : List D), isDs ds = true → isDs (ds.drop n) = true ∧ isDs (ds.take n) = true := by
    intro n
    induction n with
    | zero => intro ds h; exact ⟨h, rfl⟩
    | succ n ih =>
      intro ds h
      cases ds with
      | nil => exact ⟨rfl, rfl⟩
      | cons d ds =>
        simp only [isDs, Bool.and_eq_true] at h
        obtain ⟨h1, h2⟩ := ih ds h.2
        exact ⟨h1, by simp only [List.take_succ_cons, isDs, Bool.and_eq_true]; exact ⟨h.1, h2⟩⟩
  unfold cutD
  exact (key _ _ (key _ _ h).1).2
theorem se_cut {lo hi : Option Expr} {fl fh : Pt} (ha : SE LT T X a fa) (hl : SPt LT T X lo fl) (hh : SPt LT T X hi fh) : SE LT T X (.Subscript a (.Slice lo hi none p2) pos) (cCut fa fl fh) := fun W tk => (pe_slice (SlR.or sl_tupA sl_list) (ha W tk) (hl W tk) (hh W tk)).imp fun σ H Q ⟨ρ, S, L, er, sr, p⟩ =>
  tE_mono (bindE tgP er sr p) fun x H1 ⟨dx, S1, L1, r1, s1, e1, p1, x1⟩ => tP_mono (bindP tgP e1 s1 p1) fun l H2 ⟨S2, L2, s2, e2, p2, x2⟩ => tP_mono (bindP tgP e2 s2 p2) fun h H3 ⟨S3, L3, s3, e3, p3, x3⟩ => by
    have r3 := (r1.ext s1 x2).ext s2 x3
    have fin : ∀ {ds : List D} {vs : List V} {q : Addr}, RepVs X.K LT L3 H3 ds vs → SqL X.K H3 q vs → Post X.K LT T L3 H3 (at_ W σ) (if isDs (cutD ds l h) = true then .ok (.ref S3.length) (S3 ++ [.lst (cutD ds l h)]) else .bad) Q → rSlL X.K (.ref q) l h H3 Q := fun {ds vs q} rr hq pp => ⟨q, vs, rfl, hq, fun t ht => by
      by_cases hd : isDs (cutD ds l h) = true
      · rw [if_pos hd] at pp
        obtain ⟨sr', e'⟩ := s3.alloc ht (rr.cut l h) hd
        exact pp (.ref t) _ _ (.ref (by rw [← s3.len, List.getElem?_append_right (Nat.le_refl _), Nat.sub_self]; rfl)) sr' e'
      · rw [if_neg hd] at pp; exact pp.elim⟩
    cases r3 with
    | @tup n q vs ds hq _ _ rr =>
      left
      have hc := rr.cut l h
      refine ⟨q, vs, rfl, hq, fun hw => ?_, fun _ t ht => ?_⟩
      · have ecut : cutV vs l h = vs := by
          unfold cutV
          rw [hw.1, hw.2, List.drop_zero, Nat.sub_zero, List.take_length]
        rw [ecut] at hc
        exact p3 _ _ _ (.tup hq (fun z => nomatch z) (fun z => nomatch z) hc) s3 (Ext.refl _ _)
      · exact p3 _ _ _ (.tup (SqT.of upd_same) (fun z => nomatch z) (fun z => nomatch z) (hc.ext s3 (Ext.new ht))) (s3.new ht) (Ext.new ht)
    | rol hq rr => exact .inr (fin rr hq.sq p3)
    | @ref n q hl =>
      right
      obtain ⟨mo, hs, ro⟩ := s3.at_ hl
      have p3' : Post X.K LT T L3 H3 (at_ W σ) (oCut (.ref n) l h S3) Q := p3
      unfold oCut lstOf at p3'
      dsimp only at p3'
      rw [hs] at p3'
      cases mo with
      | lst ds =>
        obtain ⟨vs, h1, h2, _⟩ := ro
        exact fin h2 (SqL.of h1) p3'
      | dK kvs => exact (show False from p3').elim
      | dT kvs => exact (show False from p3').elim
    | _ => exact (show False from p3).elim
end
end Pf
end

section
set_option Elab.async false
set_option linter.all false
set_option maxRecDepth 100000
set_option maxHeartbeats 4000000
/-! P13c: pop, extend, dicts, dicts of the module, x[n::-1]. -/
namespace Pf
open PySem PySem.Spec PyProof.Rows L2
section
variable {LT : XAt} {T : List (Addr × Str)} {X : Cx} {e a b c o : Expr} {es : List Expr} {f fa fb fc : Ex} {fs : Ar} {pos p p2 apos cpos : Pos}
/-- a list's method without arguments -/
theorem se_meth0 {name : Str} {id : String} {op : D → List D → Store → R D} (pa : PlainAttrs "list") (slot : Slot "list" name id) (hty : typeOf (.builtin id) = pure (.type "method_descriptor")) (hm : MtR X id (rM X.K LT T op))
    (hbase : attributeBase o name X.env (eval o X.env) = eval o X.env) (hline : (apos.endLine == cpos.line) = true) (ho : SE LT T X o fa) : SE LT T X (.Call (.Attribute o name apos) [] [] cpos) (cM op fa aNil) := fun W tk => by
  refine (pe_bm0 (T := "list") pa slot hty hm (ho W tk) hbase hline).imp fun σ H Q ⟨ρ, S, L, er, sr, p⟩ => ?_
  refine tE_mono (bindE tgP er sr p) fun x H1 ⟨dx, S1, L1, r1, s1, e1, p1, x1⟩ => ?_
  split at p1
  · rename_i hl
    obtain ⟨ds, hds⟩ := Option.isSome_iff_exists.mp hl
    obtain ⟨q, vs, rfl, rr, hq⟩ := lst_of s1 hds r1
    exact ⟨.inl ⟨rfl, vs, hq⟩, dx, [], S1, L1, _, r1, .nil, s1, p1⟩
  · exact p1.elim
/-! ### {} -/
theorem se_dictK : SE LT T X (.Dict [] [] pos) cDictK := fun W tk => pe_dnewK.imp fun σ H Q ⟨ρ, S, L, er, sr, p⟩ q hq => by
  have ro : RepO X.K LT (L ++ [q]) (upd H q (.dK [])) (.dK []) q := ⟨[], upd_same, rfl, .nil, rfl⟩
  obtain ⟨sr', e'⟩ := sr.allocO hq ro
  exact p _ _ _ (.ref (by rw [← sr.len, List.getElem?_append_right (Nat.le_refl _), Nat.sub_self]; rfl)) sr' e'
theorem se_dictT : SE LT T X (.Dict [] [] pos) cDictT := fun W tk => pe_dnewT.imp fun σ H Q ⟨ρ, S, L, er, sr, p⟩ q hq => by
  have ro : RepO X.K LT (L ++ [q]) (upd H q (.dT [])) (.dT []) q := ⟨[], upd_same, rfl, .nil, rfl⟩
  obtain ⟨sr', e'⟩ := sr.allocO hq ro
  exact p _ _ _ (.ref (by rw [← sr.len, List.getElem?_append_right (Nat.le_refl _), Nat.sub_self]; rfl)) sr' e'
/-! ### dicts of the module -/
structure FdAt (K : PySem.W.Frag) (w : World) (a : Addr) (kvs : List (Str × D)) : Prop where
  kd : ∃ es n, KDict K w a es n
  at_ : ∀ z, (kvs.lookup z = none ∧ PySem.W.nsIn K a z = some none) ∨ ∃ d v u, kvs.lookup z = some d ∧ PySem.W.nsIn K a z = some (some u) ∧ RelV v u ∧ ∀ (LT : XAt) L H, RepV K LT L H d v
theorem se_ixF {x : Str} {q : Addr} {kvs : List (Str × D)} (hg : Gl X x) (hm : X.mg x = some (.ref q)) (hd : (x == ("__debug__" : Str)) = false) (F : FdAt X.K X.w q kvs) (hs : PlainIx b) (hb : SE LT T X b fb) :
    SE LT T X (.Subscript (.Name x p) b pos) (c1 (oIxF kvs) fb) := fun W tk => (pe_ix ix_kdict (pe_glob (v := .ref q) hg hm rfl hd) (hb W tk) hs).imp fun σ H Q ⟨ρ, S, L, er, sr, pp⟩ =>
  tE_mono (bindE tgP er sr pp) fun y H1 ⟨dy, S1, L1, r1, s1, e1, p1, x1⟩ => by
    unfold oIxF at p1
    split at p1
    · rename_i z
      split at p1
      · rename_i d hd
        cases r1
        rcases F.at_ z with ⟨h1, _⟩ | ⟨d', v, u, h1, h2, h3, h4⟩
        · rw [hd] at h1; cases h1
        · rw [hd] at h1; cases h1
          obtain ⟨es, n, kd⟩ := F.kd
          exact ⟨q, z, v, rfl, rfl, ⟨es, n, u, kd.at_, kd.lit, h2, h3⟩, p1 _ _ _ (h4 LT L1 H1) s1 (Ext.refl _ _)⟩
      · exact p1.elim
    · exact p1.elim
theorem fd_in {q : Addr} {kvs : List (Str × D)} {K : PySem.W.Frag} {w : World} (F : FdAt K w q kvs) (z : Str) : ∃ r, PySem.W.nsIn K q z = some r ∧ r.isSome = (kvs.lookup z).isSome := by
  rcases F.at_ z with ⟨h1, h2⟩ | ⟨d', v, u, h1, h2, _⟩
  · exact ⟨none, h2, by rw [h1]; rfl⟩
  · exact ⟨some u, h2, by rw [h1]; rfl⟩
theorem se_inF {x : Str} {q : Addr} {kvs : List (Str × D)} (hg : Gl X x) (hm : X.mg x = some (.ref q)) (hd : (x == ("__debug__" : Str)) = false) (F : FdAt X.K X.w q kvs) (ha : SE LT T X a fa) :
    SE LT T X (.Compare a [.In] [.Name x p] pos) (c1 (oInF kvs) fa) := fun W tk => by
  obtain ⟨es, n, kd⟩ := F.kd
  refine (pe_cmpR (op_in_kd kd) (ha W tk) (pe_glob (v := .ref q) hg hm rfl hd) rfl).imp fun σ H Q ⟨ρ, S, L, er, sr, pp⟩ => ?_
  refine tE_mono (bindE tgP er sr pp) fun y H1 ⟨dy, S1, L1, r1, s1, e1, p1, x1⟩ => ?_
  unfold oInF at p1
  split at p1
  · rename_i z
    cases r1
    obtain ⟨r, h1, h2⟩ := fd_in F z
    exact ⟨z, r, rfl, rfl, h1, by rw [h2]; exact p1 _ _ _ (.bl _) s1 (Ext.refl _ _)⟩
  · exact p1.elim
theorem se_notInF {x : Str} {q : Addr} {kvs : List (Str × D)} (hg : Gl X x) (hm : X.mg x = some (.ref q)) (hd : (x == ("__debug__" : Str)) = false) (F : FdAt X.K X.w q kvs) (ha : SE LT T X a fa) :
    SE LT T X (.Compare a [.NotIn] [.Name x p] pos) (c1 (oNotInF kvs) fa) := fun W tk => by
  obtain ⟨es, n, kd⟩ := F.kd
  refine (pe_cmpR (op_notIn_kd kd) (ha W tk) (pe_glob (v := .ref q) hg hm rfl hd) rfl).imp fun σ H Q ⟨ρ, S, L, er, sr, pp⟩ => ?_
  refine tE_mono (bindE tgP er sr pp) fun y H1 ⟨dy, S1, L1, r1, s1, e1, p1, x1⟩ => ?_
  unfold oNotInF at p1
  split at p1
  · rename_i z
    cases r1
    obtain ⟨r, h1, h2⟩ := fd_in F z
    exact ⟨z, r, rfl, rfl, h1, by rw [h2]; exact p1 _ _ _ (.bl _) s1 (Ext.refl _ _)⟩
  · exact p1.elim
/-- .. as a test -/
theorem sts_inF {x : Str} {q : Addr} {kvs : List (Str × D)} (hg : Gl X x) (hm : X.mg x = some (.ref q)) (hd : (x == ("__debug__" : Str)) = false) (F : FdAt X.K X.w q kvs) (ha : SE LT T X a fa) :
    STs LT T X (.Compare a [.In] [.Name x p] pos) (tV (c1 (oInF kvs) fa)) := fun W tk => by
  obtain ⟨es, n, kd⟩ := F.kd
  refine (pt_cmpR (op_in_kd kd) (ha W tk) (pe_glob (v := .ref q) hg hm rfl hd) rfl).imp fun σ H Q ⟨ρ, S, L, er, sr, pp⟩ => ?_
  have h : tE X.K LT T (c1 (oInF kvs) fa) W σ H fun x H1 => ∃ k, x = .bl k ∧ Q k H1 := ⟨ρ, S, L, er, sr, post_bl pp⟩
  obtain ⟨ρ, S, L, er, sr, pp⟩ := h
  refine tE_mono (bindE tgP er sr pp) fun y H1 ⟨dy, S1, L1, r1, s1, e1, p1, x1⟩ => ?_
  unfold oInF at p1
  split at p1
  · rename_i z
    cases r1
    obtain ⟨r, h1, h2⟩ := fd_in F z
    exact ⟨z, r, rfl, rfl, h1, by rw [h2]; exact p1 _ _ _ (.bl _) s1 (Ext.refl _ _)⟩
  · exact p1.elim
theorem sts_notInF {x : Str} {q : Addr} {kvs : List (Str × D)} (hg : Gl X x) (hm : X.mg x = some (.ref q)) (hd : (x == ("__debug__" : Str)) = false) (F : FdAt X.K X.w q kvs) (ha : SE LT T X a fa) :
    STs LT T X (.Compare a [.NotIn] [.Name x p] pos) (tV (c1 (oNotInF kvs) fa)) := fun W tk => by
  obtain ⟨es, n, kd⟩ := F.kd
  refine (pt_cmpR (op_notIn_kd kd) (ha W tk) (pe_glob (v := .ref q) hg hm rfl hd) rfl).imp fun σ H Q ⟨ρ, S, L, er, sr, pp⟩ => ?_
  have h : tE X.K LT T (c1 (oNotInF kvs) fa) W σ H fun x H1 => ∃ k, x = .bl k ∧ Q k H1 := ⟨ρ, S, L, er, sr, post_bl pp⟩
  obtain ⟨ρ, S, L, er, sr, pp⟩ := h
  refine tE_mono (bindE tgP er sr pp) fun y H1 ⟨dy, S1, L1, r1, s1, e1, p1, x1⟩ => ?_
  unfold oNotInF at p1
  split at p1
  · rename_i z
    cases r1
    obtain ⟨r, h1, h2⟩ := fd_in F z
    exact ⟨z, r, rfl, rfl, h1, by rw [h2]; exact p1 _ _ _ (.bl _) s1 (Ext.refl _ _)⟩
  · exact p1.elim
/-! ### xs[n::-1] -/
theorem pick_down (items : Array Value) (i : Nat) : slicePick items (some (i : Int)) none (some (-1)) = (items.toList.take (i + 1)).reverse.toArray := by
  have hb : sliceBounds (some (i : Int)) none (some (-1)) items.size = (((min (i + 1) items.size : Nat) : Int) - 1, -1, -1) := by
    have h1 : ¬ (i : Int) < 0 := by omega
    unfold sliceBounds
    simp only [h1, if_false]
    rcases Nat.lt_or_ge i items.size with h | h
    · have h2 : ¬ (items.size : Int) ≤ i := by omega
      have e : ((min (i + 1) items.size : Nat) : Int) - 1 = i := by omega
      rw [e]
      simp
      try omega
    · have e : ((min (i + 1) items.size : Nat) : Int) - 1 = (items.size : Int) - 1 := by omega
      rw [e]
      simp
      try omega
  unfold slicePick
  rw [hb]
  show ((sliceRange (((min (i + 1) items.size : Nat) : Int) - 1) (-1) (-1)).filterMap (items[·]?)).toArray = _
  rw [PySem.W.krv_sliceRange, PySem.W.krv_range, List.filterMap_reverse]
  congr 2
  refine List.ext_getElem? fun j => ?_
  have hf : ∀ n, n ≤ items.size → (List.range n).filterMap (items[·]?) = items.toList.take n := by
    intro n
    induction n with
    | zero => intro _; simp
    | succ n ih =>
      intro hn
      rw [List.range_succ, List.filterMap_append, ih (by omega), List.take_succ]
      congr 1
      have : items[n]? = some items[n] := Array.getElem?_eq_getElem (by omega)
      simp [this]
  rw [hf _ (Nat.min_le_right _ _)]
  rcases Nat.lt_or_ge i items.size with h | h
  · rw [Nat.min_eq_left (by omega)]
  · rw [Nat.min_eq_right (by omega), List.take_of_length_le (by simp), List.take_of_length_le (by simp; omega)]
def tDown (K : PySem.W.Frag) (te tn : TE) : TE := fun σ H Q => te σ H fun x H1 => tPart tn σ H1 fun o H2 => ∃ (q : Addr) (xs : List V) (i : Nat), x = .ref q ∧ o = some (i : Int) ∧ SqL K H2 q xs ∧ ∀ t, H2 t = none → Q (.ref t) (upd H2 t (.lst (xs.take (i + 1)).reverse))
theorem pe_down {te tn : TE} {k : Nat} {p1 p3 : Pos} (he : PE X a te) (hn : PE X b tn) : PE X (.Subscript a (.Slice (some b) none (some (.UnaryOp .USub (.Constant (.int 1) k p1) p2)) p3) pos) (tDown X.K te tn) := by
  constructor
  intro pins s σ H Q I h
  have step : PO X (some (.UnaryOp .USub (.Constant (.int 1) k p1) p2)) (tPart (tUn (rU fun i => .int (-i)) (tC (.int 1)))) := po_some (pe_un un_neg pe_int)
  refine Subscript_ (thn (he.run pins s σ H _ I h) fun va sa ⟨x, Ha, Ia, ra, qa⟩ => wpAny_Slice ?_)
  refine thn ((po_some hn).run pins sa σ Ha _ Ia qa) fun vb sb ⟨o, Hb, Ib, pb, q, xs, i, ex, eo, hq, hQ⟩ => ?_
  subst ex eo
  refine thn (po_none.run pins sb σ Hb (fun o H3 => o = none ∧ H3 = Hb) Ib ⟨rfl, rfl⟩) fun vc sc ⟨u, Hc, Ic, pc, eu, ec⟩ => ?_
  subst eu ec
  refine thn (step.run pins sc σ Hc (fun o H4 => o = some (-1) ∧ H4 = Hc) Ic ⟨1, rfl, -1, rfl, rfl, rfl⟩) fun vd sd ⟨o, Hd, Id, pd, eo, ed⟩ => ?_
  subst eo ed
  cases ra
  let sl : Obj := { cls := .type "slice", data := .fields #[vb, vc, vd] }
  have Ie : Inv X pins σ Hd { sd with heap := sd.heap.push sl } := Id.kept (t' := sd.toks) fun b ob z => Heap.get?_push_of_some _ z
  obtain ⟨its, r, ht, hz⟩ := Ie.list hq
  have hlen := r.length
  show wpAny (model X.prog X.w) X.A (subscriptTail a _ (.ref q) (.ref sd.heap.objs.size)) (EP X pins σ Q) X.xe { sd with heap := sd.heap.push sl }
  have hitem := wpAny_getItem_list_slice (prog := X.prog) (w := X.w) (A := X.A) (E := X.xe) (Q := EP X pins σ Q) ht.isList (Heap.IsSliceOf.new _ vb vc vd) pb pc pd (by decide) (by
    rw [pick_down]
    have hz2 : (xs.take (i + 1)).reverse.length ≤ sizeLine := by
      rw [List.length_reverse, List.length_take]; omega
    refine ⟨.ref _, _, Ie.laid (t' := sd.toks) (o := .lst (xs.take (i + 1)).reverse) (fun b ob z => Heap.get?_push_of_some _ z) (Nat.le_refl _) ⟨hz2, (its.take (i + 1)).reverse, 0, (r.take (i + 1)).reverse, Heap.get?_push_size _ rfl⟩, rfl, hQ _ (Ie.hok.fresh (Nat.le_refl _))⟩) (by rw [List.size_toArray]; omega)
  exact tail_any (ops := [.ref q, .ref sd.heap.objs.size]) ht.isList.typeIs (PySem.slot_list_getitem.lookup) hitem (by with_unfolding_all rfl)
/-- xs[n::-1] -/
def aDown (a b : Ex) : Ar := fun ρ S => (a ρ S).bind fun x S1 => (b ρ S1).bind fun y S2 => match lstOf S2 x, y with
  | some ds, .int i => if 0 ≤ i then .ok (ds.take (i.toNat + 1)).reverse S2 else .bad
  | _, _ => .bad
theorem sls_down {k : Nat} {p1 p3 : Pos} (ha : SE LT T X a fa) (hb : SE LT T X b fb) : SLs LT T X (.Subscript a (.Slice (some b) none (some (.UnaryOp .USub (.Constant (.int 1) k p1) p2)) p3) pos) (aDown fa fb) := fun W tk => (pe_down (ha W tk) (hb W tk)).imp fun σ H Q ⟨ρ, S, L, er, sr, p⟩ =>
  tE_mono (bindE tgPL er sr p) fun x H1 ⟨dx, S1, L1, r1, s1, e1, p1, x1⟩ => tE_mono (bindE tgPL e1 s1 p1) fun y H2 ⟨dy, S2, L2, r2, s2, e2, p2, x2⟩ => by
    split at p2
    · rename_i ds i hds
      split at p2
      · rename_i hi
        obtain ⟨n, rfl⟩ := Int.eq_ofNat_of_zero_le hi
        cases r2
        obtain ⟨q, vs, rfl, rr, hq⟩ := lst_of s2 hds (r1.ext s1 x2)
        refine ⟨_, rfl, q, vs, n, rfl, rfl, hq, fun t ht => ?_⟩
        exact p2 t _ _ L2 upd_same (s2.notNone ht) (fun o ho _ _ => by rw [ht] at ho; cases ho) ((rr.take (n + 1)).rev.ext s2 (Ext.new ht)) (s2.new ht) (Ext.new ht)
      · exact p2.elim
    · exact p2.elim
end
end Pf
end

section
set_option Elab.async false
set_option linter.all false
set_option maxRecDepth 100000
set_option maxHeartbeats 4000000
/-! P13d: repr of data: none, flags, numbers, texts, tuples of such. -/
namespace Pf
open PySem PySem.Spec PyProof.Rows L2
mutual
/-- a datum as the model's plain data -/
def pdD : D → Option PyData
  | .non => some .none
  | .bl b => some (.bool b)
  | .int i => some (.int i)
  | .str x => some (.str x)
  | .tup _ ds => match pdDs ds with
    | some xs => some (.tuple xs)
    | none => none
  | _ => none
def pdDs : List D → Option (List PyData)
  | [] => some []
  | d :: ds => match pdD d with
    | some x => match pdDs ds with
      | some xs => some (x :: xs)
      | none => none
    | none => none
end
/-- its text, where it is short enough and not too deep -/
def reprD (d : D) : Option PySem.Str := match pdD d with
  | some p => if p.showable = true ∧ p.hasDict = false ∧ p.depth ≤ 50 ∧ p.shown.length ≤ sizeLine then some p.shown else none
  | none => none
def oRepr : List D → Store → R D := fun ds S => match ds with
  | [d] => match reprD d with
    | some x => .ok (.str x) S
    | none => .bad
  | _ => .bad
section
variable {K : PySem.W.Frag} {LT : XAt} {L : List Addr} {H : Hp} {P : Program} {w : World} {h : Heap}
mutual
theorem reads_of (hok : HOk P w H h) (KX : K.In h) : ∀ {d : D} {v : V} {u : Value} {p : PyData}, RepV K LT L H d v → RelV v u → pdD d = some p → ∃ as, Reads h u p as
  | _, _, u, p, .non, ru, e => by
    unfold pdD at e
    cases e
    obtain rfl : u = Value.none := ru
    exact ⟨[], .none⟩
  | _, _, u, p, .bl b, ru, e => by
    unfold pdD at e
    cases e
    obtain rfl : u = Value.bool b := ru
    exact ⟨[], .bool b⟩
  | _, _, u, p, .int i, ru, e => by
    unfold pdD at e
    cases e
    obtain ⟨t, rfl⟩ := ru
    exact ⟨[], .int i t⟩
  | _, _, u, p, .str x, ru, e => by
    unfold pdD at e
    cases e
    obtain ⟨t, rfl⟩ := ru
    exact ⟨[], .str x t⟩
  | _, _, u, p, .tup (a := a) hq _ _ rs, ru, e => by
    unfold pdD at e
    split at e
    · rename_i xs hxs
      cases e
      obtain rfl : u = Value.ref a := ru
      obtain ⟨its, o, n, hv, e1, e2, e3⟩ := sqT_at hok KX hq
      obtain ⟨as, r⟩ := readsAll_of hok KX rs hv hxs
      exact ⟨as, .tuple e1 e2 e3 (by simpa using r)⟩
    · cases e
  | _, _, _, _, .rol _ _, _, e => by unfold pdD at e; cases e
  | _, _, _, _, .ref _, _, e => by unfold pdD at e; cases e
  | _, _, _, _, .clo _ _ _ _, _, e => by unfold pdD at e; cases e
  | _, _, _, _, .exn _, _, e => by unfold pdD at e; cases e
theorem readsAll_of (hok : HOk P w H h) (KX : K.In h) : ∀ {ds : List D} {vs : List V} {us : List Value} {ps : List PyData}, RepVs K LT L H ds vs → Vals vs us → pdDs ds = some ps → ∃ as, ReadsAll h us ps as
  | _, _, us, ps, .nil, ru, e => by
    unfold pdDs at e
    cases e
    cases ru
    exact ⟨[], .nil⟩
  | _, _, us, ps, .cons r1 rs, ru, e => by
    unfold pdDs at e
    split at e
    · rename_i x hx
      split at e
      · rename_i xs hxs
        cases e
        cases ru with
        | cons ru1 rus =>
          obtain ⟨as, q1⟩ := reads_of hok KX r1 ru1 hx
          obtain ⟨bs, q2⟩ := readsAll_of hok KX rs rus hxs
          exact ⟨as ++ bs, .cons q1 q2⟩
      · cases e
    · cases e
end
end
/-- the built-in, of any datum that is read -/
theorem repr_any {prog : Program} {w : World} {A : Around} {E : Value → Shared → Prop} {s : Shared} {v : Value} {d : PyData} {as : List Addr} {Q : Value → Shared → Prop} (r : Reads s.heap v d as) (hs : d.showable = true) (hd : d.hasDict = false) (hg : A.guards = some []) (hu : A.units + (d.depth + 1) < cLine)
    (hsz : d.shown.length ≤ sizeLine) (hQ : ∀ h' u tk, (∀ b o, s.heap.get? b = some o → h'.get? b = some o) → Q (.str d.shown u) { s with heap := h', toks := tk }) : wpAny (model prog w) A (call (.builtin "repr") [v]) Q E s := by
  cases r with
  | none => exact PySem.P.repr_of_none (hQ s.heap _ _ fun _ _ e => e)
  | bool b => exact PySem.P.repr_of_bool (hQ s.heap _ _ fun _ _ e => e)
  | int i t =>
    have q : i.natAbs.log2 < 1920 := of_decide_eq_true hs
    exact PySem.P.repr_of_int q (hQ s.heap _ _ fun _ _ e => e)
  | str x t => exact PySem.P.repr_of_str (hQ s.heap _ _ fun _ _ e => e) hsz
  | list h1 h2 h3 h4 => exact repr_of_reads' (.list h1 h2 h3 h4) hs (fun e => by rw [hd] at e; cases e) hg hu (fun _ _ e => e) hQ hsz
  | tuple h1 h2 h3 h4 => exact repr_of_reads' (.tuple h1 h2 h3 h4) hs (fun e => by rw [hd] at e; cases e) hg hu (fun _ _ e => e) hQ hsz
  | dict h1 h2 h3 h4 h5 => cases hd
section
variable {LT : XAt} {T : List (Addr × Str)} {X : Cx}
theorem cr_repr {k : Nat} (hr : RoomG k X.A) : CallR X (.builtin "repr") (rC X.K LT T oRepr) := by
  intro pins s σ H xs us Q I r h
  obtain ⟨ds, S, L, W, rs, sr, p⟩ := h
  unfold oRepr at p
  split at p
  · rename_i d
    split at p
    · rename_i x hx
      unfold reprD at hx
      split at hx
      · rename_i pd hpd
        split at hx
        · rename_i hc
          cases hx
          obtain ⟨v, rfl, rv⟩ := rs.one
          obtain ⟨u, rfl, ru⟩ := vals1 r
          obtain ⟨as, q⟩ := reads_of I.hok I.kIn rv ru hpd
          have hun := hr.un
          refine repr_any q hc.1 hc.2.1 hr.gd (by have := hc.2.2.1; omega) hc.2.2.2 fun h' u' tk hk => ?_
          exact ⟨.str pd.shown, H, I.kept hk, ⟨u', rfl⟩, p _ _ _ (.str _) sr (Ext.refl _ _)⟩
        · cases hx
      · cases hx
    · exact p.elim
  · exact p.elim
end
end Pf
end

section
set_option Elab.async false
set_option linter.all false
set_option maxRecDepth 100000
set_option maxHeartbeats 1000000
/-! P14: a text read as a combinator. -/
namespace Pf
open PySem PySem.Spec PyProof.Rows L2
/-- what a global name is -/
inductive GI where
  | fn (i np : Nat) | cls | val (d : D) | bi | fd (kvs : List (Str × D)) | tk
structure TX where
  N : List Str
  G : List (Str × GI)
  CT : CTab
  qual : Str
/-- calls, loops go; a def's own frame; an error at hand; statements -/
structure Md where
  calm : Bool
  top : Bool
  ev : Bool
  stm : Bool
def ixOf (x : Str) : List Str → Option Nat
  | [] => none
  | y :: r => if y = x then some 0 else (ixOf x r).map (· + 1)
def visB (sc : Scope) (x : Str) : Bool := match sc.names.lookup x with
  | some .local => true
  | some .cell => true
  | some .free => true
  | _ => false
def glB (sc : Scope) (x : Str) : Bool := match sc.names.lookup x with
  | some .globalImplicit => true
  | _ => false
def locB (sc : Scope) (x : Str) : Bool := match sc.names.lookup x with
  | some .local => true
  | some .cell => true
  | _ => false
def okN (x : Str) : Bool := !(x == ("__debug__" : Str)) && !(x == ("__classdict__" : Str)) && !decide (x = "__name__")
def giOf (t : TX) (sc : Scope) (x : Str) : Option GI := if okN x = true ∧ glB sc x = true then t.G.lookup x else none
/-- a dict of the module -/
def fdOf (t : TX) (sc : Scope) (e : Expr) : Option (List (Str × D)) := match e with
  | .Name x _ => (match giOf t sc x with
    | some (.fd kvs) => some kvs
    | _ => none)
  | _ => none
/-- a def whose tuples are keys -/
def ownB (t : TX) : Bool := match t.G.lookup ("()" ++ t.qual) with
  | some .tk => true
  | _ => false
/-- a name whose dict has tuples as keys -/
def tkB (t : TX) (x : Str) : Bool := match t.G.lookup ("{}" ++ t.qual ++ x) with
  | some .tk => true
  | _ => false
def isDict0 : Expr → Bool
  | .Dict [] [] _ => true
  | _ => false
def oTupW (b : Bool) : List D → Store → R D := if b = true then oTupO else oTup
def dCmpF (op : CmpOp) (kvs : List (Str × D)) (fa : Option Ex) : Option Ex := match op with
  | .In => fa.map (c1 (oInF kvs))
  | .NotIn => fa.map (c1 (oNotInF kvs))
  | _ => none
def dConst : Const → Option D
  | .int i => some (.int i)
  | .bool b => some (.bl b)
  | .none => some .non
  | .str s => some (.str s)
  | _ => none
def dName (t : TX) (sc : Scope) (x : Str) : Option Ex :=
  if okN x = true then (if visB sc x = true then (ixOf x t.N).map cV else match giOf t sc x with
    | some (.val d) => some (cD d)
    | _ => none) else none
def dBin : Operator → Option (D → D → Store → R D)
  | .Add => some oAddA
  | .Sub => some oSub
  | .Mult => some oMulA
  | .FloorDiv => some oDiv
  | .Mod => some oMod
  | .Pow => some oPow
  | _ => none
def oIsNon (x y : D) (S : Store) : R D := if isNon y = true then oIsN x S else .bad
def oNotNon (x y : D) (S : Store) : R D := if isNon y = true then oNotN x S else .bad
def dCmp (op : CmpOp) (b : Expr) : Option (D → D → Store → R D) := match op with
  | .Eq => some oEq
  | .NotEq => some oNe
  | .Lt => some oLt
  | .LtE => some oLe
  | .Gt => some oGt
  | .GtE => some oGe
  | .In => some oIn
  | .NotIn => some oNotIn
  | .Is => (match b with
    | .Constant .none _ _ => some oIsNon
    | .Constant (.bool _) _ _ => some oIsB
    | _ => none)
  | .IsNot => (match b with
    | .Constant .none _ _ => some oNotNon
    | .Constant (.bool _) _ _ => some oNotB
    | _ => none)
def listy : Expr → Bool
  | .List _ _ => true
  | .ListComp _ _ _ _ => true
  | .BinOp a .Add b _ => (match a with | .List _ _ => true | .ListComp _ _ _ _ => true | _ => false) || (match b with | .List _ _ => true | .ListComp _ _ _ _ => true | _ => false)
  | .Call (.Name x _) _ _ _ => decide (x = "list")
  | .Subscript _ (.Slice _ _ (some _) _) _ => true
  | _ => false
def isSliceE : Expr → Bool
  | .Slice _ _ _ _ => true
  | _ => false
def isSetE : Expr → Bool
  | .Set _ _ _ => true
  | _ => false
def isCompE : Expr → Bool
  | .ListComp _ _ _ _ => true
  | .SetComp _ _ _ _ => true
  | .DictComp _ _ _ _ _ => true
  | _ => false
def isCallE : Expr → Bool
  | .Call _ _ _ _ => true
  | _ => false
def isLamE : Expr → Bool
  | .Lambda _ _ _ _ => true
  | _ => false
/-- a test that is a value's -/
def plainT : Expr → Bool
  | .Call _ _ _ _ => true
  | .Name _ _ => true
  | .Constant _ _ _ => true
  | .Subscript _ _ _ => true
  | _ => false
/-- the names that comprehensions bind within -/
def bnd : Nat → Expr → List Str
  | 0, _ => []
  | n + 1, e => match e with
    | .BoolOp _ es _ => (es.map (bnd n)).flatten
    | .BinOp a _ b _ => bnd n a ++ bnd n b
    | .UnaryOp _ a _ => bnd n a
    | .IfExp a b c _ => bnd n a ++ bnd n b ++ bnd n c
    | .ListComp e gs sc _ => ((sc.names.filter fun y => match y.2 with | .local => true | .cell => true | _ => false).map (·.1)) ++ bnd n e ++ (gs.map fun g => bnd n g.iter ++ (g.ifs.map (bnd n)).flatten).flatten
    | .Compare a _ bs _ => bnd n a ++ (bs.map (bnd n)).flatten
    | .Call f es _ _ => bnd n f ++ (es.map (bnd n)).flatten
    | .Attribute a _ _ => bnd n a
    | .Subscript a b _ => bnd n a ++ bnd n b
    | .List es _ => (es.map (bnd n)).flatten
    | .Tuple es _ _ => (es.map (bnd n)).flatten
    | .Slice a b c _ => (a.map (bnd n)).getD [] ++ (b.map (bnd n)).getD [] ++ (c.map (bnd n)).getD []
    | _ => []
def dedup : List Str → List Str
  | [] => []
  | x :: r => x :: (dedup r).filter fun y => !decide (y = x)
def simpleP (p : Arguments) : Bool := p.posonlyargs.isEmpty && p.vararg.isNone && p.kwonlyargs.isEmpty && p.kw_defaults.isEmpty && p.kwarg.isNone && p.defaults.isEmpty && decide (p.args.length ≤ 1)
def freeOf (sc : Scope) : List Str := (sc.names.filter fun y => match y.2 with | .free => true | _ => false).map (·.1)
def mkLam (qual : Str) (params : Arguments) (body : Expr) (scope : Scope) : LamI :=
  ⟨qual, params, body, scope, params.args.map (·.arg), freeOf scope, dedup (params.args.map (·.arg) ++ freeOf scope ++ bnd 60 body)⟩
def ixs (N : List Str) : List Str → Option (List Nat)
  | [] => some []
  | x :: r => (ixOf x N).bind fun i => (ixs N r).map (i :: ·)
/-- a lambda's text is served -/
def lamB (li : LamI) : Bool := NdefX.nscB li.N li.ps li.fr li.scope && simpleP li.params && decide (li.ps = li.params.args.map (·.arg))
def ownOf (N : List Str) (sc : Scope) : List (Str × Nat) := sc.names.filterMap fun y => match y.2 with
  | .local => (ixOf y.1 N).map fun i => (y.1, i)
  | .cell => (ixOf y.1 N).map fun i => (y.1, i)
  | _ => none
abbrev gTupN (n : Nat) (gs : Tgs) : Tg := fun d ρ => match d with | .tup _ ds => if ds.length = n then gs ds ρ else none | _ => none
def dTys : List Str := ["int", "bool", "tuple", "str", "dict", "list"].map Str.ofString
def tyName (y : Str) : Option String := ["int", "bool", "tuple", "str", "dict", "list"].find? fun n => decide (Str.ofString n = y)
def biOk (t : TX) (sc : Scope) (x : Str) : Bool := match giOf t sc x with
  | some .bi => true
  | _ => false
def cMA (o oT : D → List D → Store → R D) (a : Ex) (as : Ar) : Ex := fun ρ S => (a ρ S).bind fun x S1 => match x with
  | .tup .hard ds => (as ρ S1).bind fun ys S2 => oT (.tup .hard ds) ys S2
  | x => if (lstOf S1 x).isSome = true then (as ρ S1).bind fun ys S2 => o x ys S2 else .bad
def dK (k : List D → Store → R D) (ly : Bool) (fl fa : Option Ar) : Option Ex := if ly = true then fl.map fun f => cK k f else fa.map fun f => cN (oK k) f
/-- a built-in with one argument: read as a fresh list, as a value -/
def dB1 (m : Md) (x : Str) (ly : Bool) (fl fa : Option Ar) : Option Ex :=
  if x = "len" then (if ly = true then fl.map fun f => cK kLen f else fa.map fun f => cN oLen f)
  else if x = "all" then (if m.calm = true then dK kAll ly fl fa else none)
  else if x = "any" then (if m.calm = true then dK kAny ly fl fa else none)
  else if x = "sum" then (if m.calm = true then dK kSum ly fl fa else none)
  else if x = "max" then (if m.calm = true then dK kMax ly fl fa else none)
  else if x = "min" then (if m.calm = true then dK kMin ly fl fa else none)
  else if x = "tuple" then (if ly = true then fl.map fun f => cK kTup f else fa.map fun f => cN oTupOf f)
  else if x = "abs" then fa.map fun f => cN oAbs f
  else if x = "int" then fa.map fun f => cN oInt f
  else if x = "repr" then (if m.calm = true then fa.map fun f => cN oRepr f else none)
  else none
def dIs (t : TX) (m : Md) (sc : Scope) (a b : Expr) (fa : Option Ex) : Option Ex := match b with
  | .Name y _ => (match tyName y with
    | some ty => if biOk t sc y = true ∧ notStar a = true then fa.map fun fa => c1 (oIsI ty) fa else none
    | none => if m.ev = true ∧ (t.CT.lookup y).isSome = true ∧ glB sc y = true ∧ okN y = true ∧ notStar a = true then fa.map fun fa => c1 (oIsE t.CT y) fa else none)
  | _ => none
def dB2 (t : TX) (m : Md) (sc : Scope) (x : Str) (a b : Expr) (fa : Option Ex) (fs : Option Ar) : Option Ex :=
  if x = "isinstance" then dIs t m sc a b fa
  else if x = "max" then (if m.calm = true then fs.map fun f => cN oMax2 f else none)
  else if x = "min" then (if m.calm = true then fs.map fun f => cN oMin2 f else none)
  else none
noncomputable section
variable (t : TX) (C : Calls)
mutual
def dE : Nat → Md → Scope → Expr → Option Ex
  | 0, _, _, _ => none
  | n + 1, m, sc, e => if listy e = true then (dL n m sc e).map cNew else match e with
    | .Constant c _ _ => (dConst c).map cD
    | .Name x _ => dName t sc x
    | .BinOp a op b _ => (dBin op).bind fun o => (dE n m sc a).bind fun fa => (dE n m sc b).map fun fb => c2 o fa fb
    | .UnaryOp .USub a _ => (dE n m sc a).map (c1 oNeg)
    | .UnaryOp .Not a _ => (dE n m sc a).map (c1 oNot)
    | .Compare a [op] [b] _ => if isSetE b = true then none else match fdOf t sc b with
      | some kvs => dCmpF op kvs (dE n m sc a)
      | none => (dE n m sc a).bind fun fa => if listy b = true then (match op with
        | .Eq => (dL n m sc b).map fun fb => cEqL oEq fa fb
        | .NotEq => (dL n m sc b).map fun fb => cEqL oNe fa fb
        | op => (dCmp op b).bind fun o => (dE n m sc b).map fun fb => c2 o fa fb) else (dCmp op b).bind fun o => (dE n m sc b).map fun fb => c2 o fa fb
    | .Compare a [op, op'] [b, c] _ => if isSetE c = true then none else (dCmp op b).bind fun o => (dCmp op' c).bind fun o' => (dE n m sc a).bind fun fa => (dE n m sc b).bind fun fb => (dE n m sc c).map fun fc => cChain o o' fa fb fc
    | .BoolOp _ [a] _ => dE n m sc a
    | .BoolOp .And (a :: b :: r) p => (dE n m sc a).bind fun fa => (dE n m sc (.BoolOp .And (b :: r) p)).map fun fb => cAnd fa fb
    | .BoolOp .Or (a :: b :: r) p => (dE n m sc a).bind fun fa => (dE n m sc (.BoolOp .Or (b :: r) p)).map fun fb => cOr fa fb
    | .IfExp c a b _ => (dT n m sc c).bind fun fc => (dE n m sc a).bind fun fa => (dE n m sc b).map fun fb => cIf fc fa fb
    | .Tuple es _ _ => (dA n m sc es).map (cN (oTupW (ownB t)))
    | .Subscript a (.Slice lo hi none _) _ => (dE n m sc a).bind fun fa => (dP n m sc lo).bind fun fl => (dP n m sc hi).map fun fh => cCut fa fl fh
    | .Subscript a b _ => if isSliceE b = true then none else match fdOf t sc a with
      | some kvs => (dE n m sc b).map (c1 (oIxF kvs))
      | none => (dE n m sc b).bind fun fb => if listy a = true then (dL n m sc a).map fun fa => cIxL fa fb else (dE n m sc a).map fun fa => c2 oIx fa fb
    | .Call (.Name x _) args [] _ => dC n m sc x args
    | .Dict [] [] _ => some cDictK
    | .Call (.Attribute o x ap) [] [] cp => if isCallE o = true ∨ ¬ (ap.endLine == cp.line) = true then none else (dE n m sc o).bind fun fo => if x = "pop" then some (cM (m0 oPop) fo aNil) else none
    | .Call (.Attribute o x ap) (e :: es) [] cp => if isCallE o = true ∨ ¬ (ap.endLine == cp.line) = true ∨ ¬ es.length < 20 ∨ notStar e = false then none else (dE n m sc o).bind fun fo => (dA n m sc (e :: es)).bind fun fs =>
        if x = "append" then some (cM (m1 oAppend) fo fs) else if x = "extend" then some (cM (m1 oExtend) fo fs) else if x = "index" then some (cMA (m1 oIndex) (m1 oIndexT) fo fs) else if x = "count" then some (cMA (m1 oCount) (m1 oCountT) fo fs) else none
    | _ => none
def dC : Nat → Md → Scope → Str → List Expr → Option Ex
  | 0, _, _, _, _ => none
  | n + 1, m, sc, x, args => if okN x = true then (if visB sc x = true then (if m.calm = true then (ixOf x t.N).bind fun i => (dA n m sc args).map fun fs => cCallV C i fs else none) else match giOf t sc x with
    | some (.fn i _) => if m.calm = true then (if args.any isLamE = true then (if m.top = true then (dAL n m sc args).map fun (q : Ar × LamI × List Nat) => cCallL C i q.1 q.2.1 q.2.2 else none) else (dA n m sc args).map fun fs => cCall C i fs) else none
    | some .bi => (match args with
      | [a] => dB1 m x (listy a) (dL n m sc a) (dA n m sc [a])
      | [a, b] => dB2 t m sc x a b (dE n m sc a) (dA n m sc [a, b])
      | _ => none)
    | _ => none) else none
def dT : Nat → Md → Scope → Expr → Option Ts
  | 0, _, _, _ => none
  | n + 1, m, sc, e => match e with
    | .UnaryOp .Not a _ => (dT n m sc a).map tNot
    | .BoolOp .And [a] _ => dT n m sc a
    | .BoolOp .Or [a] _ => dT n m sc a
    | .BoolOp .And (a :: b :: r) p => (dT n m sc a).bind fun fa => (dT n m sc (.BoolOp .And (b :: r) p)).map fun fb => tAnd fa fb
    | .BoolOp .Or (a :: b :: r) p => (dT n m sc a).bind fun fa => (dT n m sc (.BoolOp .Or (b :: r) p)).map fun fb => tOr fa fb
    | .Compare a [op] [b] _ => if isSetE b = true then none else match fdOf t sc b with
      | some kvs => (dCmpF op kvs (dE n m sc a)).map tV
      | none => (dE n m sc a).bind fun fa => if listy b = true then (match op with
        | .Eq => (dL n m sc b).map fun fb => tV (cEqL oEq fa fb)
        | .NotEq => (dL n m sc b).map fun fb => tV (cEqL oNe fa fb)
        | op => (dCmp op b).bind fun o => (dE n m sc b).map fun fb => tV (c2 o fa fb)) else (dCmp op b).bind fun o => (dE n m sc b).map fun fb => tV (c2 o fa fb)
    | .Compare a [op, op'] [b, c] _ => if isSetE c = true then none else (dCmp op b).bind fun o => (dCmp op' c).bind fun o' => (dE n m sc a).bind fun fa => (dE n m sc b).bind fun fb => (dE n m sc c).map fun fc => tV (cChain o o' fa fb fc)
    | e => if plainT e = true then (dE n m sc e).map tV else none
def dA : Nat → Md → Scope → List Expr → Option Ar
  | 0, _, _, _ => none
  | n + 1, m, sc, es => match es with
    | [] => some aNil
    | e :: es => if notStar e = true then (dE n m sc e).bind fun fe => (dA n m sc es).map fun fs => aCons fe fs else none
def dAL : Nat → Md → Scope → List Expr → Option (Ar × LamI × List Nat)
  | 0, _, _, _ => none
  | n + 1, m, sc, es => match es with
    | [.Lambda params body scope _] => if lamB (mkLam (t.qual ++ "<lambda>") params body scope) = true ∧ (scope.names.all fun y => match y.2 with | .free => decide (sc.names.lookup y.1 = some .cell) | _ => true) = true
        then (ixs t.N (freeOf scope)).map fun js => (aNil, mkLam (t.qual ++ "<lambda>") params body scope, js) else none
    | e :: es => if notStar e = true then (dE n m sc e).bind fun fe => (dAL n m sc es).map fun (q : Ar × LamI × List Nat) => (aCons fe q.1, q.2.1, q.2.2) else none
    | [] => none
def dP : Nat → Md → Scope → Option Expr → Option Pt
  | 0, _, _, _ => none
  | n + 1, m, sc, o => match o with
    | none => some pNo
    | some e => (dE n m sc e).map pSome
def dL : Nat → Md → Scope → Expr → Option Ar
  | 0, _, _, _ => none
  | n + 1, m, sc, e => match e with
    | .List es _ => (dA n m sc es).map aDisp
    | .ListComp elt [⟨tg, iter, ifs, 0⟩] scope _ => if m.calm = true ∧ isSetE iter = false ∧ blkC t.N sc scope (ownOf t.N scope) = true then
        (dI n m sc tg iter).bind fun it => (dG n (fun x => locB scope x) tg).bind fun (g : Tg × List Nat) => if g.2.all (fun i => decide (i ∈ (ownOf t.N scope).map fun (p : Str × Nat) => p.2)) = true then (match ifs with
          | [] => some tYes
          | [c] => dT n ⟨m.calm, false, false, false⟩ (relS scope sc) c
          | _ => none).bind fun ft => (dE n ⟨m.calm, false, false, false⟩ (relS scope sc) elt).map fun fe => aComp ((ownOf t.N scope).map fun (p : Str × Nat) => p.2) it g.1 ft fe else none
        else none
    | .BinOp a .Add b _ => (dO n m sc a).bind fun fa => (dO n m sc b).map fun fb => aCat fa fb
    | .Call (.Name x _) [.Call (.Name y _) [b] [] _] [] _ => if x = "list" ∧ y = "range" ∧ m.calm = true ∧ biOk t sc x = true ∧ biOk t sc y = true ∧ notStar b = true then (dE n m sc b).map fun fb => aRg (cD (.int 0)) fb else none
    | .Call (.Name x _) [.Call (.Name y _) [a, b] [] _] [] _ => if x = "list" ∧ y = "range" ∧ m.calm = true ∧ biOk t sc x = true ∧ biOk t sc y = true ∧ notStar a = true ∧ notStar b = true then (dE n m sc a).bind fun fa => (dE n m sc b).map fun fb => aRg fa fb else none
    | .Subscript a (.Slice (some b) none (some (.UnaryOp .USub (.Constant (.int 1) _ _) _)) _) _ => (dE n m sc a).bind fun fa => (dE n m sc b).map fun fb => aDown fa fb
    | .Subscript a (.Slice none none (some (.UnaryOp .USub (.Constant (.int 1) _ _) _)) _) _ => if listy a = true then (dL n m sc a).map aRevL else (dE n m sc a).map aRev
    | _ => none
def dO : Nat → Md → Scope → Expr → Option It
  | 0, _, _, _ => none
  | n + 1, m, sc, e => if listy e = true then (dL n m sc e).map iA else (dE n m sc e).map iL
def dI : Nat → Md → Scope → Expr → Expr → Option It
  | 0, _, _, _, _ => none
  | n + 1, m, sc, tg, e => if listy e = true then (dL n m sc e).map iA else match e with
    | .Call (.Name x _) args [] _ => if biOk t sc x = true then (match tg, args with
        | _, [a] => if x = "range" then (if notStar a = true then (dE n m sc a).map iR1 else none) else if x = "enumerate" then (match tg with
            | .Tuple _ _ _ => if notStar a = true then (dE n m sc a).map iEnum else none
            | _ => none) else (dE n m sc e).map iE
        | _, [a, b] => if x = "range" then (if notStar a = true ∧ notStar b = true then (dE n m sc a).bind fun fa => (dE n m sc b).map fun fb => iR fa fb else none) else if x = "zip" then (match tg with
            | .Tuple _ _ _ => if notStar a = true ∧ notStar b = true then (dE n m sc a).bind fun fa => (dE n m sc b).map fun fb => iZip fa fb else none
            | _ => none) else none
        | _, [a, b, .UnaryOp .USub (.Constant (.int 1) _ _) _] => if x = "range" ∧ notStar a = true ∧ notStar b = true then (dE n m sc a).bind fun fa => (dE n m sc b).map fun fb => iRdn fa fb else none
        | _, _ => none) else (dE n m sc e).map iE
    | e => (dE n m sc e).map iE
def dG : Nat → (Str → Bool) → Expr → Option (Tg × List Nat)
  | 0, _, _ => none
  | n + 1, own, e => match e with
    | .Name x _ => if own x = true then (ixOf x t.N).map fun i => (gV i, [i]) else none
    | .Tuple es _ _ => (dGs n own es).map fun (q : Tgs × List Nat) => (gTupN es.length q.1, q.2)
    | _ => none
def dGs : Nat → (Str → Bool) → List Expr → Option (Tgs × List Nat)
  | 0, _, _ => none
  | n + 1, own, es => match es with
    | [] => some (gNil, [])
    | e :: es => if notStar e = true then (dG n own e).bind fun (q : Tg × List Nat) => (dGs n own es).map fun (r : Tgs × List Nat) => (gCons q.1 r.1, q.2 ++ r.2) else none
end
end
end Pf
end

section
set_option Elab.async false
set_option linter.all false
set_option maxRecDepth 100000
set_option maxHeartbeats 1000000
/-! P14b: statements read. -/
namespace Pf
open PySem PySem.Spec PyProof.Rows L2
def isStarE : Expr → Bool
  | .Starred _ _ => true
  | _ => false
/-- which names are stored from the right -/
def swapN (sc : Scope) (ts vs : List Expr) : Option (Option (List Str)) :=
  if (!(ts.length == 2 || ts.length == 3) || vs.length != ts.length) = true then some none
  else if (vs.any fun | .Starred .. => true | _ => false) = true then some none
  else if ((ts.filterMap fun
    | .Name id pos => if (sc.names.lookup id == some .local && pos.line == (ts.head?.map (·.pos.line)).getD 0) = true then some id else none
    | _ => none).length != ts.length || (ts.filterMap fun
    | .Name id pos => if (sc.names.lookup id == some .local && pos.line == (ts.head?.map (·.pos.line)).getD 0) = true then some id else none
    | _ => none).eraseDups.length != (ts.filterMap fun
    | .Name id pos => if (sc.names.lookup id == some .local && pos.line == (ts.head?.map (·.pos.line)).getD 0) = true then some id else none
    | _ => none).length) = true then some none
  else if vs.all (foldedForSure 8) = true then some none
  else if vs.all (constantsAlone 8) = true then none
  else some (some (ts.filterMap fun
    | .Name id pos => if (sc.names.lookup id == some .local && pos.line == (ts.head?.map (·.pos.line)).getD 0) = true then some id else none
    | _ => none))
theorem swapN_ok {env : PySem.Env} {ts vs : List Expr} {k k2 : Nat} {p p2 : Pos} {o : Option (List Str)} (hk : env.scope.kind = .function) (h : swapN env.scope ts vs = some o) : swappedStores [.Tuple ts k p] (.Tuple vs k2 p2) env = pure o := by
  have hb : env.blockKind = .function := by unfold Env.blockKind; rw [hk]; rfl
  unfold swappedStores
  unfold swapN at h
  simp only [Env.kindOf, hb, bne_self_eq_false, Bool.or_false] at h ⊢
  split at h
  · rename_i h1
    cases h
    exact if_pos h1
  · rename_i h1
    refine Eq.trans (if_neg h1) ?_
    split at h
    · rename_i h2
      cases h
      exact if_pos h2
    · rename_i h2
      refine Eq.trans (if_neg h2) ?_
      split at h
      · rename_i h3
        cases h
        exact if_pos h3
      · rename_i h3
        refine Eq.trans (if_neg h3) ?_
        split at h
        · rename_i h4
          cases h
          exact if_pos h4
        · rename_i h4
          refine Eq.trans (if_neg h4) ?_
          split at h
          · cases h
          · rename_i h5
            cases h
            exact if_neg h5
/-- a comprehension whose list the name gets as it is made -/
def swB (sc : Scope) (x : Str) (p : Pos) (e : Expr) : Bool := match e with
  | .ListComp _ _ s _ => sc.names.lookup x == some .local && p.line == e.pos.line && !(s.names.any fun (n, k) => n == x && (k == .local || k == .cell))
  | _ => false
theorem swB_ok {env : PySem.Env} {x : Str} {p : Pos} {e : Expr} {l : Nat} (hk : env.scope.kind = .function) (he : isCompE e = false ∨ ∃ a b c d, e = .ListComp a b c d) : swapsWith e (some (.Name x p)) l env = pure (swB env.scope x p e) := by
  have hb : env.blockKind = .function := by unfold Env.blockKind; rw [hk]; rfl
  rcases he with he | ⟨a, b, c, d, rfl⟩
  · cases e <;> first | rfl | cases he
  · unfold swapsWith swB
    simp only [Env.kindOf, hb, beq_self_eq_true, Bool.true_and]
theorem sw_none {env : PySem.Env} {e : Expr} {l : Nat} {o : Option Expr} (he : isCompE e = false) : swapsWith e o l env = pure false := by
  cases e <;> first | rfl | cases he
theorem sw_tup {env : PySem.Env} {e : Expr} {l : Nat} {ts : List Expr} {k : Nat} {p : Pos} (he : isCompE e = false) : swapsWithSole [.Tuple ts k p] e l env = pure false := by
  cases e <;> first | rfl | cases he
theorem sw_no {env : PySem.Env} {e : Expr} {ts : List Expr} {k : Nat} {p : Pos} (he : ∀ a b c, e ≠ .Tuple a b c) : swappedStores [.Tuple ts k p] e env = pure none := by
  cases e <;> first | rfl | exact absurd rfl (he _ _ _)
theorem sw_sub {env : PySem.Env} {e a b : Expr} {p : Pos} : swappedStores [.Subscript a b p] e env = pure none := by
  cases e <;> rfl
/-- several names at once, stored from the right -/
def dPar (t : TX) (sc : Scope) (ts vs : List Expr) (fs : Option Ar) : Option St := match ts, vs with
  | [.Name x _, .Name y _], [_, _] => (ixOf x t.N).bind fun i => (ixOf y t.N).bind fun j => if i ≠ j ∧ sc.names.lookup x = some .local ∧ sc.names.lookup y = some .local ∧ swapN sc ts vs = some (some [x, y]) then fs.map (sPar (gPar [i, j])) else none
  | [.Name x _, .Name y _, .Name z _], [_, _, _] => (ixOf x t.N).bind fun i => (ixOf y t.N).bind fun j => (ixOf z t.N).bind fun l => if (i ≠ j ∧ i ≠ l ∧ j ≠ l) ∧ sc.names.lookup x = some .local ∧ sc.names.lookup y = some .local ∧ sc.names.lookup z = some .local ∧ swapN sc ts vs = some (some [x, y, z]) then fs.map (sPar (gPar [i, j, l])) else none
  | _, _ => none
def dAsgT (t : TX) (sc : Scope) (ts : List Expr) (e : Expr) (fA : List Expr → Option Ar) (fE : Option Ex) (fG : Option (Tg × List Nat)) : Option St := match e with
  | .Tuple vs _ _ => (match swapN sc ts vs with
    | some (some _) => dPar t sc ts vs (fA vs)
    | some none => fG.bind fun (g : Tg × List Nat) => fE.map (sSet g.1)
    | none => none)
  | _ => fG.bind fun (g : Tg × List Nat) => fE.map (sSet g.1)
def dRaise (t : TX) (sc : Scope) (m : Md) (c : Str) : St := if m.calm = true ∧ m.stm = true then (match giOf t sc c with
  | some .cls => sRaise c
  | _ => sNever) else sNever
noncomputable section
variable (t : TX) (C : Calls)
mutual
def dS : Nat → Md → Scope → Stmt → Option St
  | 0, _, _, _ => none
  | n + 1, m, sc, s => match s with
    | .Expr (.Constant (.str _) _ _) _ => some sNx
    | .Expr e _ => if isCompE e = true then none else (dE t C n m sc e).map sDrop
    | .Assign [.Name x p] e _ => if locB sc x = true then (ixOf x t.N).bind fun i => if (isDict0 e && tkB t x) = true then some (sSet (gV i) cDictT) else if swB sc x p e = true then (dL t C n m sc e).map fun fe => sSet (gV i) (cNew fe)
        else if isCompE e = false ∨ listy e = true then (dE t C n m sc e).map (sSet (gV i)) else none else none
    | .Assign [.Tuple ts k p] e _ => if ¬ (m.calm = true ∧ isCompE e = false) then none else dAsgT t sc ts e (fun vs => dA t C n m sc vs) (dE t C n m sc e) (dG t C n (fun x => locB sc x) (.Tuple ts k p))
    | .Assign [.Subscript o i _] e _ => if isCompE e = true ∨ isSliceE i = true then none else (dE t C n m sc o).bind fun fo => (dE t C n m sc i).bind fun fi => (dE t C n m sc e).map fun fe => sSub oSetL fo fi fe
    | .Return (some e) _ => (dE t C n m sc e).map sRet
    | .Return none _ => some sRetN
    | .If c a b _ => (dT t C n m sc c).bind fun fc => (dSs n m sc a).bind fun fa => (dSs n m sc b).map fun fb => sIf fc fa fb
    | .For tg iter body [] _ => if m.calm = true ∧ m.stm = true ∧ isSetE iter = false then (dI t C n m sc tg iter).bind fun fi => (dG t C n (fun x => locB sc x) tg).bind fun (g : Tg × List Nat) => (dSs n m sc body).map fun fb => sFor fi g.1 fb else none
    | .While c body [] _ => if m.stm = true then (dT t C n m sc c).bind fun fc => (dSs n m sc body).map fun fb => sWhile fc fb else none
    | .Pass _ => some sNx
    | .Break _ => some sBrk
    | .Continue _ => some sCnt
    | .Raise (some (.Call (.Name c _) [] [] _)) none _ => some (dRaise t sc m c)
    | .Raise _ _ _ => some sNever
    | .Try body [.ExceptHandler (some (.Name c _)) (some x) (b :: suite) _] [] [] _ => if m.stm = true ∧ (t.CT.lookup c).isSome = true ∧ glB sc c = true ∧ okN c = true ∧ sc.names.lookup x = some .local then (ixOf x t.N).bind fun i => (dSs n ⟨m.calm, m.top, false, m.stm⟩ sc body).bind fun fb => (dSs n ⟨false, false, true, false⟩ sc (b :: suite)).map fun fs => sTry t.CT fb c i fs else none
    | .Try body (h₀ :: hds) [] [] _ => if m.stm = true then (dSs n ⟨m.calm, m.top, false, m.stm⟩ sc body).bind fun fb => (dHs n sc (h₀ :: hds)).map fun l => sTrys t.CT fb l else none
    | _ => none
def dSs : Nat → Md → Scope → List Stmt → Option St
  | 0, _, _, _ => none
  | n + 1, m, sc, ss => match ss with
    | [] => some sNx
    | [s] => some ((dS n m sc s).getD sNever)
    | s :: r => (dSs n m sc r).map fun b => sSeq ((dS n m sc s).getD sNever) b
def dHs : Nat → Scope → List ExceptHandler → Option (List (Str × St))
  | 0, _, _ => none
  | n + 1, sc, hs => match hs with
    | [] => some []
    | .ExceptHandler (some (.Name c _)) none (b :: suite) _ :: r => if (t.CT.lookup c).isSome = true ∧ glB sc c = true ∧ okN c = true then (dSs n ⟨false, false, false, false⟩ sc (b :: suite)).bind fun fs => (dHs n sc r).map fun l => (c, fs) :: l else none
    | _ => none
end
end
end Pf
end

section
set_option Elab.async false
set_option linter.all false
set_option maxRecDepth 100000
set_option maxHeartbeats 1000000
/-! P15a: leaves of the soundness. -/
namespace Pf
open PySem PySem.Spec PyProof.Rows L2
theorem ob {α β : Type} {o : Option α} {f : α → Option β} {b : β} (h : o.bind f = some b) : ∃ a, o = some a ∧ f a = some b := Option.bind_eq_some_iff.mp h
theorem om {α β : Type} {o : Option α} {f : α → β} {b : β} (h : o.map f = some b) : ∃ a, o = some a ∧ f a = b := Option.map_eq_some_iff.mp h
theorem ob' {α : Type} {β : Type 1} {o : Option α} {f : α → Option β} {b : β} (h : o.bind f = some b) : ∃ a, o = some a ∧ f a = some b := Option.bind_eq_some_iff.mp h
theorem ixOf_ok {x : Str} : ∀ {N : List Str} {i : Nat}, ixOf x N = some i → N[i]? = some x
  | [], _, h => by cases h
  | y :: r, i, h => by
    unfold ixOf at h
    split at h
    · rename_i e; cases h; rw [e]; rfl
    · cases q : ixOf x r with
      | none => rw [q] at h; cases h
      | some j =>
        rw [q] at h
        cases h
        rw [List.getElem?_cons_succ]
        exact ixOf_ok q
theorem vis_ok {sc : Scope} {x : Str} (h : visB sc x = true) : Vis sc x := by
  unfold visB at h
  split at h
  · rename_i e; exact .inl e
  · rename_i e; exact .inr (.inl e)
  · rename_i e; exact .inr (.inr e)
  · cases h
theorem loc_ok {sc : Scope} {x : Str} (h : locB sc x = true) : Loc sc x := by
  unfold locB at h
  split at h
  · rename_i e; exact .inl e
  · rename_i e; exact .inr e
  · cases h
theorem gl_ok {sc : Scope} {x : Str} (h : glB sc x = true) : sc.names.lookup x = some .globalImplicit := by
  unfold glB at h
  split at h
  · assumption
  · cases h
theorem okN_ok {x : Str} (h : okN x = true) : (x == ("__debug__" : Str)) = false ∧ (x == ("__classdict__" : Str)) = false ∧ x ≠ "__name__" := by
  unfold okN at h
  simp only [Bool.and_eq_true, Bool.not_eq_true', decide_eq_false_iff_not] at h
  exact ⟨h.1.1, h.1.2, h.2⟩
theorem bind_simple {qual : Str} {params : Arguments} {body : Expr} {scope : Scope} (hp : simpleP params = true) (cl : List (Str × Addr)) (pm cdv ctv : Value) (us : List Value) (hl : us.length = (params.args.map (·.arg)).length) :
    bindArgs (PySem.W.kla_fn "<lambda>" qual params body scope cl pm cdv ctv) ⟨us, []⟩ = pure ((params.args.map (·.arg)).zip us) := by
  obtain ⟨po, as, va, ko, kd, kw, df⟩ := params
  unfold simpleP at hp
  simp only [Bool.and_eq_true, List.isEmpty_iff, Option.isNone_iff_eq_none, decide_eq_true_eq] at hp
  obtain ⟨⟨⟨⟨⟨⟨h1, h2⟩, h3⟩, h4⟩, h5⟩, h6⟩, h7⟩ := hp
  subst h1 h2 h3 h4 h5 h6
  match as, us, hl, h7 with
  | [], [], _, _ => rfl
  | [a], [u], _, _ =>
    have e : (a.arg == a.arg) = true := by simp
    unfold bindArgs
    simp [List.lookup, seqItems?]
    rfl
  | a :: b :: r, _, _, h7 => simp at h7
theorem lamB_ok {li : LamI} (h : lamB li = true) : LamOk li := by
  unfold lamB at h
  simp only [Bool.and_eq_true, decide_eq_true_eq] at h
  obtain ⟨⟨h1, h2⟩, h3⟩ := h
  exact ⟨NdefX.nscope_by h1, fun cl pm cdv ctv us hl => by rw [h3] at hl ⊢; exact bind_simple h2 cl pm cdv ctv us hl⟩
theorem ixs_ok {N : List Str} : ∀ {xs : List Str} {js : List Nat}, ixs N xs = some js → js.map (fun j => N[j]?) = xs.map some
  | [], js, h => by cases h; rfl
  | x :: r, js, h => by
    obtain ⟨i, h1, h2⟩ := ob h
    obtain ⟨js', h3, rfl⟩ := om h2
    rw [List.map_cons, List.map_cons, ixs_ok h3, ixOf_ok h1]
theorem freeOf_mem {sc : Scope} {y : Str} : y ∈ freeOf sc ↔ (y, NameKind.free) ∈ sc.names := by
  unfold freeOf
  constructor
  · intro h
    obtain ⟨p, hp, e⟩ := List.mem_map.mp h
    obtain ⟨h1, h2⟩ := List.mem_filter.mp hp
    obtain ⟨a, b⟩ := p
    cases e
    cases b with
    | free => exact h1
    | _ => cases h2
  · intro h
    exact List.mem_map.mpr ⟨(y, .free), List.mem_filter.mpr ⟨h, rfl⟩, rfl⟩
theorem defaults_simple {p : Arguments} {env : PySem.Env} (h : simpleP p = true) : defaultsOf p env = ([], []) := by
  obtain ⟨po, as, va, ko, kd, kw, df⟩ := p
  unfold simpleP at h
  simp only [Bool.and_eq_true, List.isEmpty_iff, Option.isNone_iff_eq_none, decide_eq_true_eq] at h
  obtain ⟨⟨⟨⟨⟨⟨h1, h2⟩, h3⟩, h4⟩, h5⟩, h6⟩, h7⟩ := h
  subst h4 h6
  rfl
theorem base_ok {o : Expr} {name : Str} {env : PySem.Env} (h : isCallE o = false) : attributeBase o name env (eval o env) = eval o env := by
  cases o <;> first | rfl | cases h
theorem ix_plain {b : Expr} (h : isSliceE b = false) : PlainIx b := by
  intro o i
  cases b <;> first | rfl | cases h
theorem nomarks {op : CmpOp} {b : Expr} (h : isSetE b = false) : behindInMarks op b = false := by
  cases b <;> first | rfl | cases h
theorem folded_ok {e : Expr} {env : PySem.Env} (h : isSetE e = false) (x : Value) : foldedSetIterable e env x = pure x := by
  cases e <;> first | rfl | cases h
theorem plainT_ok {e : Expr} {env : PySem.Env} (h : plainT e = true) (whole : Sem Value) : isTrue e env whole = (do let v ← whole; standAt e.pos; holding [v] (truthy v)) := by
  cases e <;> first | rfl | cases h
theorem tyName_ok {y : Str} {ty : String} (h : tyName y = some ty) : ty ∈ ["int", "bool", "tuple", "str", "dict", "list"] ∧ y = Str.ofString ty := by
  unfold tyName at h
  have q := List.find?_some h
  simp only [decide_eq_true_eq] at q
  exact ⟨List.mem_of_find?_eq_some h, q.symm⟩
theorem tuple_get {K : PySem.W.Frag} {X : Cx} {pins : List (Addr × Obj)} {σ : L2.St} {H : Hp} {s : Shared} (I : Inv X pins σ H s) {q : Addr} {vs : List V} (hq : SqL X.K H q vs) (hr : (∃ o, H q = some (.frz o (.lst vs))) ∨ H q = some (.lst vs) ∨ ∃ o, X.K.lookup q = some o ∧ o.dict = none) : ∃ o, s.heap.get? q = some o ∧ o.dict = none := by
  rcases hr with ⟨o, h⟩ | h | ⟨o, h1, h2⟩
  · obtain ⟨h1, _, its, n, _, h2⟩ := I.hok q _ h
    exact ⟨_, h2, rfl⟩
  · obtain ⟨_, its, n, _, h2⟩ := I.hok q _ h
    exact ⟨_, h2, rfl⟩
  · exact ⟨o, I.kIn _ _ h1, h2⟩
section
variable {LT : XAt} {T : List (Addr × Str)} {X : Cx} {e o : Expr} {es : List Expr} {fa : Ex} {fs : Ar} {apos cpos : Pos}
theorem lst_none {L : List Addr} {H : Hp} {S : Store} {pins : List (Addr × Obj)} {σ : L2.St} {s : Shared} (I : Inv X pins σ H s) (sr : SR X.K LT T L S H) {d : D} {v : V} {ds : List D} (h : lstOf S d = some ds) (r : RepV X.K LT L H d v) :
    ∃ q vs, v = .ref q ∧ SqL X.K H q vs ∧ ∃ ob, s.heap.get? q = some ob ∧ ob.dict = none := by
  unfold lstOf at h
  cases r with
  | @rol a vs ds' hq rr =>
    refine ⟨a, vs, rfl, hq.sq, tuple_get (K := X.K) I hq.sq ?_⟩
    rcases hq with z | ⟨o, its, n, z1, z2, z3, _⟩
    · exact .inl z
    · exact .inr (.inr ⟨o, z1, z3⟩)
  | @ref n a hl =>
    obtain ⟨mo, hs, ro⟩ := sr.at_ hl
    dsimp only at h
    rw [hs] at h
    cases mo with
    | lst ds' =>
      obtain ⟨vs, h1, h2, _⟩ := ro
      exact ⟨a, vs, rfl, SqL.of h1, tuple_get (K := X.K) I (SqL.of h1) (.inr (.inl h1))⟩
    | dK _ => cases h
    | dT _ => cases h
  | _ => cases h
/-- a method of a list, or of a tuple that is known to have no dict -/
theorem se_methA {name : Str} {id idT : String} {op opT : D → List D → Store → R D} (slot : Slot "list" name id) (slotT : Slot "tuple" name idT) (hty : typeOf (.builtin id) = pure (.type "method_descriptor")) (htyT : typeOf (.builtin idT) = pure (.type "method_descriptor"))
    (hm : MtR X id (rM X.K LT T op)) (hmT : MtR X idT (rM X.K LT T opT)) (hbase : attributeBase o name X.env (eval o X.env) = eval o X.env) (hline : (apos.endLine == cpos.line) = true)
    (h1 : (e :: es).all notStar = true) (h2 : (e :: es).length < 30) (ho : SE LT T X o fa) (ha : SAr LT T X (e :: es) fs) : SE LT T X (.Call (.Attribute o name apos) (e :: es) [] cpos) (cMA op opT fa fs) := fun W tk => by
  have h1' := h1
  rw [List.all_cons, Bool.and_eq_true] at h1'
  refine ⟨fun pins s σ H Q I ⟨ρ, S, L, er, sr, p⟩ => ?_⟩
  have q0 := (ho W tk).run pins s σ H _ I (bindE tgP er sr p)
  refine wpAny_Call_method_late hbase (few_of h1 h2) hline rfl (thn q0 fun v s1 ⟨x, H1, I1, rv, dx, S1, L1, r1, sr1, e1, p1, x1⟩ => ?_)
  split at p1
  · rename_i ds
    cases r1 with
    | @tup _ a vs _ hq hd hown rr =>
      obtain ⟨oT, hT, hTd⟩ := hd rfl
      cases rv
      obtain ⟨ho1, _⟩ := I1.hok a _ hT
      obtain ⟨its, _, pl, _⟩ := I1.tuple hq
      have hty' : s1.TypeIs (.ref a) "tuple" := by
        obtain ⟨o', ho', hc', _⟩ := pl
        exact ⟨o', ho', hc'⟩
      refine ⟨"tuple", idT, PySem.F.plainAttrs_tuple, slotT, htyT, hty', fun a' ea => (by cases ea; exact ⟨oT, ho1, hTd⟩), ?_⟩
      have hA := (ha W tk).run cpos pins s1 σ H1 _ I1 (bindA tgP e1 sr1 p1)
      rw [star_cons h1'.1] at hA ⊢
      refine Calls.callWith_builtin (by show (false || (backTo cpos (starEach es X.env)).any (·.1)) = false; rw [star_any h1'.2] <;> rfl) (Calls.evalArgs_plain ?_)
      exact thn hA fun us s2 ⟨ws, H2, I2, r2, es2, S2, L2, r3, sr2, e2, p2, x2⟩ => hmT pins s2 σ H2 (.ref a) ws _ us Q I2 rfl r2 ⟨_, es2, S2, L2, _, (RepV.tup hq hd hown rr).ext sr1 x2, r3, sr2, p2⟩
  · split at p1
    · rename_i hl
      obtain ⟨ds, hds⟩ := Option.isSome_iff_exists.mp hl
      obtain ⟨q, vs, rfl, hq, hob⟩ := lst_none I1 sr1 hds r1
      cases rv
      obtain ⟨its, _, pl, _⟩ := I1.list hq
      have hty' : s1.TypeIs (.ref q) "list" := by
        obtain ⟨o', ho', hc', _⟩ := pl.isList
        exact ⟨o', ho', hc'⟩
      refine ⟨"list", id, PySem.F.plainAttrs_list, slot, hty, hty', fun a' ea => (by cases ea; exact hob), ?_⟩
      have hA := (ha W tk).run cpos pins s1 σ H1 _ I1 (bindA tgP e1 sr1 p1)
      rw [star_cons h1'.1] at hA ⊢
      refine Calls.callWith_builtin (by show (false || (backTo cpos (starEach es X.env)).any (·.1)) = false; rw [star_any h1'.2] <;> rfl) (Calls.evalArgs_plain ?_)
      exact thn hA fun us s2 ⟨ws, H2, I2, r2, es2, S2, L2, r3, sr2, e2, p2, x2⟩ => hm pins s2 σ H2 (.ref q) ws _ us Q I2 rfl r2 ⟨_, es2, S2, L2, _, r1.ext sr1 x2, r3, sr2, p2⟩
    · exact p1.elim
end
end Pf
end

section
set_option Elab.async false
set_option linter.all false
set_option maxRecDepth 100000
set_option maxHeartbeats 4000000
/-! P15: a text read is sound. -/
namespace Pf
open PySem PySem.Spec PyProof.Rows L2
structure GX (t : TX) (LT : XAt) (T : List (Addr × Str)) (C : Calls) (k : Nat) (m : Md) (sc : Scope) (X : Cx) : Prop where
  eN : X.N = t.N
  nd : t.N.Nodup
  esc : X.env.scope = sc
  kind : sc.kind = .function
  calm : m.calm = true → X.calm = true
  room : m.calm = true → RoomG k X.A
  un : X.A.units + 65 < cLine
  val : ∀ x d, t.G.lookup x = some (.val d) → ∃ v u, X.mg x = some u ∧ RelV v u ∧ ∀ LT L H, RepV X.K LT L H d v
  bi : ∀ x, t.G.lookup x = some .bi → X.mg x = none
  fd : ∀ x kvs, t.G.lookup x = some (.fd kvs) → ∃ a, X.mg x = some (.ref a) ∧ FdAt X.K X.w a kvs
  fn : m.calm = true → ∀ x i np, t.G.lookup x = some (.fn i np) → DefOk LT T X k x np (C.f i)
  lam : m.calm = true → LamsOk LT T X C k
  cls : ClsOk X.K t.CT
  clm : ∀ c, (t.CT.lookup c).isSome = true → X.mg c = some (.ref (He.ga X.K c))
  rs : m.stm = true → ∀ c, t.G.lookup c = some .cls → ∃ B newId initId bmB, ExcBaseFacts B newId initId bmB ∧ PySem.W.excIn X.K (He.ga X.K c) bmB newId = true ∧ X.mg c = some (.ref (He.ga X.K c)) ∧ PySem.W.keepIn X.K (.ref (He.ga X.K c)) = true ∧ Raises X (.ref (He.ga X.K c))
  ev : m.ev = true → LT.isSome = true ∧ IsEAt LT X t.CT
  top : m.top = true → LamMk T X ∧ (∀ x, X.fn x = true) ∧ X.env.qual = t.qual
  stm : m.stm = true → PassesOwn (model X.prog X.w) X.A X.env X.xe ∧ X.stack = X.env :: X.outer ∧ X.env.frame = some X.env.locals
section
variable {t : TX} {LT : XAt} {T : List (Addr × Str)} {C : Calls} {k : Nat} {m : Md} {sc : Scope} {X : Cx}
theorem GX.gl (g : GX t LT T C k m sc X) {x : Str} {i : GI} (h : giOf t sc x = some i) : Gl X x ∧ okN x = true ∧ t.G.lookup x = some i := by
  unfold giOf at h
  split at h
  · rename_i hh
    refine ⟨?_, hh.1, h⟩
    show X.env.scope.names.lookup x = _
    rw [g.esc]
    exact gl_ok hh.2
  · cases h
theorem biOk_gi {x : Str} (h : biOk t sc x = true) : giOf t sc x = some .bi := by
  unfold biOk at h
  split at h
  · assumption
  · cases h
theorem GX.bix (g : GX t LT T C k m sc X) {x : Str} {u : Value} (h : giOf t sc x = some .bi) (hb : bootBuiltins x = some u) : Bi X x u := by
  obtain ⟨h1, h2, h3⟩ := g.gl h
  obtain ⟨q1, q2, q3⟩ := okN_ok h2
  exact ⟨h1, g.bi x h3, hb, q3, q1⟩
theorem GX.blk (g : GX t LT T C k m sc X) {scope : Scope} (hk : scope.kind = .function) (s : Shared) (H : Hp) (Cc : Addr) (cl : List (Str × Addr)) (fp : List Addr) :
    GX t LT T C k ⟨m.calm, false, false, false⟩ (relS scope sc) (X.blk s H scope (compEnvC scope cl Cc X.env) fp) :=
  ⟨g.eN, g.nd, by rw [← g.esc]; rfl, hk, g.calm, g.room, g.un, g.val, g.bi, g.fd, fun h x i np hx => let q := g.fn h x i np hx; ⟨q.ex, q.nd, q.bad⟩, fun h => g.lam h, g.cls, g.clm, fun h => (nomatch h), fun h => (nomatch h), fun h => (nomatch h), fun h => (nomatch h)⟩
theorem GX.fdx (g : GX t LT T C k m sc X) {e : Expr} {kvs : List (Str × D)} (h : fdOf t sc e = some kvs) : ∃ x p a, e = .Name x p ∧ Gl X x ∧ X.mg x = some (.ref a) ∧ (x == ("__debug__" : Str)) = false ∧ FdAt X.K X.w a kvs := by
  unfold fdOf at h
  split at h
  · rename_i x p
    split at h
    · rename_i kvs' hgi
      cases h
      obtain ⟨h1, h2, h3⟩ := g.gl hgi
      obtain ⟨a, h4, h5⟩ := g.fd x _ h3
      exact ⟨x, p, a, rfl, h1, h4, (okN_ok h2).1, h5⟩
    · cases h
  · cases h
theorem bin_ok {op : Operator} {o : D → D → Store → R D} (h : dBin op = some o) : OpR X (binaryOp op) (rB X.K LT T o) := by
  cases op <;> simp only [dBin, Option.some.injEq, reduceCtorEq] at h <;> subst h
  · exact or_addA
  · exact or_sub
  · exact or_mulA
  · exact or_mod
  · exact or_pow
  · exact or_div
theorem cmp_ok (hu : X.A.units + 65 < cLine) {op : CmpOp} {b : Expr} {o : D → D → Store → R D} (h : dCmp op b = some o) : OpR X (compareOp op) (rB X.K LT T o) := by
  cases op <;> simp only [dCmp, Option.some.injEq] at h
  · subst h; exact or_eq (by omega)
  · subst h; exact or_ne (by omega)
  · subst h; exact or_lt
  · subst h; exact or_le
  · subst h; exact or_gt
  · subst h; exact or_ge
  · split at h <;> simp only [Option.some.injEq, reduceCtorEq] at h <;> subst h
    · exact or_isN
    · exact or_isB
  · split at h <;> simp only [Option.some.injEq, reduceCtorEq] at h <;> subst h
    · exact or_notN
    · exact or_notB
  · subst h; exact or_in hu
  · subst h; exact or_notIn hu
theorem notStar_any {es : List Expr} : True := trivial
/-- the soundness at fuel n -/
structure Snd (t : TX) (C : Calls) (T : List (Addr × Str)) (k n : Nat) : Prop where
  sE : ∀ {LT m sc X e f}, GX t LT T C k m sc X → dE t C n m sc e = some f → SE LT T X e f
  sC : ∀ {LT m sc X x p pos args f}, GX t LT T C k m sc X → dC t C n m sc x args = some f → SE LT T X (.Call (.Name x p) args [] pos) f
  sT : ∀ {LT m sc X e f}, GX t LT T C k m sc X → dT t C n m sc e = some f → STs LT T X e f
  sA : ∀ {LT m sc X es f}, GX t LT T C k m sc X → dA t C n m sc es = some f → SAr LT T X es f ∧ es.all notStar = true
  sAL : ∀ {LT m sc X es} {q : Ar × LamI × List Nat}, GX t LT T C k m sc X → m.top = true → dAL t C n m sc es = some q → SAL LT T X es q.1 q.2.1 ∧ es.all notStar = true ∧ LamFit X q.2.1 q.2.2 ∧ es ≠ []
  sP : ∀ {LT m sc X e f}, GX t LT T C k m sc X → dP t C n m sc e = some f → SPt LT T X e f
  sL : ∀ {LT m sc X e f}, GX t LT T C k m sc X → dL t C n m sc e = some f → SLs LT T X e f
  sLC : ∀ {LT m sc X elt tg iter ifs scope pos f}, GX t LT T C k m sc X → dL t C n m sc (.ListComp elt [⟨tg, iter, ifs, 0⟩] scope pos) = some f → ∃ it g sl ft fe, f = aComp ((ownOf t.N scope).map fun (p : Str × Nat) => p.2) it g ft fe ∧ X.calm = true ∧ SIt LT T X tg iter it ∧ BlkOk X.N X.env.scope scope (ownOf t.N scope) ∧
    (∀ i ∈ sl, i ∈ (ownOf t.N scope).map (·.2)) ∧ (∀ (s : Shared) (H : Hp) (Cc : Addr) (cl : List (Str × Addr)) (fp : List Addr), STg LT T (X.blk s H scope (compEnvC scope cl Cc X.env) fp) tg g sl ∧ SPTs LT T (X.blk s H scope (compEnvC scope cl Cc X.env) fp) ifs ft ∧ SE LT T (X.blk s H scope (compEnvC scope cl Cc X.env) fp) elt fe) ∧ (∀ x, foldedSetIterable iter X.env x = pure x)
  sO : ∀ {LT m sc X e f}, GX t LT T C k m sc X → dO t C n m sc e = some f → SOp LT T X e f
  sI : ∀ {LT m sc X tg e f}, GX t LT T C k m sc X → dI t C n m sc tg e = some f → SIt LT T X tg e f
  sG : ∀ {LT X} {own : Str → Bool} {e} {q : Tg × List Nat}, X.N = t.N → t.N.Nodup → X.calm = true → (∀ x, own x = true → Loc X.env.scope x ∧ (X.fn x = true ∨ X.env.scope.names.lookup x = some .local)) → dG t C n own e = some q → STg LT T X e q.1 q.2 ∧ notStar e = true
  sGs : ∀ {LT X} {own : Str → Bool} {es} {q : Tgs × List Nat}, X.N = t.N → t.N.Nodup → X.calm = true → (∀ x, own x = true → Loc X.env.scope x ∧ (X.fn x = true ∨ X.env.scope.names.lookup x = some .local)) → dGs t C n own es = some q → STgs LT T X es q.1 q.2 ∧ es.all notStar = true
variable {n : Nat}
theorem snd_a (S : Snd t C T k n) {es : List Expr} {f : Ar} (g : GX t LT T C k m sc X) (h : dA t C (n + 1) m sc es = some f) : SAr LT T X es f ∧ es.all notStar = true := by
  unfold dA at h
  split at h
  · cases h; exact ⟨sar_nil, rfl⟩
  · split at h
    · rename_i e es hs
      obtain ⟨fe, h1, h⟩ := ob h
      obtain ⟨fs, h2, rfl⟩ := om h
      obtain ⟨q1, q2⟩ := S.sA g h2
      exact ⟨sar_cons hs (S.sE g h1) q1, by rw [List.all_cons, hs, q2]; rfl⟩
    · cases h
theorem lam_facts {qual : Str} {params : Arguments} {body : Expr} {scope : Scope} (h : lamB (mkLam qual params body scope) = true) : simpleP params = true := by
  unfold lamB at h
  simp only [Bool.and_eq_true] at h
  exact h.1.2
theorem snd_al (S : Snd t C T k n) {es : List Expr} {q : Ar × LamI × List Nat} (g : GX t LT T C k m sc X) (ht : m.top = true) (h : dAL t C (n + 1) m sc es = some q) : SAL LT T X es q.1 q.2.1 ∧ es.all notStar = true ∧ LamFit X q.2.1 q.2.2 ∧ es ≠ [] := by
  obtain ⟨hM, hfn, hq⟩ := g.top ht
  unfold dAL at h
  split at h
  · rename_i params body scope pos
    split at h
    · rename_i hh
      obtain ⟨js, h1, rfl⟩ := om h
      have hfit : LamFit X (mkLam (t.qual ++ "<lambda>") params body scope) js := ⟨hfn, by rw [hq]; rfl, fun y hy e => ⟨freeOf_mem.mpr (by obtain ⟨a, b⟩ := y; cases e; exact hy), by
          have q := List.all_eq_true.mp hh.2 y hy
          obtain ⟨a, b⟩ := y
          cases e
          rw [g.esc]
          exact of_decide_eq_true q⟩, fun y hy => freeOf_mem.mp hy, by rw [g.eN]; exact ixs_ok h1, defaults_simple (lam_facts hh.1)⟩
      exact ⟨sal_one hM hfit, rfl, hfit, by simp⟩
    · cases h
  · split at h
    · rename_i e es _ hs
      obtain ⟨fe, h1, h⟩ := ob h
      obtain ⟨q', h2, rfl⟩ := om h
      obtain ⟨q1, q2, q3, _⟩ := S.sAL g ht h2
      exact ⟨sal_cons hs (S.sE g h1) q1, by rw [List.all_cons, hs, q2]; rfl, q3, by simp⟩
    · cases h
  · cases h
theorem snd_p (S : Snd t C T k n) {e : Option Expr} {f : Pt} (g : GX t LT T C k m sc X) (h : dP t C (n + 1) m sc e = some f) : SPt LT T X e f := by
  unfold dP at h
  split at h
  · cases h; exact spt_no
  · obtain ⟨fe, h1, rfl⟩ := om h
    exact spt_some (S.sE g h1)
theorem snd_o (S : Snd t C T k n) {e : Expr} {f : It} (g : GX t LT T C k m sc X) (h : dO t C (n + 1) m sc e = some f) : SOp LT T X e f := by
  unfold dO at h
  split at h
  · obtain ⟨fe, h1, rfl⟩ := om h
    exact sop_new (S.sL g h1)
  · obtain ⟨fe, h1, rfl⟩ := om h
    exact sop_ref (S.sE g h1)
theorem snd_g (S : Snd t C T k n) {own : Str → Bool} {e : Expr} {q : Tg × List Nat} (eN : X.N = t.N) (nd : t.N.Nodup) (hc : X.calm = true) (ho : ∀ x, own x = true → Loc X.env.scope x ∧ (X.fn x = true ∨ X.env.scope.names.lookup x = some .local)) (h : dG t C (n + 1) own e = some q) : STg LT T X e q.1 q.2 ∧ notStar e = true := by
  unfold dG at h
  split at h
  · split at h
    · rename_i hx
      obtain ⟨i, h1, rfl⟩ := om h
      obtain ⟨q1, q2⟩ := ho _ hx
      exact ⟨sg_name (by rw [eN]; exact nd) (by rw [eN]; exact ixOf_ok h1) q1 q2, rfl⟩
    · cases h
  · obtain ⟨q', h1, rfl⟩ := om h
    obtain ⟨q1, q2⟩ := S.sGs eN nd hc ho h1
    exact ⟨sg_tup hc q1 q2 rfl, rfl⟩
  · cases h
theorem snd_gs (S : Snd t C T k n) {own : Str → Bool} {es : List Expr} {q : Tgs × List Nat} (eN : X.N = t.N) (nd : t.N.Nodup) (hc : X.calm = true) (ho : ∀ x, own x = true → Loc X.env.scope x ∧ (X.fn x = true ∨ X.env.scope.names.lookup x = some .local)) (h : dGs t C (n + 1) own es = some q) : STgs LT T X es q.1 q.2 ∧ es.all notStar = true := by
  unfold dGs at h
  split at h
  · cases h; exact ⟨sgs_nil, rfl⟩
  · split at h
    · rename_i hs
      obtain ⟨q1, h1, h⟩ := ob h
      obtain ⟨q2, h2, rfl⟩ := om h
      obtain ⟨a1, _⟩ := S.sG eN nd hc ho h1
      obtain ⟨b1, b2⟩ := S.sGs eN nd hc ho h2
      exact ⟨sgs_cons hs a1 b1, by rw [List.all_cons, hs, b2]; rfl⟩
    · cases h
theorem own_blk {scope : Scope} (g : GX t LT T C k m sc X) (s : Shared) (H : Hp) (Cc : Addr) (cl : List (Str × Addr)) (fp : List Addr) (x : Str) (h : locB scope x = true) :
    Loc (X.blk s H scope (compEnvC scope cl Cc X.env) fp).env.scope x ∧ ((X.blk s H scope (compEnvC scope cl Cc X.env) fp).fn x = true ∨ (X.blk s H scope (compEnvC scope cl Cc X.env) fp).env.scope.names.lookup x = some .local) := by
  rcases loc_ok h with q | q
  · have e : (X.blk s H scope (compEnvC scope cl Cc X.env) fp).env.scope.names.lookup x = some .local := lookup_relS_keep (sc := X.env.scope) (fun z => nomatch z) q
    exact ⟨.inl e, .inr e⟩
  · have e : (X.blk s H scope (compEnvC scope cl Cc X.env) fp).env.scope.names.lookup x = some .cell := lookup_relS_keep (sc := X.env.scope) (fun z => nomatch z) q
    exact ⟨.inr e, .inl (by show (scope.names.lookup x == some .cell) = true; rw [q]; rfl)⟩
theorem snd_lc (S : Snd t C T k n) {elt tg iter : Expr} {ifs : List Expr} {scope : Scope} {pos : Pos} {f : Ar} (g : GX t LT T C k m sc X) (h : dL t C (n + 1) m sc (.ListComp elt [⟨tg, iter, ifs, 0⟩] scope pos) = some f) : ∃ it g sl ft fe, f = aComp ((ownOf t.N scope).map fun (p : Str × Nat) => p.2) it g ft fe ∧ X.calm = true ∧ SIt LT T X tg iter it ∧ BlkOk X.N X.env.scope scope (ownOf t.N scope) ∧
    (∀ i ∈ sl, i ∈ (ownOf t.N scope).map (·.2)) ∧ (∀ (s : Shared) (H : Hp) (Cc : Addr) (cl : List (Str × Addr)) (fp : List Addr), STg LT T (X.blk s H scope (compEnvC scope cl Cc X.env) fp) tg g sl ∧ SPTs LT T (X.blk s H scope (compEnvC scope cl Cc X.env) fp) ifs ft ∧ SE LT T (X.blk s H scope (compEnvC scope cl Cc X.env) fp) elt fe) ∧ (∀ x, foldedSetIterable iter X.env x = pure x) := by
  unfold dL at h
  split at h
  · rename_i heq
    cases heq
  · rename_i heq
    cases heq
    split at h
    · rename_i hh
      obtain ⟨it, h1, h⟩ := ob h
      obtain ⟨gg, h2, h⟩ := ob h
      split at h
      · rename_i hsl
        obtain ⟨ft, h3, h⟩ := ob h
        obtain ⟨fe, h4, rfl⟩ := om h
        have hcal := g.calm hh.1
        have bok : BlkOk X.N X.env.scope scope (ownOf t.N scope) := by rw [g.eN, g.esc]; exact blkOk_by hh.2.2
        refine ⟨it, gg.1, gg.2, ft, fe, rfl, hcal, S.sI g h1, bok, fun i hi => of_decide_eq_true (List.all_eq_true.mp hsl i hi), fun s H Cc cl fp => ?_, folded_ok hh.2.1⟩
        have gb := g.blk bok.kind s H Cc cl fp
        refine ⟨(S.sG (LT := LT) (X := X.blk s H scope (compEnvC scope cl Cc X.env) fp) g.eN g.nd hcal (own_blk g s H Cc cl fp) h2).1, ?_, S.sE gb h4⟩
        split at h3
        · cases h3; exact spts_nil
        · exact spts_one (S.sT gb h3)
        · cases h3
      · cases h
    · cases h
  · rename_i heq
    cases heq
  · rename_i heq
    cases heq
  · rename_i heq
    cases heq
  · rename_i heq
    cases heq
  · rename_i heq
    cases heq
  · cases h
theorem snd_l (S : Snd t C T k n) {e : Expr} {f : Ar} (g : GX t LT T C k m sc X) (h : dL t C (n + 1) m sc e = some f) : SLs LT T X e f := by
  have h0 := h
  unfold dL at h
  split at h
  · obtain ⟨fs, h1, rfl⟩ := om h
    exact sls_disp (S.sA g h1).1
  · obtain ⟨it, gg, sl, ft, fe, rfl, hc, hi, bok, hsl, hb, hf⟩ := snd_lc S g h0
    exact sls_comp hc (by rw [g.eN]; exact g.nd) hi bok hsl hb hf
  · obtain ⟨fa, h1, h⟩ := ob h
    obtain ⟨fb, h2, rfl⟩ := om h
    exact sls_cat (S.sO g h1) (S.sO g h2)
  · split at h
    · rename_i hh
      obtain ⟨rfl, rfl, hc, b1, b2, hs⟩ := hh
      obtain ⟨fb, h2, rfl⟩ := om h
      exact sls_rg1 (g.calm hc) (g.bix (biOk_gi b1) (by rfl)) (g.bix (biOk_gi b2) (by rfl)) hs (S.sE g h2)
    · cases h
  · split at h
    · rename_i hh
      obtain ⟨rfl, rfl, hc, b1, b2, hs, hs2⟩ := hh
      obtain ⟨fa, h1, h⟩ := ob h
      obtain ⟨fb, h2, rfl⟩ := om h
      exact sls_rg2 (g.calm hc) (g.bix (biOk_gi b1) (by rfl)) (g.bix (biOk_gi b2) (by rfl)) hs hs2 (S.sE g h1) (S.sE g h2)
    · cases h
  · obtain ⟨fa, h1, h⟩ := ob h
    obtain ⟨fb, h2, rfl⟩ := om h
    exact sls_down (S.sE g h1) (S.sE g h2)
  · split at h
    · obtain ⟨fa, h1, rfl⟩ := om h
      exact sls_revL (S.sL g h1)
    · obtain ⟨fa, h1, rfl⟩ := om h
      exact sls_rev (S.sE g h1)
  · cases h
theorem snd_i (S : Snd t C T k n) {tg e : Expr} {f : It} (g : GX t LT T C k m sc X) (h : dI t C (n + 1) m sc tg e = some f) : SIt LT T X tg e f := by
  unfold dI at h
  split at h
  · obtain ⟨fa, h1, rfl⟩ := om h
    exact si_new (S.sL g h1)
  · split at h
    · rename_i x p args pos _
      split at h
      · rename_i hb
        have hgi := biOk_gi hb
        split at h
        · split at h
          · rename_i hx
            subst hx
            split at h
            · rename_i hs
              obtain ⟨fa, h1, rfl⟩ := om h
              exact si_rg1 (g.bix hgi (by rfl)) hs (S.sE g h1)
            · cases h
          · split at h
            · rename_i hx
              subst hx
              split at h
              · split at h
                · rename_i hs
                  obtain ⟨fa, h1, rfl⟩ := om h
                  exact si_enum (g.bix hgi (by rfl)) hs (S.sE g h1)
                · cases h
              · cases h
            · obtain ⟨fa, h1, rfl⟩ := om h
              exact si_seq (S.sE g h1)
        · split at h
          · rename_i hx
            subst hx
            split at h
            · rename_i hs
              obtain ⟨fa, h1, h⟩ := ob h
              obtain ⟨fb, h2, rfl⟩ := om h
              exact si_rg2 (g.bix hgi (by rfl)) hs.1 hs.2 (S.sE g h1) (S.sE g h2)
            · cases h
          · split at h
            · rename_i hx
              subst hx
              split at h
              · split at h
                · rename_i hs
                  obtain ⟨fa, h1, h⟩ := ob h
                  obtain ⟨fb, h2, rfl⟩ := om h
                  exact si_zip (g.bix hgi (by rfl)) hs.1 hs.2 (S.sE g h1) (S.sE g h2)
                · cases h
              · cases h
            · cases h
        · split at h
          · rename_i hx
            obtain ⟨rfl, hs, hs2⟩ := hx
            obtain ⟨fa, h1, h⟩ := ob h
            obtain ⟨fb, h2, rfl⟩ := om h
            exact si_rgDn (g.bix hgi (by rfl)) hs hs2 (S.sE g h1) (S.sE g h2)
          · cases h
        · cases h
      · obtain ⟨fa, h1, rfl⟩ := om h
        exact si_seq (S.sE g h1)
    · obtain ⟨fa, h1, rfl⟩ := om h
      exact si_seq (S.sE g h1)
theorem sws_of {op : BoolOp} {es : List Expr} {p : Pos} {f : Ts} (h : STs LT T X (.BoolOp op es p) f) : SWs LT T X (.BoolOp op es p) f := fun W tk => ⟨fun whole pins s σ H Q I q => (h W tk).run pins s σ H Q I q⟩
theorem snd_t (S : Snd t C T k n) {e : Expr} {f : Ts} (g : GX t LT T C k m sc X) (h : dT t C (n + 1) m sc e = some f) : STs LT T X e f := by
  unfold dT at h
  split at h
  · obtain ⟨fa, h1, rfl⟩ := om h
    exact sts_not (S.sT g h1)
  · exact sts_w (sws_and1 (S.sT g h))
  · exact sts_w (sws_or1 (S.sT g h))
  · obtain ⟨fa, h1, h⟩ := ob h
    obtain ⟨fb, h2, rfl⟩ := om h
    exact sts_w (sws_and (S.sT g h1) (sws_of (S.sT g h2)))
  · obtain ⟨fa, h1, h⟩ := ob h
    obtain ⟨fb, h2, rfl⟩ := om h
    exact sts_w (sws_or (S.sT g h1) (sws_of (S.sT g h2)))
  · split at h
    · cases h
    · rename_i hset
      rw [Bool.not_eq_true] at hset
      split at h
      · rename_i kvs hfd
        obtain ⟨x, p, a, rfl, g1, g2, g3, g4⟩ := g.fdx hfd
        obtain ⟨f', h0, rfl⟩ := om h
        unfold dCmpF at h0
        split at h0
        · obtain ⟨fa, h1, rfl⟩ := om h0
          exact sts_inF g1 g2 g3 g4 (S.sE g h1)
        · obtain ⟨fa, h1, rfl⟩ := om h0
          exact sts_notInF g1 g2 g3 g4 (S.sE g h1)
        · cases h0
      obtain ⟨fa, h1, h⟩ := ob h
      split at h
      · split at h
        · obtain ⟨fb, h2, rfl⟩ := om h
          exact sts_eqL (by have := g.un; omega) (S.sE g h1) (S.sL g h2)
        · obtain ⟨fb, h2, rfl⟩ := om h
          exact sts_neL (by have := g.un; omega) (S.sE g h1) (S.sL g h2)
        · obtain ⟨o, h3, h⟩ := ob h
          obtain ⟨fb, h2, rfl⟩ := om h
          exact sts_cmp (cmp_ok g.un h3) (nomarks hset) (S.sE g h1) (S.sE g h2)
      · obtain ⟨o, h3, h⟩ := ob h
        obtain ⟨fb, h2, rfl⟩ := om h
        exact sts_cmp (cmp_ok g.un h3) (nomarks hset) (S.sE g h1) (S.sE g h2)
  · split at h
    · cases h
    · rename_i hset
      rw [Bool.not_eq_true] at hset
      obtain ⟨o, h3, h⟩ := ob h
      obtain ⟨o', h4, h⟩ := ob h
      obtain ⟨fa, h1, h⟩ := ob h
      obtain ⟨fb, h2, h⟩ := ob h
      obtain ⟨fc, h5, rfl⟩ := om h
      exact sts_chain (cmp_ok g.un h3) (cmp_ok g.un h4) (nomarks hset) (S.sE g h1) (S.sE g h2) (S.sE g h5)
  · split at h
    · rename_i hp
      obtain ⟨fa, h1, rfl⟩ := om h
      exact sts_val (S.sE g h1) (plainT_ok hp)
    · cases h
theorem snd_e (S : Snd t C T k n) {e : Expr} {f : Ex} (g : GX t LT T C k m sc X) (h : dE t C (n + 1) m sc e = some f) : SE LT T X e f := by
  unfold dE at h
  split at h
  · obtain ⟨fa, h1, rfl⟩ := om h
    exact se_new (S.sL g h1)
  split at h
  · obtain ⟨d, h1, rfl⟩ := om h
    rename_i c j p hl
    cases c <;> simp only [dConst, Option.some.injEq, reduceCtorEq] at h1 <;> subst h1
    · exact se_non
    · exact se_bl
    · exact se_int
    · exact se_str
  · rename_i x p hl
    unfold dName at h
    split at h
    · rename_i hok
      obtain ⟨k1, k2, k3⟩ := okN_ok hok
      split at h
      · rename_i hv
        obtain ⟨i, h1, rfl⟩ := om h
        exact se_var (by rw [g.eN]; exact ixOf_ok h1) (by rw [g.esc]; exact vis_ok hv) k1 k2
      · split at h
        · rename_i d hd
          cases h
          obtain ⟨q1, q2, q3⟩ := g.gl hd
          obtain ⟨v, u, a1, a2, a3⟩ := g.val x d q3
          exact se_glob q1 a1 a2 (a3 _) k1
        · cases h
    · cases h
  · obtain ⟨o, h0, h⟩ := ob h
    obtain ⟨fa, h1, h⟩ := ob h
    obtain ⟨fb, h2, rfl⟩ := om h
    exact se_bin (bin_ok h0) (S.sE g h1) (S.sE g h2)
  · obtain ⟨fa, h1, rfl⟩ := om h
    exact se_un ur_neg (S.sE g h1)
  · obtain ⟨fa, h1, rfl⟩ := om h
    exact se_not (S.sE g h1)
  · split at h
    · cases h
    · rename_i hset
      rw [Bool.not_eq_true] at hset
      split at h
      · rename_i kvs hfd
        obtain ⟨x, p, a, rfl, g1, g2, g3, g4⟩ := g.fdx hfd
        unfold dCmpF at h
        split at h
        · obtain ⟨fa, h1, rfl⟩ := om h
          exact se_inF g1 g2 g3 g4 (S.sE g h1)
        · obtain ⟨fa, h1, rfl⟩ := om h
          exact se_notInF g1 g2 g3 g4 (S.sE g h1)
        · cases h
      obtain ⟨fa, h1, h⟩ := ob h
      split at h
      · split at h
        · obtain ⟨fb, h2, rfl⟩ := om h
          exact se_eqL (by have := g.un; omega) (S.sE g h1) (S.sL g h2)
        · obtain ⟨fb, h2, rfl⟩ := om h
          exact se_neL (by have := g.un; omega) (S.sE g h1) (S.sL g h2)
        · obtain ⟨o, h3, h⟩ := ob h
          obtain ⟨fb, h2, rfl⟩ := om h
          exact se_cmp (cmp_ok g.un h3) (nomarks hset) (S.sE g h1) (S.sE g h2)
      · obtain ⟨o, h3, h⟩ := ob h
        obtain ⟨fb, h2, rfl⟩ := om h
        exact se_cmp (cmp_ok g.un h3) (nomarks hset) (S.sE g h1) (S.sE g h2)
  · split at h
    · cases h
    · rename_i hset
      rw [Bool.not_eq_true] at hset
      obtain ⟨o, h3, h⟩ := ob h
      obtain ⟨o', h4, h⟩ := ob h
      obtain ⟨fa, h1, h⟩ := ob h
      obtain ⟨fb, h2, h⟩ := ob h
      obtain ⟨fc, h5, rfl⟩ := om h
      exact se_chain (cmp_ok g.un h3) (cmp_ok g.un h4) (nomarks hset) (S.sE g h1) (S.sE g h2) (S.sE g h5)
  · exact se_one (S.sE g h)
  · obtain ⟨fa, h1, h⟩ := ob h
    obtain ⟨fb, h2, rfl⟩ := om h
    exact se_and (S.sE g h1) (S.sE g h2)
  · obtain ⟨fa, h1, h⟩ := ob h
    obtain ⟨fb, h2, rfl⟩ := om h
    exact se_or (S.sE g h1) (S.sE g h2)
  · obtain ⟨fc, h3, h⟩ := ob h
    obtain ⟨fa, h1, h⟩ := ob h
    obtain ⟨fb, h2, rfl⟩ := om h
    exact se_if (S.sT g h3) (S.sE g h1) (S.sE g h2)
  · obtain ⟨fs, h1, rfl⟩ := om h
    unfold oTupW
    split
    · exact se_tupO (S.sA g h1).1
    · exact se_tup (S.sA g h1).1
  · obtain ⟨fa, h1, h⟩ := ob h
    obtain ⟨fl, h2, h⟩ := ob h
    obtain ⟨fh, h3, rfl⟩ := om h
    exact se_cut (S.sE g h1) (S.sP g h2) (S.sP g h3)
  · split at h
    · cases h
    · rename_i hs
      rw [Bool.not_eq_true] at hs
      split at h
      · rename_i kvs hfd
        obtain ⟨x, p, a, rfl, g1, g2, g3, g4⟩ := g.fdx hfd
        obtain ⟨fb, h2, rfl⟩ := om h
        exact se_ixF g1 g2 g3 g4 (ix_plain hs) (S.sE g h2)
      obtain ⟨fb, h2, h⟩ := ob h
      split at h
      · obtain ⟨fa, h1, rfl⟩ := om h
        exact se_ixL (ix_plain hs) (S.sL g h1) (S.sE g h2)
      · obtain ⟨fa, h1, rfl⟩ := om h
        exact se_ix g.un (ix_plain hs) (S.sE g h1) (S.sE g h2)
  · exact S.sC g h
  · cases h
    exact se_dictK
  · split at h
    · cases h
    · rename_i hh
      rw [not_or] at hh
      obtain ⟨k1, k2⟩ := hh
      rw [Bool.not_eq_true] at k1
      have k2 := Classical.not_not.mp k2
      obtain ⟨fo, h1, hA⟩ := ob h
      split at hA
      · rename_i hx
        subst hx
        cases hA
        exact se_meth0 PySem.F.plainAttrs_list PySem.F.slot_list_pop PySem.F.type_list_pop mr_pop (base_ok k1) k2 (S.sE g h1)
      · cases hA
  · split at h
    · cases h
    · rename_i hh
      rw [not_or, not_or, not_or] at hh
      obtain ⟨k1, k2, k3, k4⟩ := hh
      rw [Bool.not_eq_true] at k1
      have k2 := Classical.not_not.mp k2
      have k3 := Classical.not_not.mp k3
      obtain ⟨fo, h1, hA⟩ := ob h
      obtain ⟨fs, h2, hB⟩ := ob hA
      obtain ⟨q1, q2⟩ := S.sA g h2
      split at hB
      · rename_i hx
        subst hx
        cases hB
        exact se_meth PySem.F.plainAttrs_list PySem.F.slot_list_append PySem.F.type_list_append mr_append (base_ok k1) k2 q2 (by simp only [List.length_cons]; omega) (S.sE g h1) q1
      · split at hB
        · rename_i hx
          subst hx
          cases hB
          exact se_meth PySem.F.plainAttrs_list PySem.F.slot_list_extend PySem.F.type_list_extend mr_extend (base_ok k1) k2 q2 (by simp only [List.length_cons]; omega) (S.sE g h1) q1
        split at hB
        · rename_i hx
          subst hx
          cases hB
          exact se_methA PySem.F.slot_list_index PySem.F.slot_tuple_index PySem.F.type_list_index PySem.F.type_tuple_index (mr_index g.un) (mr_indexT g.un) (base_ok k1) k2 q2 (by simp only [List.length_cons]; omega) (S.sE g h1) q1
        · split at hB
          · rename_i hx
            subst hx
            cases hB
            exact se_methA PySem.F.slot_list_count PySem.F.slot_tuple_count PySem.F.type_list_count PySem.F.type_tuple_count (mr_count g.un) (mr_countT g.un) (base_ok k1) k2 q2 (by simp only [List.length_cons]; omega) (S.sE g h1) q1
          · cases hB
  · cases h
end
end Pf
end

section
set_option Elab.async false
set_option linter.all false
set_option maxRecDepth 100000
set_option maxHeartbeats 4000000
/-! P15b: calls, statements: sound. -/
namespace Pf
open PySem PySem.Spec PyProof.Rows L2
section
variable {t : TX} {LT : XAt} {T : List (Addr × Str)} {C : Calls} {k n : Nat} {m : Md} {sc : Scope} {X : Cx}
theorem arg1 (S : Snd t C T k n) (g : GX t LT T C k m sc X) {a : Expr} {f : Ar} (h : dA t C n m sc [a] = some f) : SAr LT T X [a] f ∧ notStar a = true := by
  obtain ⟨q1, q2⟩ := S.sA g h
  simp only [List.all_cons, List.all_nil, Bool.and_true] at q2
  exact ⟨q1, q2⟩
theorem listy_star {a : Expr} (h : listy a = true) : notStar a = true := by
  cases a <;> first | rfl | cases h
theorem k_call {x : Str} {id : String} {kk : List D → Store → R D} {a : Expr} {f : Ex} {p pos : Pos} (S : Snd t C T k n) (g : GX t LT T C k m sc X) (hgi : giOf t sc x = some .bi) (hb : bootBuiltins x = some (.builtin id)) (hk : X.calm = true → CallR X (.builtin id) (rK X.K LT T kk))
    (h : (if m.calm = true then dK kk (listy a) (dL t C n m sc a) (dA t C n m sc [a]) else none) = some f) : SE LT T X (.Call (.Name x p) [a] [] pos) f := by
  split at h
  · rename_i hc
    have hk := hk (g.calm hc)
    unfold dK at h
    split at h
    · rename_i hl
      obtain ⟨fa, h1, rfl⟩ := om h
      exact se_callBK hk (g.bix hgi hb) (listy_star hl) (S.sL g h1)
    · obtain ⟨fa, h1, rfl⟩ := om h
      obtain ⟨q1, q2⟩ := arg1 S g h1
      exact se_callB (cr_oK hk) (g.bix hgi hb) q2 rfl q1
  · cases h
theorem snd_b1 (S : Snd t C T k n) {x : Str} {p pos : Pos} {a : Expr} {f : Ex} (g : GX t LT T C k m sc X) (hgi : giOf t sc x = some .bi) (h : dB1 m x (listy a) (dL t C n m sc a) (dA t C n m sc [a]) = some f) : SE LT T X (.Call (.Name x p) [a] [] pos) f := by
  unfold dB1 at h
  split at h
  · rename_i hx
    subst hx
    split at h
    · rename_i hl
      obtain ⟨fa, h1, rfl⟩ := om h
      exact se_callBK crk_len (g.bix hgi (by rfl)) (listy_star hl) (S.sL g h1)
    · obtain ⟨fa, h1, rfl⟩ := om h
      obtain ⟨q1, q2⟩ := arg1 S g h1
      exact se_callB cr_len (g.bix hgi (by rfl)) q2 rfl q1
  split at h
  · rename_i hx
    subst hx
    exact k_call S g hgi (by rfl) (fun hc => crk_all hc) h
  split at h
  · rename_i hx
    subst hx
    exact k_call S g hgi (by rfl) (fun hc => crk_any hc) h
  split at h
  · rename_i hx
    subst hx
    exact k_call S g hgi (by rfl) (fun hc => crk_sum hc) h
  split at h
  · rename_i hx
    subst hx
    exact k_call S g hgi (by rfl) (fun hc => crk_max hc) h
  split at h
  · rename_i hx
    subst hx
    exact k_call S g hgi (by rfl) (fun hc => crk_min hc) h
  split at h
  · rename_i hx
    subst hx
    split at h
    · rename_i hl
      obtain ⟨fa, h1, rfl⟩ := om h
      exact se_callTyK crk_tup (g.bix hgi (by rfl)) (listy_star hl) (S.sL g h1)
    · obtain ⟨fa, h1, rfl⟩ := om h
      obtain ⟨q1, q2⟩ := arg1 S g h1
      exact se_callTy cr_tupOf (g.bix hgi (by rfl)) q2 rfl q1
  split at h
  · rename_i hx
    subst hx
    obtain ⟨fa, h1, rfl⟩ := om h
    obtain ⟨q1, q2⟩ := arg1 S g h1
    exact se_callB cr_abs (g.bix hgi (by rfl)) q2 rfl q1
  split at h
  · rename_i hx
    subst hx
    obtain ⟨fa, h1, rfl⟩ := om h
    obtain ⟨q1, q2⟩ := arg1 S g h1
    exact se_callTy cr_int (g.bix hgi (by rfl)) q2 rfl q1
  split at h
  · rename_i hx
    subst hx
    split at h
    · rename_i hc
      obtain ⟨fa, h1, rfl⟩ := om h
      obtain ⟨q1, q2⟩ := arg1 S g h1
      exact se_callB (cr_repr (g.room hc)) (g.bix hgi (by rfl)) q2 rfl q1
    · cases h
  · cases h
theorem arg2 (S : Snd t C T k n) (g : GX t LT T C k m sc X) {a b : Expr} {f : Ar} (h : dA t C n m sc [a, b] = some f) : SAr LT T X [a, b] f ∧ notStar a = true ∧ notStar b = true := by
  obtain ⟨q1, q2⟩ := S.sA g h
  simp only [List.all_cons, List.all_nil, Bool.and_true, Bool.and_eq_true] at q2
  exact ⟨q1, q2⟩
theorem snd_b2 (S : Snd t C T k n) {x : Str} {p pos : Pos} {a b : Expr} {f : Ex} (g : GX t LT T C k m sc X) (hgi : giOf t sc x = some .bi) (h : dB2 t m sc x a b (dE t C n m sc a) (dA t C n m sc [a, b]) = some f) : SE LT T X (.Call (.Name x p) [a, b] [] pos) f := by
  unfold dB2 at h
  split at h
  · rename_i hx
    subst hx
    unfold dIs at h
    split at h
    · split at h
      · rename_i ty hty
        obtain ⟨m1, m2⟩ := tyName_ok hty
        subst m2
        split at h
        · rename_i hh
          obtain ⟨fa, h1, rfl⟩ := om h
          refine se_isI m1 (g.bix hgi (by rfl)) (g.bix (biOk_gi hh.1) ?_) hh.2 (S.sE g h1)
          simp only [List.mem_cons, List.not_mem_nil, or_false] at m1
          rcases m1 with rfl | rfl | rfl | rfl | rfl | rfl <;> rfl
        · cases h
      · split at h
        · rename_i hh
          obtain ⟨hev, hC, hgl, hokc, hns⟩ := hh
          obtain ⟨fa, h1, rfl⟩ := om h
          obtain ⟨e1, e2⟩ := g.ev hev
          exact se_isE e1 e2 g.cls hC (g.bix hgi (by rfl)) (by show X.env.scope.names.lookup _ = _; rw [g.esc]; exact gl_ok hgl) (g.clm _ hC) (okN_ok hokc).1 hns (S.sE g h1)
        · cases h
    · cases h
  split at h
  · rename_i hx
    subst hx
    split at h
    · rename_i hc
      obtain ⟨fa, h1, rfl⟩ := om h
      obtain ⟨q1, q2, q3⟩ := arg2 S g h1
      exact se_callB (cr_max2 (g.calm hc)) (g.bix hgi (by rfl)) q2 (by rw [List.all_cons, q3]; rfl) q1
    · cases h
  split at h
  · rename_i hx
    subst hx
    split at h
    · rename_i hc
      obtain ⟨fa, h1, rfl⟩ := om h
      obtain ⟨q1, q2, q3⟩ := arg2 S g h1
      exact se_callB (cr_min2 (g.calm hc)) (g.bix hgi (by rfl)) q2 (by rw [List.all_cons, q3]; rfl) q1
    · cases h
  · cases h
theorem snd_c (S : Snd t C T k n) {x : Str} {p pos : Pos} {args : List Expr} {f : Ex} (g : GX t LT T C k m sc X) (h : dC t C (n + 1) m sc x args = some f) : SE LT T X (.Call (.Name x p) args [] pos) f := by
  unfold dC at h
  split at h
  · rename_i hok
    obtain ⟨k1, k2, k3⟩ := okN_ok hok
    split at h
    · rename_i hv
      split at h
      · rename_i hc
        obtain ⟨i, h1, hA⟩ := ob h
        obtain ⟨fs, h2, rfl⟩ := om hA
        obtain ⟨q1, q2⟩ := S.sA g h2
        have hN : X.N[i]? = some x := by rw [g.eN]; exact ixOf_ok h1
        have hV : Vis X.env.scope x := by rw [g.esc]; exact vis_ok hv
        cases args with
        | nil =>
          cases n with
          | zero => cases h2
          | succ n =>
            unfold dA at h2
            cases h2
            exact se_clo0 (g.lam hc) (g.room hc) hN hV k1 k2
        | cons e es =>
          rw [List.all_cons, Bool.and_eq_true] at q2
          exact se_clo (g.lam hc) (g.room hc) hN hV k1 k2 q2.1 q2.2 q1
      · cases h
    · split at h
      · rename_i i np hgi
        obtain ⟨hg, _, hG⟩ := g.gl hgi
        split at h
        · rename_i hc
          have D := g.fn hc x i np hG
          split at h
          · split at h
            · rename_i ht
              obtain ⟨q, h1, rfl⟩ := om h
              obtain ⟨a1, a2, a3, a4⟩ := S.sAL g ht h1
              cases args with
              | nil => exact absurd rfl a4
              | cons e es =>
                rw [List.all_cons, Bool.and_eq_true] at a2
                exact se_callL D (g.room hc) hg a3 a2.1 a2.2 a1
            · cases h
          · obtain ⟨fs, h2, rfl⟩ := om h
            obtain ⟨q1, q2⟩ := S.sA g h2
            cases args with
            | nil =>
              cases n with
              | zero => cases h2
              | succ n =>
                unfold dA at h2
                cases h2
                exact se_call0 D (g.room hc) hg
            | cons e es =>
              rw [List.all_cons, Bool.and_eq_true] at q2
              exact se_call D (g.room hc) hg q2.1 q2.2 q1
        · cases h
      · rename_i hgi
        split at h
        · exact snd_b1 S g hgi h
        · exact snd_b2 S g hgi h
        · cases h
      · cases h
  · cases h
theorem snd : ∀ n : Nat, Snd t C T k n
  | 0 => ⟨fun _ h => (by cases h), fun _ h => (by cases h), fun _ h => (by cases h), fun _ h => (by cases h), fun _ _ h => (by cases h), fun _ h => (by cases h), fun _ h => (by cases h), fun _ h => (by cases h), fun _ h => (by cases h), fun _ h => (by cases h), fun _ _ _ _ h => (by cases h), fun _ _ _ _ h => (by cases h)⟩
  | n + 1 => have S := snd n
    ⟨fun g h => snd_e S g h, fun g h => snd_c S g h, fun g h => snd_t S g h, fun g h => snd_a S g h, fun g ht h => snd_al S g ht h, fun g h => snd_p S g h, fun g h => snd_l S g h, fun g h => snd_lc S g h, fun g h => snd_o S g h, fun g h => snd_i S g h, fun a b c d h => snd_g S a b c d h, fun a b c d h => snd_gs S a b c d h⟩
end
end Pf
end

section
set_option Elab.async false
set_option linter.all false
set_option maxRecDepth 100000
set_option maxHeartbeats 4000000
/-! P16: statements read are sound. -/
namespace Pf
open PySem PySem.Spec PyProof.Rows L2
section
variable {t : TX} {LT : XAt} {T : List (Addr × Str)} {C : Calls} {k n : Nat} {m : Md} {sc : Scope} {X : Cx}
theorem GX.tr (g : GX t LT T C k m sc X) {pn : List (Addr × Obj)} {xe : Value → Shared → Prop} (hp : PassesOwn (model X.prog X.w) X.A X.env xe) : GX t LT T C k ⟨m.calm, m.top, false, m.stm⟩ sc (X.tr pn xe) :=
  ⟨g.eN, g.nd, g.esc, g.kind, g.calm, g.room, g.un, g.val, g.bi, g.fd, fun h x i np hx => let q := g.fn h x i np hx; ⟨q.ex, q.nd, q.bad⟩, fun h => g.lam h, g.cls, g.clm, fun h => g.rs h, fun h => (nomatch h), fun h => g.top h, fun h => ⟨hp, (g.stm h).2⟩⟩
theorem GX.suite (g : GX t LT T C k m sc X) {LT' : XAt} {ev : Bool} {a : Addr} {pn : List (Addr × Obj)} (hev : ev = true → LT'.isSome = true ∧ IsEAt LT' (X.suite a pn) t.CT) : GX t LT' T C k ⟨false, false, ev, false⟩ sc (X.suite a pn) :=
  ⟨g.eN, g.nd, g.esc, g.kind, fun h => (nomatch h), fun h => (nomatch h), g.un, g.val, g.bi, g.fd, fun h => (nomatch h), fun h => (nomatch h), g.cls, g.clm, fun h => (nomatch h), hev, fun h => (nomatch h), fun h => (nomatch h)⟩
structure SndS (t : TX) (C : Calls) (T : List (Addr × Str)) (k n : Nat) : Prop where
  sS : ∀ {LT m sc X st f}, GX t LT T C k m sc X → (∀ x, X.fn x = true) → dS t C n m sc st = some f → SSt LT T X st f
  sSs : ∀ {LT m sc X st f}, GX t LT T C k m sc X → (∀ x, X.fn x = true) → dSs t C n m sc st = some f → SSs LT T X st f
  sHs : ∀ {LT m sc X hds l}, GX t LT T C k m sc X → (∀ x, X.fn x = true) → dHs t C n sc hds = some l → SHs T X t.CT hds l
theorem ssnd_ss (S : SndS t C T k n) {st : List Stmt} {f : St} (g : GX t LT T C k m sc X) (hf : ∀ x, X.fn x = true) (h : dSs t C (n + 1) m sc st = some f) : SSs LT T X st f := by
  unfold dSs at h
  split at h
  · cases h; exact sss_nil
  · rename_i s
    cases h
    refine sss_one ?_
    cases q : dS t C n m sc s with
    | none => exact ss_never
    | some a => exact S.sS g hf q
  · rename_i s r _
    obtain ⟨b, h2, rfl⟩ := om h
    refine sss_cons ?_ (S.sSs g hf h2)
    cases q : dS t C n m sc s with
    | none => exact ss_never
    | some a => exact S.sS g hf q
theorem own_def (g : GX t LT T C k m sc X) (hf : ∀ x, X.fn x = true) (x : Str) (h : locB sc x = true) : Loc X.env.scope x ∧ (X.fn x = true ∨ X.env.scope.names.lookup x = some .local) :=
  ⟨by rw [g.esc]; exact loc_ok h, .inl (hf x)⟩
theorem names_ok (g : GX t LT T C k m sc X) {c : Str} (h1 : (t.CT.lookup c).isSome = true) (h2 : glB sc c = true) (h3 : okN c = true) : Names X c (.ref (He.ga X.K c)) :=
  ⟨by show X.env.scope.names.lookup _ = _; rw [g.esc]; exact gl_ok h2, (okN_ok h3).1, .inl (g.clm c h1)⟩
theorem ssnd_hs (S : SndS t C T k n) {hds : List ExceptHandler} {l : List (Str × St)} (g : GX t LT T C k m sc X) (hf : ∀ x, X.fn x = true) (h : dHs t C (n + 1) sc hds = some l) : SHs T X t.CT hds l := by
  unfold dHs at h
  split at h
  · cases h; exact .nil
  · split at h
    · rename_i hh
      obtain ⟨fs, h1, h⟩ := ob h
      obtain ⟨l', h2, rfl⟩ := om h
      exact .cons (names_ok g hh.1 hh.2.1 hh.2.2) hh.1 (fun a oe pn => S.sSs (g.suite (LT' := none) (ev := false) (fun h => (nomatch h))) hf h1) (S.sHs g hf h2)
    · cases h
  · cases h
theorem sub_assign {o i : Expr} {p : Pos} {env : PySem.Env} (h : isSliceE i = false) (v : Value) : assign (.Subscript o i p) env v = (do
      let ov ← holding [v] (eval o env)
      let iv ← holding [v, ov] (eval i env)
      standAt p
      holding [v, ov, iv] (setItem ov iv v)
      release [v, ov, iv] []) := by
  cases i <;> first | rfl | cases h
theorem par_ok {ts vs : List Expr} {fA : Option Ar} {f : St} {kt k2 : Nat} {p pt pos : Pos} (g : GX t LT T C k m sc X) (hc : X.calm = true) (hA : ∀ fs, fA = some fs → SAr LT T X vs fs) (h : dPar t sc ts vs fA = some f) : SSt LT T X (.Assign [.Tuple ts kt pt] (.Tuple vs k2 p) pos) f := by
  have hk : X.env.scope.kind = .function := by rw [g.esc]; exact g.kind
  unfold dPar at h
  split at h
  · obtain ⟨i, h1, h⟩ := ob h
    obtain ⟨j, h2, h⟩ := ob h
    split at h
    · rename_i hh
      obtain ⟨q1, q2, q3, q4⟩ := hh
      obtain ⟨fs, h3, rfl⟩ := om h
      exact ss_par hc (by rw [g.eN]; exact g.nd) (by rw [g.eN]; exact ixOf_ok h1) (by rw [g.eN]; exact ixOf_ok h2) q1 (by rw [g.esc]; exact q2) (by rw [g.esc]; exact q3) (hA fs h3) (swapN_ok hk (by rw [g.esc]; exact q4))
    · cases h
  · obtain ⟨i, h1, h⟩ := ob h
    obtain ⟨j, h2, h⟩ := ob h
    obtain ⟨l, h3, h⟩ := ob h
    split at h
    · rename_i hh
      obtain ⟨⟨q0, q1, q2⟩, q3, q4, q5, q6⟩ := hh
      obtain ⟨fs, h4, rfl⟩ := om h
      exact ss_par3 hc (by rw [g.eN]; exact g.nd) (by rw [g.eN]; exact ixOf_ok h1) (by rw [g.eN]; exact ixOf_ok h2) (by rw [g.eN]; exact ixOf_ok h3) q0 q1 q2 (by rw [g.esc]; exact q3) (by rw [g.esc]; exact q4) (by rw [g.esc]; exact q5) (hA fs h4) (swapN_ok hk (by rw [g.esc]; exact q6))
    · cases h
  · cases h
theorem asgT_ok {ts : List Expr} {e : Expr} {kt : Nat} {pt pos : Pos} {f : St} (g : GX t LT T C k m sc X) (hfn : ∀ x, X.fn x = true) (hc : X.calm = true) (hcm : isCompE e = false)
    (h : dAsgT t sc ts e (fun vs => dA t C n m sc vs) (dE t C n m sc e) (dG t C n (fun x => locB sc x) (.Tuple ts kt pt)) = some f) : SSt LT T X (.Assign [.Tuple ts kt pt] e pos) f := by
  have S := snd (t := t) (C := C) (T := T) (k := k) n
  have hk : X.env.scope.kind = .function := by rw [g.esc]; exact g.kind
  unfold dAsgT at h
  split at h
  · split at h
    · exact par_ok g hc (fun fs hfs => (S.sA g hfs).1) h
    · rename_i hsw
      obtain ⟨gg, h1, h⟩ := ob h
      obtain ⟨fe, h2, rfl⟩ := om h
      obtain ⟨q1, q2⟩ := S.sG (LT := LT) (X := X) g.eN g.nd hc (own_def g hfn) h1
      exact ss_asg (sw_tup hcm) (swapN_ok hk (by rw [g.esc]; exact hsw)) q2 q1 (S.sE g h2)
    · cases h
  · rename_i hnt
    obtain ⟨gg, h1, h⟩ := ob h
    obtain ⟨fe, h2, rfl⟩ := om h
    obtain ⟨q1, q2⟩ := S.sG (LT := LT) (X := X) g.eN g.nd hc (own_def g hfn) h1
    exact ss_asg (sw_tup hcm) (sw_no fun a b c hh => hnt a b c hh) q2 q1 (S.sE g h2)
theorem raise_ok {c : Str} {p p2 pos : Pos} (g : GX t LT T C k m sc X) : SSt LT T X (.Raise (some (.Call (.Name c p) [] [] p2)) none pos) (dRaise t sc m c) := by
  unfold dRaise
  split
  · rename_i hm
    split
    · rename_i hgi
      obtain ⟨h1, h2, h3⟩ := g.gl hgi
      obtain ⟨B, nI, iI, bm, f1, f2, f3, f4, f5⟩ := g.rs hm.2 c h3
      exact ss_raise (g.calm hm.1) (pmk_own0 f1 f2 f3 f4 f5 h1 (okN_ok h2).1)
    · exact ss_never
  · exact ss_never
theorem swB_comp {x : Str} {p : Pos} {e : Expr} (h : swB sc x p e = true) : ∃ a b c d, e = .ListComp a b c d := by
  unfold swB at h
  split at h
  · exact ⟨_, _, _, _, rfl⟩
  · cases h
theorem comp_or {e : Expr} (h : isCompE e = false ∨ listy e = true) : isCompE e = false ∨ ∃ a b c d, e = .ListComp a b c d := by
  rcases h with h | h
  · exact .inl h
  · cases e <;> first | exact .inl rfl | exact .inr ⟨_, _, _, _, rfl⟩ | cases h
theorem dL_shape {elt : Expr} {gs : List Comprehension} {scope : Scope} {cp : Pos} {f : Ar} (h : dL t C n m sc (.ListComp elt gs scope cp) = some f) : ∃ tg iter ifs, gs = [⟨tg, iter, ifs, 0⟩] := by
  cases n with
  | zero => cases h
  | succ n =>
    unfold dL at h
    split at h
    · rename_i heq
      cases heq
    · rename_i heq
      cases heq
      exact ⟨_, _, _, rfl⟩
    · rename_i heq
      cases heq
    · rename_i heq
      cases heq
    · rename_i heq
      cases heq
    · rename_i heq
      cases heq
    · rename_i heq
      cases heq
    · cases h
theorem ssnd_s (S : SndS t C T k n) {st : Stmt} {f : St} (g : GX t LT T C k m sc X) (hfn : ∀ x, X.fn x = true) (h : dS t C (n + 1) m sc st = some f) : SSt LT T X st f := by
  have E := snd (t := t) (C := C) (T := T) (k := k) n
  have hk : X.env.scope.kind = .function := by rw [g.esc]; exact g.kind
  have hnd : X.N.Nodup := by rw [g.eN]; exact g.nd
  unfold dS at h
  split at h
  · cases h; exact ss_doc
  · split at h
    · cases h
    · rename_i hc
      rw [Bool.not_eq_true] at hc
      obtain ⟨fe, h1, rfl⟩ := om h
      exact ss_expr (sw_none hc) (E.sE g h1)
  · rename_i x p e pos
    split at h
    · rename_i hl
      obtain ⟨i, h1, h⟩ := ob h
      have hN : X.N[i]? = some x := by rw [g.eN]; exact ixOf_ok h1
      obtain ⟨o1, o2⟩ := own_def g hfn x hl
      split at h
      · rename_i hd0
        cases h
        rw [Bool.and_eq_true] at hd0
        obtain ⟨dp, rfl⟩ : ∃ dp, e = .Dict [] [] dp := by
          have := hd0.1
          unfold isDict0 at this
          split at this
          · exact ⟨_, rfl⟩
          · cases this
        exact ss_set hnd hN o1 o2 rfl se_dictT
      split at h
      · rename_i hsw
        obtain ⟨fl, h2, rfl⟩ := om h
        obtain ⟨elt, gs, scope, cp, rfl⟩ := swB_comp hsw
        obtain ⟨tg, iter, ifs, rfl⟩ := dL_shape h2
        obtain ⟨it, gg, sl, ft, fe, rfl, hc, hi, bok, hsl, hb, hf⟩ := E.sLC g h2
        have hloc : X.env.scope.names.lookup x = some .local := by
          rw [g.esc]
          unfold swB at hsw
          simp only [Bool.and_eq_true, beq_iff_eq] at hsw
          exact hsw.1.1
        exact ss_setLc hc hnd hN hloc (by rw [swB_ok hk (.inr ⟨_, _, _, _, rfl⟩), g.esc, hsw]) hi bok hsl hb hf
      · rename_i hsw
        rw [Bool.not_eq_true] at hsw
        split at h
        · rename_i hcl
          obtain ⟨fe, h2, rfl⟩ := om h
          refine ss_set hnd hN o1 o2 ?_ (E.sE g h2)
          rw [swB_ok hk (comp_or hcl), g.esc, hsw]
        · cases h
    · cases h
  · split at h
    · cases h
    · rename_i hh
      have hh := Classical.not_not.mp hh
      exact asgT_ok g hfn (g.calm hh.1) hh.2 h
  · split at h
    · cases h
    · rename_i hh
      rw [not_or, Bool.not_eq_true, Bool.not_eq_true] at hh
      obtain ⟨fo, h1, h⟩ := ob h
      obtain ⟨fi, h2, h⟩ := ob h
      obtain ⟨fe, h3, rfl⟩ := om h
      exact ss_sub (set_l (by have := g.un; omega)) (sub_assign hh.2) (sw_none hh.1) sw_sub (E.sE g h1) (E.sE g h2) (E.sE g h3)
  · obtain ⟨fe, h1, rfl⟩ := om h
    exact ss_ret (E.sE g h1)
  · cases h; exact ss_retN
  · obtain ⟨fc, h1, h⟩ := ob h
    obtain ⟨fa, h2, h⟩ := ob h
    obtain ⟨fb, h3, rfl⟩ := om h
    exact ss_if (E.sT g h1) (S.sSs g hfn h2) (S.sSs g hfn h3)
  · split at h
    · rename_i hh
      obtain ⟨hc, hs, hset⟩ := hh
      obtain ⟨fi, h1, h⟩ := ob h
      obtain ⟨gg, h2, h⟩ := ob h
      obtain ⟨fb, h3, rfl⟩ := om h
      obtain ⟨q1, q2⟩ := E.sG (LT := LT) (X := X) g.eN g.nd (g.calm hc) (own_def g hfn) h2
      exact ss_for (g.stm hs).1 (g.calm hc) (E.sI g h1) q1 (S.sSs g hfn h3) (folded_ok hset)
    · cases h
  · split at h
    · rename_i hs
      obtain ⟨fc, h1, h⟩ := ob h
      obtain ⟨fb, h3, rfl⟩ := om h
      exact ss_while (g.stm hs).1 (E.sT g h1) (S.sSs g hfn h3)
    · cases h
  · cases h; exact ss_pass
  · cases h; exact ss_brk
  · cases h; exact ss_cnt
  · cases h; exact raise_ok g
  · cases h; exact ss_never
  · split at h
    · rename_i hh
      obtain ⟨hs, hC, hgl, hok, hx⟩ := hh
      obtain ⟨i, h1, h⟩ := ob h
      obtain ⟨fb, h2, h⟩ := ob h
      obtain ⟨fs, h3, rfl⟩ := om h
      obtain ⟨p1, p2, p3⟩ := g.stm hs
      exact ss_try p2 p3 hnd (by rw [g.eN]; exact ixOf_ok h1) (by show X.env.scope.names.lookup _ = _; rw [g.esc]; exact hx) (names_ok g hC hgl hok) g.cls hC (fun pn xe hp => S.sSs (g.tr hp) hfn h2)
        fun c a oe pn hk hz hv => S.sSs (g.suite (LT' := some (c, a)) (ev := true) fun _ => ⟨rfl, isE_suite g.cls hk hz hv⟩) hfn h3
    · cases h
  · split at h
    · rename_i hs
      obtain ⟨fb, h2, h⟩ := ob h
      obtain ⟨l, h3, rfl⟩ := om h
      obtain ⟨p1, p2, p3⟩ := g.stm hs
      exact ss_trys p2 p3 g.cls (fun pn xe hp => S.sSs (g.tr hp) hfn h2) (S.sHs g hfn h3)
    · cases h
  · cases h
theorem sndS : ∀ n : Nat, SndS t C T k n
  | 0 => ⟨fun _ _ h => (by cases h), fun _ _ h => (by cases h), fun _ _ h => (by cases h)⟩
  | n + 1 => have S := sndS n
    ⟨fun g hf h => ssnd_s S g hf h, fun g hf h => ssnd_ss S g hf h, fun g hf h => ssnd_hs S g hf h⟩
end
end Pf
end

section
set_option Elab.async false
set_option linter.all false
set_option maxRecDepth 100000
set_option maxHeartbeats 4000000
/-! P17: a program: its defs, its lambdas, at every depth. -/
namespace Pf
open PySem PySem.Spec PyProof.Rows L2
structure DefP where
  /-- the name that holds it, its own name -/
  x : Str
  q : Str
  st : Stmt
  N : List Str
  ps : List Str
  lam : Bool
  b : Calls → St
structure Prg where
  defs : List DefP
  G : List (Str × GI)
  CT : CTab
def lTX (P : Prg) (li : LamI) : TX := ⟨li.N, P.G, P.CT, ""⟩
noncomputable def Cs (P : Prg) : Nat → Calls
  | 0 => ⟨fun _ _ _ => .bad, fun _ _ _ _ => .bad⟩
  | k + 1 => ⟨fun i ds S => match P.defs[i]? with
      | some d => gcR S (runB (d.b (Cs P k)) d.N.length d.ps.length ds S)
      | none => .bad,
    fun li caps args S => if lamB li = true ∧ isDs caps = true ∧ isDs args = true ∧ args.length = li.ps.length then (match dE (lTX P li) (Cs P k) 60 ⟨true, false, false, false⟩ li.scope li.body with
      | some fb => okR (fb (lamStart li args caps) S)
      | none => .bad) else .bad⟩
/-- what is known of the module -/
structure Mdl (Pg : Prg) (T : List (Addr × Str)) (P : Program) (w : World) (K : PySem.W.Frag) (mg : Str → Option Value) (base : Heap) : Prop where
  fn : ∀ (i : Nat) (d : DefP), Pg.defs[i]? = some d → ∃ fd, FunD K d.q d.q (defArgs d.st) (defBody d.st) (defScope d.st) [] [] (He.fAd K (d.x, none)) fd ∧ mg d.x = some (.ref (He.fAd K (d.x, none))) ∧ L2.Binds K fd d.ps [] ∧ okN d.x = true
  den : ∀ (i : Nat) (d : DefP), Pg.defs[i]? = some d → ∀ C, dSs ⟨d.N, Pg.G, Pg.CT, d.q ++ ".<locals>."⟩ C 60 ⟨true, d.lam, false, true⟩ (defScope d.st) (defBody d.st) = some (d.b C)
  sc : ∀ (i : Nat) (d : DefP), Pg.defs[i]? = some d → FnScope d.N d.ps (defScope d.st)
  gfn : ∀ (x : Str) (i np : Nat), Pg.G.lookup x = some (.fn i np) → ∃ d : DefP, Pg.defs[i]? = some d ∧ d.x = x ∧ d.ps.length = np
  val : ∀ (x : Str) (d : D), Pg.G.lookup x = some (.val d) → ∃ v u, mg x = some u ∧ RelV v u ∧ ∀ LT L H, RepV K LT L H d v
  bi : ∀ x : Str, Pg.G.lookup x = some .bi → mg x = none
  fd : ∀ (x : Str) (kvs : List (Str × D)), Pg.G.lookup x = some (.fd kvs) → ∃ a, mg x = some (.ref a) ∧ FdAt K w a kvs
  cls : ClsOk K Pg.CT
  clm : ∀ c : Str, (Pg.CT.lookup c).isSome = true → mg c = some (.ref (He.ga K c))
  rs : ∀ c : Str, Pg.G.lookup c = some .cls → ∃ B newId initId bmB, ExcBaseFacts B newId initId bmB ∧ PySem.W.excIn K (He.ga K c) bmB newId = true ∧ mg c = some (.ref (He.ga K c)) ∧ PySem.W.keepIn K (.ref (He.ga K c)) = true ∧
    PySem.W.subIn K (.ref (He.ga K c)) (.type "BaseException") = some true ∧ PySem.W.typeIn K (.ref (He.ga K c)) = some (.type "type")
  lam : ∀ (i : Nat) (d : DefP), Pg.defs[i]? = some d → d.lam = true → LamX.TabB base mg (He.cT K (d.x, none)).1 (He.cT K (d.x, none)).2 ∧ ((He.cT K (d.x, none)).2, d.q ++ ".<locals>." ++ "<lambda>") ∈ T ∧ ∀ p ∈ T, p.1 = (He.cT K (d.x, none)).2 → p.2 = d.q ++ ".<locals>." ++ "<lambda>"
section
variable {Pg : Prg} {T : List (Addr × Str)} {P : Program} {w : World} {K : PySem.W.Frag} {mg : Str → Option Value} {base : Heap}
/-- a def by its body; its code object is told -/
theorem def_okD {x qual : Str} {params : Arguments} {body : List Stmt} {scope : Scope} {f : Addr} {fd : FuncData} {N ps : List Str} {k : Nat} {b : St} (F : FunD K x qual params body scope [] [] f fd) (S : FnScope N ps scope)
    (hbody : ∀ (cdv : Value) (A : Around) (outer : List PySem.Env) (s : Shared) (H : Hp) (E : XK), RoomG k (A.deeper (envOfC qual scope s.heap.objs.size f cdv)) → (∃ oc od osl, K.lookup f = some ⟨oc, od, .func fd, osl⟩ ∧ fd.code = cdv ∧ ∃ c, cdv = .ref c) → SSs none T (cxOf (L2.CX P w) P w K mg base N qual scope f cdv A outer s H E) body b) :
    FnG P w K mg base (L2.CX P w) (k + 1) f fd ps (spOf K none T ps.length fun ds S => gcR S (runB b N.length ps.length ds S)) := by
  obtain ⟨oc, od, dV, kV, doc, pm, an, cdv, ct, osl, rfl, lk, hcd, _, _⟩ := F.ex
  refine fnG_of lk hcd S (fun vs H Q E h => h.1) fun A outer s H vs Q E hr ⟨hl, ds, St, L, rd, sr, p⟩ => ?_
  have tk : Takes (cxOf (L2.CX P w) P w K mg base N qual scope f cdv A outer s H E) (fun c d _ H' => E c d H') := takes_of rfl rfl rfl rfl
  refine ⟨_, hbody cdv A outer s H E hr ⟨oc, od, osl, lk, rfl, He.codeIn_ref hcd⟩ _ tk, ds.map some ++ List.replicate (N.length - ds.length) none, St, L, ER.start rd N _ rfl, sr, ?_⟩
  have p' := gc_post sr p
  have hlen : ds.length = ps.length := by rw [rd.length]; exact hl
  unfold runB at p'
  rw [if_pos hlen] at p'
  cases hq : b (ds.map some ++ List.replicate (N.length - ds.length) none) St with
  | nx ρ S1 => rw [hq] at p'; exact fun σ' H' L' r s e => p' .non H' L' .non s e
  | rt d S1 => rw [hq] at p'; exact p'
  | ex c ρ S1 => rw [hq] at p'; exact fun dx σ' H' L' r s e => p' dx H' L' s e
  | bk ρ S1 => rw [hq] at p'; exact (show False from p').elim
  | ct ρ S1 => rw [hq] at p'; exact (show False from p').elim
  | bad => rw [hq] at p'; exact p'
/-- every def at depth k -/
def DefsAt (Pg : Prg) (T : List (Addr × Str)) (P : Program) (w : World) (K : PySem.W.Frag) (mg : Str → Option Value) (base : Heap) (k : Nat) : Prop :=
  ∀ (i : Nat) (d : DefP), Pg.defs[i]? = some d → ∃ fd, FnG P w K mg base (L2.CX P w) k (He.fAd K (d.x, none)) fd d.ps (spOf K none T d.ps.length ((Cs Pg k).f i)) ∧ L2.Binds K fd d.ps [] ∧ ∃ (oc : Value) (od : Option Addr) (osl : Array (Option Value)), K.lookup (He.fAd K (d.x, none)) = some (⟨oc, od, .func fd, osl⟩ : Obj)
theorem defs_bad {k i : Nat} {d : DefP} (h : Pg.defs[i]? = some d) (ds : List D) (S : Store) (hl : ds.length ≠ d.ps.length) : (Cs Pg k).f i ds S = .bad := by
  cases k with
  | zero => rfl
  | succ k =>
    show (match Pg.defs[i]? with
      | some d => gcR S (runB (d.b (Cs Pg k)) d.N.length d.ps.length ds S)
      | none => .bad) = .bad
    rw [h]
    show gcR S (runB (d.b (Cs Pg k)) d.N.length d.ps.length ds S) = .bad
    unfold runB
    rw [if_neg hl]
    rfl
theorem room_un {k : Nat} {A : Around} (h : RoomG k A) : A.units + 65 < cLine := by have := h.un; omega
/-- a context of this module -/
theorem gx_of (M : Mdl Pg T P w K mg base) {k : Nat} (hD : DefsAt Pg T P w K mg base k) {X : Cx} (e1 : X.prog = P) (e2 : X.w = w) (e3 : X.K = K) (e4 : X.mg = mg) (e5 : X.base = base) (hL : LamsOk none T X (Cs Pg k) k) {N : List Str} {q : Str} {m : Md} {sc : Scope}
    (hN : X.N = N) (nd : N.Nodup) (hs : X.env.scope = sc) (hk : sc.kind = .function) (hc : X.calm = true) (hr : RoomG k X.A) (hev : m.ev = false) (htop : m.top = true → LamMk T X ∧ (∀ x, X.fn x = true) ∧ X.env.qual = q)
    (hst : m.stm = true → PassesOwn (model X.prog X.w) X.A X.env X.xe ∧ X.stack = X.env :: X.outer ∧ X.env.frame = some X.env.locals) : GX ⟨N, Pg.G, Pg.CT, q⟩ none T (Cs Pg k) k m sc X := by
  subst e1 e2 e3 e4 e5
  refine ⟨hN, nd, hs, hk, fun _ => hc, fun _ => hr, room_un hr, M.val, M.bi, M.fd, fun _ x i np hx => ?_, fun _ => hL, M.cls, M.clm, fun _ c hcl => ?_, fun h => (by rw [hev] at h; cases h), htop, hst⟩
  · obtain ⟨d, h1, h2, h3⟩ := M.gfn x i np hx
    obtain ⟨fd, f1, f2, f3, f4⟩ := M.fn i d h1
    obtain ⟨fd2, g1, g2, _⟩ := hD i d h1
    subst h2 h3
    exact ⟨⟨_, fd2, d.ps, rfl, g1, f2, f1.kp, g2⟩, (okN_ok f4).1, fun ds S hl => defs_bad h1 ds S hl⟩
  · obtain ⟨B, nI, iI, bm, a1, a2, a3, a4, a5, a6⟩ := M.rs c hcl
    exact ⟨B, nI, iI, bm, a1, a2, a3, a4, raises_own a5 a6⟩
theorem lams_at (M : Mdl Pg T P w K mg base) : ∀ k, DefsAt Pg T P w K mg base k ∧ ∀ X : Cx, X.prog = P → X.w = w → X.K = K → X.mg = mg → X.base = base → LamsOk none T X (Cs Pg k) k
  | 0 => ⟨fun i d h => by
      obtain ⟨fd, f1, f2, f3, f4⟩ := M.fn i d h
      exact ⟨fd, ⟨fun vs H Q E hh => hh.1, fun A outer s H args us vs Q E hr he hb hv hh => by
        obtain ⟨_, ds, S, L, _, _, p⟩ := hh
        exact (show False from p).elim⟩, f3, by obtain ⟨oc, od, dV, kV, doc, pm, an, cdv, ct, osl, e1, lk, _, _, _⟩ := f1.ex; exact ⟨oc, od, osl, lk⟩⟩, fun X _ _ _ _ _ li caps args S => .inl rfl⟩
  | k + 1 => by
    obtain ⟨hD, hL⟩ := lams_at M k
    refine ⟨fun i d h => ?_, fun X e1 e2 e3 e4 e5 li caps args S => ?_⟩
    · obtain ⟨fd, f1, f2, f3, f4⟩ := M.fn i d h
      refine ⟨fd, ?_, f3, by obtain ⟨oc, od, dV, kV, doc, pm, an, cdv, ct, osl, e1, lk, _, _, _⟩ := f1.ex; exact ⟨oc, od, osl, lk⟩⟩
      have e : (Cs Pg (k + 1)).f i = fun ds S => gcR S (runB (d.b (Cs Pg k)) d.N.length d.ps.length ds S) := by
        funext ds S
        show (match Pg.defs[i]? with
          | some d => gcR S (runB (d.b (Cs Pg k)) d.N.length d.ps.length ds S)
          | none => .bad) = _
        rw [h]
      rw [e]
      refine def_okD f1 (M.sc i d h) fun cdv A outer s H E hr ⟨oc, od, osl, lk, hcode, c, hcv⟩ => ?_
      have g : GX ⟨d.N, Pg.G, Pg.CT, d.q ++ ".<locals>."⟩ none T (Cs Pg k) k ⟨true, d.lam, false, true⟩ (defScope d.st) (cxOf (L2.CX P w) P w K mg base d.N d.q (defScope d.st) (He.fAd K (d.x, none)) cdv A outer s H E) := by
        refine gx_of M hD rfl rfl rfl rfl rfl (hL _ rfl rfl rfl rfl rfl) rfl (M.sc i d h).nd rfl (M.sc i d h).kind rfl hr rfl (fun hl => ?_) (fun _ => ⟨passes_of rfl, rfl, rfl⟩)
        obtain ⟨t1, t2, t3⟩ := M.lam i d h hl
        have ec : (He.cT K (d.x, none)).1 = c := He.codeOf_eq lk (hcode.trans hcv)
        exact ⟨⟨_, _, t1, by rw [ec]; exact hcv, t2, t3⟩, fun _ => rfl, rfl⟩
      exact (sndS (t := ⟨d.N, Pg.G, Pg.CT, d.q ++ ".<locals>."⟩) (C := Cs Pg k) (T := T) (k := k) 60).sSs g (fun _ => rfl) (M.den i d h _)
    · by_cases hc : lamB li = true ∧ isDs caps = true ∧ isDs args = true ∧ args.length = li.ps.length
      · cases hd : dE (lTX Pg li) (Cs Pg k) 60 ⟨true, false, false, false⟩ li.scope li.body with
        | none =>
          left
          show (if lamB li = true ∧ isDs caps = true ∧ isDs args = true ∧ args.length = li.ps.length then (match dE (lTX Pg li) (Cs Pg k) 60 ⟨true, false, false, false⟩ li.scope li.body with
            | some fb => okR (fb (lamStart li args caps) S)
            | none => .bad) else .bad) = .bad
          rw [if_pos hc, hd]
        | some fb =>
          right
          have ok := lamB_ok hc.1
          refine ⟨k, rfl, ok, hc.2.1, hc.2.2.1, hc.2.2.2, fb, ?_, fun f cl c' A outer s H E hr => ?_⟩
          · show (if lamB li = true ∧ isDs caps = true ∧ isDs args = true ∧ args.length = li.ps.length then (match dE (lTX Pg li) (Cs Pg k) 60 ⟨true, false, false, false⟩ li.scope li.body with
              | some fb => okR (fb (lamStart li args caps) S)
              | none => .bad) else .bad) = _
            rw [if_pos hc, hd]
          · subst e1 e2 e3 e4 e5
            have g : GX ⟨li.N, Pg.G, Pg.CT, ""⟩ none T (Cs Pg k) k ⟨true, false, false, false⟩ li.scope (ncxL X.prog X.w X.K X.mg X.base li f cl c' A outer s H E) :=
              gx_of (X := ncxL X.prog X.w X.K X.mg X.base li f cl c' A outer s H E) (N := li.N) (m := ⟨true, false, false, false⟩) M hD rfl rfl rfl rfl rfl (hL _ rfl rfl rfl rfl rfl) rfl ok.S.nd rfl ok.S.kind rfl hr rfl (fun h => (nomatch h)) (fun h => (nomatch h))
            exact (snd (t := ⟨li.N, Pg.G, Pg.CT, ""⟩) (C := Cs Pg k) (T := T) (k := k) 60).sE g hd
      · left
        show (if lamB li = true ∧ isDs caps = true ∧ isDs args = true ∧ args.length = li.ps.length then (match dE (lTX Pg li) (Cs Pg k) 60 ⟨true, false, false, false⟩ li.scope li.body with
            | some fb => okR (fb (lamStart li args caps) S)
            | none => .bad) else .bad) = .bad
        rw [if_neg hc]
end
end Pf
end

section
set_option Elab.async false
set_option linter.all false
set_option maxRecDepth 100000
set_option maxHeartbeats 1000000
/-! P18: lambdas of a text; scopes by a Bool. -/
namespace Pf
open PySem PySem.Spec PyProof.Rows L2
/-- the lambdas of an expression, in the order of its text -/
def lamsE : Nat → Expr → List (Arguments × Expr × Scope)
  | 0, _ => []
  | n + 1, e => match e with
    | .Lambda p b sc _ => [(p, b, sc)]
    | .BoolOp _ es _ => (es.map (lamsE n)).flatten
    | .BinOp a _ b _ => lamsE n a ++ lamsE n b
    | .UnaryOp _ a _ => lamsE n a
    | .IfExp a b c _ => lamsE n a ++ lamsE n b ++ lamsE n c
    | .Compare a _ bs _ => lamsE n a ++ (bs.map (lamsE n)).flatten
    | .Call f es _ _ => lamsE n f ++ (es.map (lamsE n)).flatten
    | .Attribute a _ _ => lamsE n a
    | .Subscript a b _ => lamsE n a ++ lamsE n b
    | .List es _ => (es.map (lamsE n)).flatten
    | .Tuple es _ _ => (es.map (lamsE n)).flatten
    | _ => []
def lamsS : Nat → Stmt → List (Arguments × Expr × Scope)
  | 0, _ => []
  | n + 1, s => match s with
    | .Expr e _ => lamsE n e
    | .Assign _ e _ => lamsE n e
    | .Return (some e) _ => lamsE n e
    | .If c a b _ => lamsE n c ++ (a.map (lamsS n)).flatten ++ (b.map (lamsS n)).flatten
    | .For _ e b _ _ => lamsE n e ++ (b.map (lamsS n)).flatten
    | .While c b _ _ => lamsE n c ++ (b.map (lamsS n)).flatten
    | .Try b _ _ _ _ => (b.map (lamsS n)).flatten
    | _ => []
def lamAt (qual : Str) (body : List Stmt) (k : Nat) : LamI :=
  let l := ((body.map (lamsS 60)).flatten).getD k (⟨[], [], none, [], [], none, []⟩, .Constant .none 0 ⟨0, 0, 0, 0⟩, ⟨.function, [], false, false, []⟩)
  mkLam (qual ++ "<lambda>") l.1 l.2.1 l.2.2
def fnscB (N ps : List Str) (sc : Scope) : Bool :=
  decide (sc.kind = .function) && !sc.isCoroutine && !sc.isGenerator && decide N.Nodup && decide (N.take ps.length = ps) && ps.all (fun x => decide (sc.names.lookup x = some .local) || decide (sc.names.lookup x = some .cell)) && sc.names.all fun y => !decide (y.2 = .free)
theorem fnsc_by {N ps : List Str} {sc : Scope} (h : fnscB N ps sc = true) : FnScope N ps sc := by
  unfold fnscB at h
  simp only [Bool.and_eq_true, Bool.not_eq_true', decide_eq_true_eq, List.all_eq_true, Bool.or_eq_true, decide_eq_false_iff_not] at h
  obtain ⟨⟨⟨⟨⟨⟨h1, h2⟩, h3⟩, h4⟩, h5⟩, h6⟩, h7⟩ := h
  exact ⟨h1, h2, h3, h4, h5, h6, h7⟩
end Pf
end

section
set_option Elab.async false
set_option linter.all false
set_option maxRecDepth 100000
set_option maxHeartbeats 4000000
/-! P19: the module by a Bool; the law's end. -/
namespace Pf
open PySem PySem.Spec PyProof.Rows L2
/-- u stands for d, in K -/
def valB (K : PySem.W.Frag) : Nat → D → Value → Bool
  | 0, _, _ => false
  | n + 1, d, u => match d, u with
    | .non, .none => true
    | .bl b, .bool c => decide (b = c)
    | .int i, .int j _ => decide (i = j)
    | .str x, .str y _ => decide (x = y)
    | .tup .any ds, .ref a => (match K.lookup a with
      | some ⟨.type c, _, .seq its _, _⟩ => decide (c = "tuple") && (decide (its.size ≤ sizeLine) && (decide (ds.length = its.toList.length) && (ds.zip its.toList).all fun p => valB K n p.1 p.2))
      | _ => false)
    | _, _ => false
theorem valB_ok {K : PySem.W.Frag} : ∀ (n : Nat) {d : D} {u : Value}, valB K n d u = true → ∃ v, RelV v u ∧ ∀ (LT : XAt) L H, RepV K LT L H d v
  | 0, _, _, h => by cases h
  | n + 1, d, u, h => by
    unfold valB at h
    split at h
    · exact ⟨.non, rfl, fun _ _ _ => .non⟩
    · rename_i b c
      rw [of_decide_eq_true h]
      exact ⟨.bl c, rfl, fun _ _ _ => .bl c⟩
    · rename_i i j t
      rw [of_decide_eq_true h]
      exact ⟨.int j, ⟨t, rfl⟩, fun _ _ _ => .int j⟩
    · rename_i x y t
      rw [of_decide_eq_true h]
      exact ⟨.str y, ⟨t, rfl⟩, fun _ _ _ => .str y⟩
    · rename_i ds a
      split at h
      · rename_i c od its m sl hl
        simp only [Bool.and_eq_true, decide_eq_true_eq] at h
        obtain ⟨h1, h2, h3, h4⟩ := h
        subst h1
        have key : ∀ (ds : List D) (us : List Value), ds.length = us.length → ((ds.zip us).all fun p => valB K n p.1 p.2) = true → ∃ vs, Vals vs us ∧ ∀ (LT : XAt) L H, RepVs K LT L H ds vs := by
          intro ds
          induction ds with
          | nil =>
            intro us hl _
            cases us with
            | nil => exact ⟨[], .nil, fun _ _ _ => .nil⟩
            | cons _ _ => cases hl
          | cons d ds ih =>
            intro us hl ha
            cases us with
            | nil => cases hl
            | cons u us =>
              simp only [List.zip_cons_cons, List.all_cons, Bool.and_eq_true] at ha
              obtain ⟨v, r1, r2⟩ := valB_ok n ha.1
              obtain ⟨vs, q1, q2⟩ := ih us (by simpa using hl) ha.2
              exact ⟨v :: vs, .cons r1 q1, fun LT L H => .cons (r2 LT L H) (q2 LT L H)⟩
        obtain ⟨vs, q1, q2⟩ := key ds its.toList h3 h4
        refine ⟨.ref a, rfl, fun LT L H => .tup (.inr ⟨_, its, m, hl, rfl, rfl, h2, q1⟩) (fun z => nomatch z) (fun z => nomatch z) (q2 LT L H)⟩
      · cases h
    · cases h
def excCB (K : PySem.W.Frag) (a : Addr) : Bool :=
  decide (PySem.W.findIn K (.ref a) "__getattribute__" = some (some (.builtin "BaseException.__getattribute__"))) && decide (PySem.W.findIn K (.ref a) "__getattr__" = some none) && decide (PySem.W.subIn K (.ref a) (.type "BaseException") = some true) && PySem.W.hasDictIn K a &&
  decide (PySem.W.findIn K (.ref a) "__class__" = some (some (.builtin "object.__class__"))) && decide (PySem.W.specialIn K (.builtin "object.__class__") "__get__" = some (some (.builtin "getset_descriptor.__get__"))) && decide (PySem.W.takesIn K (.builtin "object.__class__") = some true) && decide (PySem.W.mroIn K a (.type "object") = some true)
theorem excCB_ok {K : PySem.W.Frag} {a : Addr} (h : excCB K a = true) : ExcC K a := by
  unfold excCB at h
  simp only [Bool.and_eq_true, decide_eq_true_eq] at h
  obtain ⟨⟨⟨⟨⟨⟨⟨h1, h2⟩, h3⟩, h4⟩, h5⟩, h6⟩, h7⟩, h8⟩ := h
  exact ⟨h1, h2, h3, h4, h5, h6, h7, h8⟩
/-- the table's entries, in order -/
def fdB (K : PySem.W.Frag) (a : Addr) (kvs : List (Str × D)) : Bool := match K.lookup a with
  | some ⟨_, _, .dict es _, _⟩ => decide (es.toList.length = kvs.length) && (es.toList.zip kvs).all fun p => match p.1.key with
    | .str x _ => decide (x = p.2.1) && valB K 20 p.2.2 p.1.val
    | _ => false
  | _ => false
theorem fd_list {K : PySem.W.Frag} {z : Str} : ∀ (l : List DictEntry) (kvs : List (Str × D)), l.length = kvs.length → ((l.zip kvs).all fun p => match p.1.key with
    | .str x _ => decide (x = p.2.1) && valB K 20 p.2.2 p.1.val
    | _ => false) = true →
    (kvs.lookup z = none ∧ l.find? (·.key.isStr z) = none ∧ l.any (·.refKey) = false) ∨ ∃ d v e, kvs.lookup z = some d ∧ l.find? (·.key.isStr z) = some e ∧ RelV v e.val ∧ ∀ (LT : XAt) L H, RepV K LT L H d v
  | [], [], _, _ => .inl ⟨rfl, rfl, rfl⟩
  | [], _ :: _, h, _ => by cases h
  | _ :: _, [], h, _ => by cases h
  | e :: l, (qx, qd) :: kvs, h1, h2 => by
    simp only [List.zip_cons_cons, List.all_cons, Bool.and_eq_true] at h2
    obtain ⟨h2, h3⟩ := h2
    split at h2
    · rename_i x t hk
      simp only [Bool.and_eq_true, decide_eq_true_eq] at h2
      obtain ⟨hx, hv⟩ := h2
      subst hx
      have his : e.key.isStr z = (x == z) := by rw [hk]; rfl
      have hrk : e.refKey = false := by unfold DictEntry.refKey; rw [hk]
      by_cases hz : z = x
      · right
        subst hz
        obtain ⟨v, r1, r2⟩ := valB_ok 20 hv
        exact ⟨qd, v, e, by simp [List.lookup], by rw [List.find?_cons, his]; simp, r1, r2⟩
      · have hz' : (z == x) = false := by simpa using hz
        have hz2 : (x == z) = false := beq_eq_false_iff_ne.mpr fun e => hz e.symm
        rcases fd_list (z := z) l kvs (by simpa using h1) h3 with ⟨a1, a2, a3⟩ | ⟨d, v, e', a1, a2, a3, a4⟩
        · exact .inl ⟨by show (match z == x with | true => some qd | false => kvs.lookup z) = none; rw [hz']; exact a1, by rw [List.find?_cons, his, hz2]; exact a2, by rw [List.any_cons, hrk, a3]; rfl⟩
        · exact .inr ⟨d, v, e', by show (match z == x with | true => some qd | false => kvs.lookup z) = some d; rw [hz']; exact a1, by rw [List.find?_cons, his, hz2]; exact a2, a3, a4⟩
    · cases h2
theorem fdB_ok {K : PySem.W.Frag} {a : Addr} {kvs : List (Str × D)} (h : fdB K a kvs = true) (z : Str) : (kvs.lookup z = none ∧ PySem.W.nsIn K a z = some none) ∨ ∃ d v u, kvs.lookup z = some d ∧ PySem.W.nsIn K a z = some (some u) ∧ RelV v u ∧ ∀ (LT : XAt) L H, RepV K LT L H d v := by
  unfold fdB at h
  split at h
  · rename_i oc od es n sl hl
    rw [Bool.and_eq_true] at h
    obtain ⟨h1, h2⟩ := h
    have hns : PySem.W.nsIn K a z = (match es.toList.find? (·.key.isStr z) with
      | some e => some (some e.val)
      | none => if es.toList.any (·.refKey) then none else some none) := by
      unfold PySem.W.nsIn
      rw [hl]
      rfl
    rw [hns]
    rcases fd_list (z := z) es.toList kvs (of_decide_eq_true h1) h2 with ⟨a1, a2, a3⟩ | ⟨d, v, e', a1, a2, a3, a4⟩
    · left
      refine ⟨a1, ?_⟩
      rw [a2, a3]
      rfl
    · right
      exact ⟨d, v, e'.val, a1, by rw [a2], a3, a4⟩
  · cases h
def giB (K : PySem.W.Frag) (x : Str) : GI → Bool
  | .fn _ _ => He.eqO (PySem.W.nsIn K mainGlobals x) (some (some (.ref (He.ga K x))))
  | .val d => (match PySem.W.nsIn K mainGlobals x with
    | some (some u) => valB K 20 d u
    | _ => false)
  | .bi => He.eqO (PySem.W.nsIn K mainGlobals x) (some none)
  | .cls => (He.Fa.exc x).ok K && He.eqO (PySem.W.nsIn K mainGlobals x) (some (some (.ref (He.ga K x))))
  | .fd kvs => He.eqO (PySem.W.nsIn K mainGlobals x) (some (some (.ref (He.ga K x)))) && fdB K (He.ga K x) kvs
  | .tk => true
def clB (K : PySem.W.Frag) (CT : CTab) : Bool := CT.all fun p => excCB K (He.ga K p.1) && He.eqO (PySem.W.nsIn K mainGlobals p.1) (some (some (.ref (He.ga K p.1)))) &&
  decide (PySem.W.kitOne K (.ref (He.ga K p.1)) (.type "ValueError") = some (p.2.contains ("ValueError" : Str))) &&
  CT.all fun q => decide (PySem.W.exmOne K (.ref (He.ga K p.1)) (.ref (He.ga K q.1)) = some (p.2.contains q.1)) && decide (PySem.W.kitOne K (.ref (He.ga K p.1)) (.ref (He.ga K q.1)) = some (p.2.contains q.1))
/-- what K is to say of the module's names -/
def modB (G : List (Str × GI)) (CT : CTab) (tf : List He.Defn) (K : PySem.W.Frag) : Bool :=
  (G.all fun p => giB K p.1 p.2) && clB K CT && decide ((tf.map fun p => (He.cT K p).2).Nodup)
theorem lookup_mem' {α : Type} {x : Str} {a : α} : ∀ {l : List (Str × α)}, l.lookup x = some a → (x, a) ∈ l := fun h => PySem.mem_of_lookup h
theorem cls_of {K : PySem.W.Frag} {CT : CTab} (h : clB K CT = true) : ClsOk K CT := by
  have h' := fun p hp => List.all_eq_true.mp h p hp
  refine ⟨fun c anc hc => ?_, fun c C b hs hC => ?_, fun c b hs => ?_⟩
  · have q := h' _ (lookup_mem' hc)
    simp only [Bool.and_eq_true] at q
    exact excCB_ok q.1.1.1
  · unfold subC at hs
    obtain ⟨anc, h1, rfl⟩ := om hs
    obtain ⟨anc2, h2⟩ := Option.isSome_iff_exists.mp hC
    have q := h' _ (lookup_mem' h1)
    simp only [Bool.and_eq_true] at q
    have q2 := List.all_eq_true.mp q.2 _ (lookup_mem' h2)
    simp only [Bool.and_eq_true, decide_eq_true_eq] at q2
    exact q2
  · unfold subC at hs
    obtain ⟨anc, h1, rfl⟩ := om hs
    have q := h' _ (lookup_mem' h1)
    simp only [Bool.and_eq_true, decide_eq_true_eq] at q
    exact q.1.2
/-- what is told of a def without K -/
structure DefGood (Pg : Prg) (d : DefP) : Prop where
  den : ∀ C, dSs ⟨d.N, Pg.G, Pg.CT, d.q ++ ".<locals>."⟩ C 60 ⟨true, d.lam, false, true⟩ (defScope d.st) (defBody d.st) = some (d.b C)
  sc : FnScope d.N d.ps (defScope d.st)
  nm : okN d.x = true
  bind : ∀ (kV doc pm : Value) (an : Option Addr) (cdv ct : Value) (us : List Value), us.length = d.ps.length → bindArgs (PySem.W.fnOf d.q d.q (defArgs d.st) (defBody d.st) (defScope d.st) .none kV doc pm an cdv ct) ⟨us, []⟩ = pure (d.ps.zip us)
def toDefD (d : DefP) : He.DefD := ⟨(d.x, none), d.q, d.q, defArgs d.st, defBody d.st, defScope d.st, [], []⟩
def fnGB (Pg : Prg) : Prop := ∀ (x : Str) (i np : Nat), (x, GI.fn i np) ∈ Pg.G → ∃ d : DefP, Pg.defs[i]? = some d ∧ d.x = x ∧ d.ps.length = np
abbrev lamTab (tf : List He.Defn) (K : PySem.W.Frag) : List (Addr × Str) := tf.map fun p => ((He.cT K p).2, p.1 ++ ".<locals>." ++ "<lambda>")
def tabGB (Pg : Prg) (ts : List He.Tab) : Prop := ∀ (x : Str) (kvs : List (Str × D)), (x, GI.fd kvs) ∈ Pg.G → ∃ (i : Nat) (ks : List Str), ts[i]? = some ((fun K => He.ga K x), ks)
theorem mdl_of {ts : List He.Tab} {Pg : Prg} {fn : List He.DefD} {tf : List He.Defn} {P : Program} {w : World} {K : PySem.W.Frag} {mg : Str → Option Value} {base h : Heap} (hgood : ∀ d ∈ Pg.defs, DefGood Pg d) (hfn : Pg.defs.map toDefD = fn) (hG : fnGB Pg) (hts : tabGB Pg ts) (hlam : ∀ d ∈ Pg.defs, d.lam = true → (d.x, none) ∈ tf ∧ d.q = d.x)
    (KX : K.In base) (G : base.Ns mainGlobals mg) (c : He.SaysX [] fn ts tf (modB Pg.G Pg.CT tf) w h K) (hGd : ∀ d ∈ Pg.defs, ∃ i np, (d.x, GI.fn i np) ∈ Pg.G) (hT : ∀ p ∈ tf.map (He.cT K), LamX.TabB base mg p.1 p.2) : Mdl Pg (lamTab tf K) P w K mg base := by
  have hmod := c.more
  unfold modB at hmod
  simp only [Bool.and_eq_true, decide_eq_true_eq] at hmod
  obtain ⟨⟨m1, m2⟩, m3⟩ := hmod
  have gi : ∀ x i, Pg.G.lookup x = some i → giB K x i = true := fun x i hx => List.all_eq_true.mp m1 _ (lookup_mem' hx)
  have hns : ∀ d ∈ Pg.defs, mg d.x = some (.ref (He.fAd K (d.x, none))) := fun d hd => by
    obtain ⟨i, np, hm⟩ := hGd d hd
    exact PySem.W.mg_of KX G (He.eqO_ok (List.all_eq_true.mp m1 _ hm))
  refine ⟨fun i d hd => ?_, fun i d hd => (hgood d (List.mem_of_getElem? hd)).den, fun i d hd => (hgood d (List.mem_of_getElem? hd)).sc, fun x i np hx => hG x i np (lookup_mem' hx), fun x d hx => ?_, fun x hx => ?_, fun x kvs hx => ?_, cls_of m2, fun cc hc => ?_, fun cc hc => ?_, fun i d hd hl => ?_⟩
  · have hm := List.mem_of_getElem? hd
    have g := hgood d hm
    obtain ⟨fd, F⟩ := He.SaysD.defs c.t.d (d := toDefD d) (by rw [← hfn]; exact List.mem_map.mpr ⟨d, hm, rfl⟩)
    have F' : FunD K d.q d.q (defArgs d.st) (defBody d.st) (defScope d.st) [] [] (He.fAd K (d.x, none)) fd := F
    exact ⟨fd, F', hns d hm, F'.bindsN g.bind, g.nm⟩
  · have q : (match PySem.W.nsIn K mainGlobals x with
      | some (some u) => valB K 20 d u
      | _ => false) = true := gi x _ hx
    split at q
    · rename_i u hu
      obtain ⟨v, r1, r2⟩ := valB_ok 20 q
      exact ⟨v, u, PySem.W.mg_of KX G hu, r1, r2⟩
    · cases q
  · exact PySem.W.mg_none_of KX G (He.eqO_ok (gi x _ hx))
  · have q : (He.eqO (PySem.W.nsIn K mainGlobals x) (some (some (.ref (He.ga K x)))) && fdB K (He.ga K x) kvs) = true := gi x _ hx
    rw [Bool.and_eq_true] at q
    obtain ⟨i, ks, hi⟩ := hts x kvs (lookup_mem' hx)
    exact ⟨He.ga K x, PySem.W.mg_of KX G (He.eqO_ok q.1), ⟨c.t.tab i hi, fdB_ok q.2⟩⟩
  · obtain ⟨anc, h1⟩ := Option.isSome_iff_exists.mp hc
    have q := List.all_eq_true.mp m2 _ (lookup_mem' h1)
    simp only [Bool.and_eq_true] at q
    exact PySem.W.mg_of KX G (He.eqO_ok q.1.1.2)
  · have q : ((He.Fa.exc cc).ok K && He.eqO (PySem.W.nsIn K mainGlobals cc) (some (some (.ref (He.ga K cc))))) = true := gi cc _ hc
    rw [Bool.and_eq_true] at q
    obtain ⟨e1, e2, e3, e4⟩ := He.exc_ok q.1
    exact ⟨"ValueError", "ValueError.__new__", _, _, PySem.F.excBase_ValueError, e1, PySem.W.mg_of KX G (He.eqO_ok q.2), e2, e3, e4⟩
  · have hm := List.mem_of_getElem? hd
    obtain ⟨ht, hqx⟩ := hlam d hm hl
    rw [hqx]
    refine ⟨hT _ (List.mem_map.mpr ⟨_, ht, rfl⟩), List.mem_map.mpr ⟨_, ht, rfl⟩, fun p hp e => ?_⟩
    obtain ⟨q, hq, rfl⟩ := List.mem_map.mp hp
    have : q = (d.x, none) := by
      have inj : ∀ (l : List He.Defn), (l.map fun p => (He.cT K p).2).Nodup → ∀ a ∈ l, ∀ b ∈ l, (He.cT K a).2 = (He.cT K b).2 → a = b := by
        intro l
        induction l with
        | nil => intro _ a ha; cases ha
        | cons z l ih =>
          intro nd a ha b hb e
          rw [List.map_cons, List.nodup_cons] at nd
          rcases List.mem_cons.mp ha with ha | ha <;> rcases List.mem_cons.mp hb with hb | hb
          · rw [ha, hb]
          · exact absurd (List.mem_map.mpr ⟨b, hb, by rw [← e, ha]⟩) nd.1
          · exact absurd (List.mem_map.mpr ⟨a, ha, by rw [e, hb]⟩) nd.1
          · exact ih nd.2 a ha b hb e
      exact inj tf m3 q hq _ ht e
    rw [this]
/-- the script in hand: a list, a list that nobody changes -/
def LawEq (Pg : Prg) (k iLaw n : Nat) : Prop := ∀ ns : List Int, ns.length ≤ n → (∀ z ∈ ns, Builtin.Int.intBits z ≤ 1048576) →
  (∃ S', (Cs Pg k).f iLaw [.ref 0] [.lst (ns.map D.int)] = .ok (.bl true) S') ∧ ∃ S', (Cs Pg k).f iLaw [.rol (ns.map D.int)] [] = .ok (.bl true) S'
theorem isDs_ints : ∀ ns : List Int, isDs (ns.map D.int) = true
  | [] => rfl
  | _ :: ns => by
    rw [List.map_cons]
    unfold isDs
    rw [isDs_ints ns]
    rfl
theorem law_sp {Pg : Prg} {K : PySem.W.Frag} {tf : List He.Defn} {k iLaw n : Nat} (h : LawEq Pg k iLaw n) (H : Hp) (a : Addr) (ns : List Int) (hl : ns.length ≤ n) (hb : ∀ z ∈ ns, Builtin.Int.intBits z ≤ 1048576) (hT : ∀ p ∈ tf.map (He.cT K), H p.2 = some (.tbl #[])) (hS : SqL K H a (ns.map V.int)) :
    spOf K none (lamTab tf K) 1 ((Cs Pg k).f iLaw) [.ref a] H (fun v _ => v = .bl true) fun _ _ _ => False := by
  obtain ⟨⟨S1, h1⟩, ⟨S2, h2⟩⟩ := h ns hl hb
  have tabs : LamX.Tabs (lamTab tf K) H := fun p hp => by
    obtain ⟨q, hq, rfl⟩ := List.mem_map.mp hp
    exact LamX.TabS.nil (hT _ (List.mem_map.mpr ⟨q, hq, rfl⟩))
  have rol : RolAt K H a (ns.map V.int) → spOf K none (lamTab tf K) 1 ((Cs Pg k).f iLaw) [.ref a] H (fun v _ => v = .bl true) fun _ _ _ => False := fun hr => by
    refine ⟨rfl, [.rol (ns.map D.int)], [], [], .cons (.rol hr (repInts ns)) .nil, ⟨rfl, fun n o a h => (by cases h), fun n m a h => (by cases h), tabs⟩, ?_⟩
    rw [h2]
    intro v H' L' r _ _
    cases r
    rfl
  rcases hS with (hS | ⟨o, hS⟩) | hS
  · refine ⟨rfl, [.ref 0], [.lst (ns.map D.int)], [a], .cons (.ref rfl) .nil, ⟨rfl, fun n o b e1 e2 => ?_, fun n m b e1 e2 => ?_, tabs⟩, ?_⟩
    · cases n with
      | zero =>
        cases e1
        cases e2
        exact ⟨_, hS, repInts ns, isDs_ints ns⟩
      | succ n => cases e1
    · cases n with
      | zero =>
        cases m with
        | zero => rfl
        | succ m => cases e2
      | succ n => cases e1
    · rw [h1]
      intro v H' L' r _ _
      cases r
      rfl
  · exact rol (.inl ⟨o, hS⟩)
  · exact rol (.inr hS)
/-- the law's promise at the head's heap -/
theorem law_at {l : PySem.W.OpenLaw} {ts : List He.Tab} {Pg : Prg} {fn : List He.DefD} {tf : List He.Defn} {w : World} {K : PySem.W.Frag} {mg : Str → Option Value} {h : Heap} {k iLaw : Nat} {dl : DefP} {x : Str} (hgood : ∀ d ∈ Pg.defs, DefGood Pg d) (hfn : Pg.defs.map toDefD = fn) (hG : fnGB Pg) (hts : tabGB Pg ts) (hGd : ∀ d ∈ Pg.defs, ∃ i np, (d.x, GI.fn i np) ∈ Pg.G) (hlam : ∀ d ∈ Pg.defs, d.lam = true → (d.x, none) ∈ tf ∧ d.q = d.x)
    (hlaw : Pg.defs[iLaw]? = some dl) (hps : dl.ps = [x]) (KX : K.In h) (G : h.Ns mainGlobals mg) (c : He.SaysX [] fn ts tf (modB Pg.G Pg.CT tf) w h K) (heq : LawEq Pg k iLaw 63) :
    LawAtG l w K k 63 x mg (He.fAd K (dl.x, none)) h := by
  have hdl := List.mem_of_getElem? hlaw
  obtain ⟨fd, F⟩ := He.SaysD.defs c.t.d (d := toDefD dl) (by rw [← hfn]; exact List.mem_map.mpr ⟨dl, hdl, rfl⟩)
  have F' : FunD K dl.q dl.q (defArgs dl.st) (defBody dl.st) (defScope dl.st) [] [] (He.fAd K (dl.x, none)) fd := F
  refine ⟨fd, tf.map (He.cT K), spOf K none (lamTab tf K) 1 ((Cs Pg k).f iLaw), fun p hp => ?_, fun p hp => ?_, fun p hp => ?_, fun s u => ?_, fun H a ns hl hb hT hS => law_sp heq H a ns hl hb hT hS, fun base KB GB hT => ?_⟩
  · obtain ⟨q, hq, rfl⟩ := List.mem_map.mp hp
    exact c.empty q hq
  · obtain ⟨q, hq, rfl⟩ := List.mem_map.mp hp
    exact c.out q hq
  · obtain ⟨q, hq, rfl⟩ := List.mem_map.mp hp
    exact PySem.W.codeHd_of_K KX (c.hd q hq)
  · have b := F'.bindsA (hgood dl hdl).bind s [u] (by rw [hps]; rfl)
    rw [hps] at b
    exact b
  · have M := mdl_of (P := l.prog) (w := w) hgood hfn hG hts hlam KB GB c hGd hT
    obtain ⟨fd2, g1, g2, oc2, od2, osl2, lk2⟩ := (lams_at M k).1 iLaw dl hlaw
    obtain ⟨oc, od, dV, kV, doc, pm, an, cdv, ct, osl, e1, lk, _, _, _⟩ := F'.ex
    have e : fd = fd2 := by
      rw [lk] at lk2
      have q := congrArg (fun o : Option Obj => match o with | some ⟨_, _, .func f, _⟩ => some f | _ => none) lk2
      exact Option.some.inj q
    subst e
    rw [hps] at g1
    exact g1
end Pf
namespace Pf
open PySem PySem.Spec PyProof.Rows L2
theorem all_nil' {α : Type} {p : α → Prop} : ∀ d ∈ ([] : List α), p d := fun _ h => by cases h
theorem all_cons' {α : Type} {p : α → Prop} {a : α} {l : List α} (h : p a) (t : ∀ d ∈ l, p d) : ∀ d ∈ a :: l, p d := fun d hd => by
  rcases List.mem_cons.mp hd with e | hd
  · rw [e]; exact h
  · exact t d hd
theorem fnGB_by {Pg : Prg} (h : (Pg.G.all fun p => match p.2 with
  | .fn i np => (match Pg.defs[i]? with
    | some d => decide (d.x = p.1) && decide (d.ps.length = np)
    | none => false)
  | _ => true) = true) : fnGB Pg := fun x i np hm => by
  have q := List.all_eq_true.mp h _ hm
  dsimp only at q
  split at q
  · rename_i d hd
    simp only [Bool.and_eq_true, decide_eq_true_eq] at q
    exact ⟨d, hd, q.1, q.2⟩
  · cases q
theorem tabGB_by {Pg : Prg} {xs : List (Str × List Str)} (h : (Pg.G.all fun p => match p.2 with
  | .fd _ => xs.any fun q => decide (q.1 = p.1)
  | _ => true) = true) : tabGB Pg (xs.map fun q => ((fun K => He.ga K q.1), q.2)) := fun x kvs hm => by
  have q : (xs.any fun q => decide (q.1 = x)) = true := List.all_eq_true.mp h _ hm
  obtain ⟨p, hp, e⟩ := List.any_eq_true.mp q
  obtain ⟨i, hi, e2⟩ := List.mem_iff_getElem.mp hp
  refine ⟨i, p.2, ?_⟩
  rw [List.getElem?_map, List.getElem?_eq_getElem hi, e2, ← of_decide_eq_true e]
  rfl
theorem hGd_by {Pg : Prg} (h : (Pg.defs.all fun d => Pg.G.any fun p => decide (p.1 = d.x) && (match p.2 with | .fn _ _ => true | _ => false)) = true) : ∀ d ∈ Pg.defs, ∃ i np, (d.x, GI.fn i np) ∈ Pg.G := fun d hd => by
  have q := List.all_eq_true.mp h d hd
  obtain ⟨p, hp, q⟩ := List.any_eq_true.mp q
  simp only [Bool.and_eq_true, decide_eq_true_eq] at q
  obtain ⟨q1, q2⟩ := q
  obtain ⟨a, b⟩ := p
  cases b with
  | fn i np => exact ⟨i, np, by rw [← q1]; exact hp⟩
  | _ => cases q2
theorem hlam_by {Pg : Prg} {tf : List He.Defn} (h : (Pg.defs.all fun d => !d.lam || (decide (d.q = d.x) && tf.any fun p => decide (p = (d.x, none)))) = true) : ∀ d ∈ Pg.defs, d.lam = true → (d.x, none) ∈ tf ∧ d.q = d.x := fun d hd hl => by
  have q := List.all_eq_true.mp h d hd
  rw [hl, Bool.not_true, Bool.false_or, Bool.and_eq_true] at q
  obtain ⟨p, hp, q2⟩ := List.any_eq_true.mp q.2
  refine ⟨?_, of_decide_eq_true q.1⟩
  rw [← of_decide_eq_true q2]
  exact hp
end Pf
end

section
set_option Elab.async false
set_option linter.all false
set_option maxRecDepth 100000
set_option maxHeartbeats 4000000
/-! P20: a top with a non-empty dict display asks the world for its habit at a special's raise: one kernel run for either answer. -/
namespace Pf
open PySem PySem.Spec PyProof.Rows L2
def fxW (b : Bool) (w : World) : World := { w with params := { w.params with followText := fun s => match decide (s = "special-get-raises") with | true => b | false => w.params.followText s } }
theorem fxW_eq (w : World) : fxW (w.params.followText "special-get-raises") w = w := by
  obtain ⟨os, p⟩ := w
  have e : (fun s => match decide (s = "special-get-raises") with | true => p.followText "special-get-raises" | false => p.followText s) = p.followText := by
    funext s
    cases h : decide (s = "special-get-raises") with
    | true =>
      have := of_decide_eq_true h
      subst this
      rfl
    | false => rfl
  unfold fxW
  show World.mk _ { p with followText := _ } = _
  rw [e]
theorem run_both {P : World → Prop} (h1 : ∀ w, P (fxW true w)) (h0 : ∀ w, P (fxW false w)) (w : World) : P w := by
  rw [← fxW_eq w]
  cases w.params.followText "special-get-raises" with
  | true => exact h1 w
  | false => exact h0 w
end Pf
end

section
set_option Elab.async false
set_option linter.all false
set_option maxRecDepth 100000
set_option maxHeartbeats 4000000
/-! P21: the Hook over a list of addresses that is given; a run put together of several looks at its end. -/
namespace Pf
open PySem PySem.Spec PyProof.Rows L2 He
/-- n-1 .. 0 -/
def downTo : Nat → List Addr
  | 0 => []
  | n + 1 => n :: downTo n
def asL (n : Nat) : List Addr := mainGlobals :: downTo n
def obsL (as : List Addr) (fn : List DefD) (ts : List Tab) (tf : List Defn) (ex : PySem.W.Frag → Bool) (g : Addr → Option Obj) : AlX := (obsT [] fn ts (frT g as), ex (frT g as) && tabsB g tf (frT g as))
theorem saysL_of {as : List Addr} {fn : List DefD} {ts : List Tab} {tf : List Defn} {ex : PySem.W.Frag → Bool} {w : World} {h : Heap} (e : obsL as fn ts tf ex h.get? = valX fn ts w) : SaysX [] fn ts tf ex w h (frT h.get? as) := by
  have e2 : (ex (frT h.get? as) && tabsB h.get? tf (frT h.get? as)) = true := congrArg (fun z : AlX => z.2) e
  rw [Bool.and_eq_true] at e2
  have key : ∀ p ∈ tf, PySem.W.codeHdIn (frT h.get? as) (cT (frT h.get? as) p).1 (cT (frT h.get? as) p).2 = true ∧ ∃ o, h.get? (cT (frT h.get? as) p).2 = some o ∧ emptyTab o = true := by
    intro p hp
    have q := List.all_eq_true.mp e2.2 p hp
    rw [Bool.and_eq_true] at q
    refine ⟨q.1, ?_⟩
    have q2 := q.2
    split at q2
    · rename_i o ho
      exact ⟨o, ho, q2⟩
    · cases q2
  refine ⟨congrArg (fun z : AlX => z.1) e, e2.1, fun p hp => (key p hp).1, fun p hp => ?_, fun p hp => ?_⟩
  · obtain ⟨_, o, q, z⟩ := key p hp
    exact frT_none q z
  · obtain ⟨_, o, q, z⟩ := key p hp
    rw [q, emptyTab_eq z]
def hookL (as : List Addr) (fn : List DefD) (ts : List Tab) (tf : List Defn) (ex : PySem.W.Frag → Bool) : PySem.W.Hook where
  α := AlX
  obs := fun s => obsL as fn ts tf ex s.heap.get?
  val := fun w => valX fn ts w
  says := fun w h => ∃ K : PySem.W.Frag, K.In h ∧ SaysX [] fn ts tf ex w h K
  of := fun _ _ e => ⟨_, frT_in, saysL_of e⟩
  keeps := fun _ _ _ ⟨K, hK, c⟩ k => ⟨K, PySem.W.Frag.In.keeps hK k, ⟨c.t, c.more, c.hd, c.out, fun p hp => k _ _ (c.empty p hp)⟩⟩
theorem obsL_eq {as : List Addr} {fn : List DefD} {ts : List Tab} {tf : List Defn} {ex : PySem.W.Frag → Bool} {g : Addr → Option Obj} {s : Shared} (h : ∀ a, g a = s.heap.get? a) : obsL as fn ts tf ex g = (hookL as fn ts tf ex).obs s := by
  have e : g = s.heap.get? := funext h
  rw [e]
  rfl
end Pf
end

section
set_option Elab.async false
set_option linter.all false
set_option maxRecDepth 20000
/-! E0: a lambda's call. -/
namespace Pf
open PySem PySem.Spec PyProof.Rows L2
theorem cs_l (P : Prg) {k : Nat} {li : LamI} {caps args : List D} {S : Store} {fb : Ex} (hb : lamB li = true) (hd : dE (lTX P li) (Cs P k) 60 ⟨true, false, false, false⟩ li.scope li.body = some fb) (hc : isDs caps = true) (ha : isDs args = true) (hl : args.length = li.ps.length) :
    (Cs P (k + 1)).l li caps args S = okR (fb (lamStart li args caps) S) := by
  show (if lamB li = true ∧ isDs caps = true ∧ isDs args = true ∧ args.length = li.ps.length then (match dE (lTX P li) (Cs P k) 60 ⟨true, false, false, false⟩ li.scope li.body with
      | some fb => okR (fb (lamStart li args caps) S)
      | none => .bad) else .bad) = _
  rw [if_pos ⟨hb, hc, ha, hl⟩, hd]
end Pf
end

section
set_option Elab.async false
set_option linter.all false
set_option maxRecDepth 100000
set_option maxHeartbeats 0
namespace Pf.LW
open PySem PySem.Spec PyProof.Rows L2
def top (i : Nat) : Stmt := PySem.Challenge.pw_pricesforever_k76_whole_taxes_gross_and.main.body.getD i (.Pass ⟨0, 0, 0, 0⟩)
def CT0 : CTab := [(PySem.Str.ofString "PriceError", [PySem.Str.ofString "PriceError", PySem.Str.ofString "ValueError"]), (PySem.Str.ofString "NoForm", [PySem.Str.ofString "NoForm", PySem.Str.ofString "PriceError", PySem.Str.ofString "ValueError"]), (PySem.Str.ofString "NoNumber", [PySem.Str.ofString "NoNumber", PySem.Str.ofString "PriceError", PySem.Str.ofString "ValueError"]), (PySem.Str.ofString "NoRule", [PySem.Str.ofString "NoRule", PySem.Str.ofString "PriceError", PySem.Str.ofString "ValueError"]), (PySem.Str.ofString "NoSet", [PySem.Str.ofString "NoSet", PySem.Str.ofString "PriceError", PySem.Str.ofString "ValueError"]), (PySem.Str.ofString "NoTax", [PySem.Str.ofString "NoTax", PySem.Str.ofString "PriceError", PySem.Str.ofString "ValueError"]), (PySem.Str.ofString "TooMany", [PySem.Str.ofString "TooMany", PySem.Str.ofString "PriceError", PySem.Str.ofString "ValueError"])]
def g_MOST_FORM : D := .int 5000
@[simp] theorem ge_MOST_FORM : g_MOST_FORM = .int 5000 := rfl
def g_MOST_RULES : D := .int 30
@[simp] theorem ge_MOST_RULES : g_MOST_RULES = .int 30 := rfl
def g_MOST_DEEP : D := .int 8
@[simp] theorem ge_MOST_DEEP : g_MOST_DEEP = .int 8 := rfl
def g_MOST_SIZE : D := .int 9999
@[simp] theorem ge_MOST_SIZE : g_MOST_SIZE = .int 9999 := rfl
def g_MOST_STEP : D := .int 200
@[simp] theorem ge_MOST_STEP : g_MOST_STEP = .int 200 := rfl
def g_MOST_LISTED : D := .int 24
@[simp] theorem ge_MOST_LISTED : g_MOST_LISTED = .int 24 := rfl
def g_MOST_BANDS : D := .int 12
@[simp] theorem ge_MOST_BANDS : g_MOST_BANDS = .int 12 := rfl
def g_MOST_FROM : D := .int 200
@[simp] theorem ge_MOST_FROM : g_MOST_FROM = .int 200 := rfl
def g_MOST_EACH_bands : D := .int 999
@[simp] theorem ge_MOST_EACH_bands : g_MOST_EACH_bands = .int 999 := rfl
def g_MOST_EACH_taxes : D := .int 99
@[simp] theorem ge_MOST_EACH_taxes : g_MOST_EACH_taxes = .int 99 := rfl
def g_HUNDRED : D := .int 100
@[simp] theorem ge_HUNDRED : g_HUNDRED = .int 100 := rfl
def g_ALL : D := .tup .any [(.int 0 : D), (.int 1 : D), (.int 1 : D), (.tup .any [(.int 0 : D)] : D)]
@[simp] theorem ge_ALL : g_ALL = .tup .any [(.int 0 : D), (.int 1 : D), (.int 1 : D), (.tup .any [(.int 0 : D)] : D)] := rfl
def f_SPOTS : List (PySem.Str × D) := [(PySem.Str.ofString "flat", .tup .any []), (PySem.Str.ofString "pieces", .tup .any []), (PySem.Str.ofString "step", .tup .any []), (PySem.Str.ofString "list", .tup .any []), (PySem.Str.ofString "plus", .tup .any [(.int 1 : D), (.int 2 : D)]), (PySem.Str.ofString "less", .tup .any [(.int 1 : D), (.int 2 : D)]), (PySem.Str.ofString "max", .tup .any [(.int 1 : D), (.int 2 : D)]), (PySem.Str.ofString "min", .tup .any [(.int 1 : D), (.int 2 : D)]), (PySem.Str.ofString "split", .tup .any [(.int 1 : D), (.int 2 : D)]), (PySem.Str.ofString "into", .tup .any [(.int 1 : D), (.int 2 : D)]), (PySem.Str.ofString "times", .tup .any [(.int 2 : D)]), (PySem.Str.ofString "share", .tup .any [(.int 2 : D)]), (PySem.Str.ofString "left", .tup .any [(.int 2 : D)]), (PySem.Str.ofString "packs", .tup .any [(.int 2 : D)]), (PySem.Str.ofString "each", .tup .any [(.int 2 : D)]), (PySem.Str.ofString "move", .tup .any [(.int 2 : D)]), (PySem.Str.ofString "within", .tup .any [(.int 2 : D)]), (PySem.Str.ofString "change", .tup .any [(.int 1 : D)]), (PySem.Str.ofString "high", .tup .any [(.int 1 : D)]), (PySem.Str.ofString "low", .tup .any [(.int 1 : D)])]
def f_SIZES : List (PySem.Str × D) := [(PySem.Str.ofString "flat", .int 2), (PySem.Str.ofString "pieces", .int 1), (PySem.Str.ofString "step", .int 2), (PySem.Str.ofString "list", .int 4), (PySem.Str.ofString "plus", .int 3), (PySem.Str.ofString "less", .int 3), (PySem.Str.ofString "max", .int 3), (PySem.Str.ofString "min", .int 3), (PySem.Str.ofString "split", .int 3), (PySem.Str.ofString "into", .int 3), (PySem.Str.ofString "times", .int 3), (PySem.Str.ofString "share", .int 3), (PySem.Str.ofString "left", .int 3), (PySem.Str.ofString "packs", .int 3), (PySem.Str.ofString "each", .int 3), (PySem.Str.ofString "move", .int 3), (PySem.Str.ofString "within", .int 3), (PySem.Str.ofString "change", .int 2), (PySem.Str.ofString "high", .int 2), (PySem.Str.ofString "low", .int 2)]
def f_LOWS : List (PySem.Str × D) := [(PySem.Str.ofString "times", .int (-20)), (PySem.Str.ofString "share", .int 1), (PySem.Str.ofString "left", .int 1), (PySem.Str.ofString "packs", .int 1), (PySem.Str.ofString "each", .int 1), (PySem.Str.ofString "move", .int (-60)), (PySem.Str.ofString "within", .int 0)]
def f_HIGHS : List (PySem.Str × D) := [(PySem.Str.ofString "times", .int 20), (PySem.Str.ofString "share", .int 20), (PySem.Str.ofString "left", .int 20), (PySem.Str.ofString "packs", .int 20), (PySem.Str.ofString "each", .int 20), (PySem.Str.ofString "move", .int 60), (PySem.Str.ofString "within", .int 30)]
def tabs : List (PySem.Str × List PySem.Str) := [(PySem.Str.ofString "SPOTS", [PySem.Str.ofString "flat", PySem.Str.ofString "pieces", PySem.Str.ofString "step", PySem.Str.ofString "list", PySem.Str.ofString "plus", PySem.Str.ofString "less", PySem.Str.ofString "max", PySem.Str.ofString "min", PySem.Str.ofString "split", PySem.Str.ofString "into", PySem.Str.ofString "times", PySem.Str.ofString "share", PySem.Str.ofString "left", PySem.Str.ofString "packs", PySem.Str.ofString "each", PySem.Str.ofString "move", PySem.Str.ofString "within", PySem.Str.ofString "change", PySem.Str.ofString "high", PySem.Str.ofString "low"]), (PySem.Str.ofString "SIZES", [PySem.Str.ofString "flat", PySem.Str.ofString "pieces", PySem.Str.ofString "step", PySem.Str.ofString "list", PySem.Str.ofString "plus", PySem.Str.ofString "less", PySem.Str.ofString "max", PySem.Str.ofString "min", PySem.Str.ofString "split", PySem.Str.ofString "into", PySem.Str.ofString "times", PySem.Str.ofString "share", PySem.Str.ofString "left", PySem.Str.ofString "packs", PySem.Str.ofString "each", PySem.Str.ofString "move", PySem.Str.ofString "within", PySem.Str.ofString "change", PySem.Str.ofString "high", PySem.Str.ofString "low"]), (PySem.Str.ofString "LOWS", [PySem.Str.ofString "times", PySem.Str.ofString "share", PySem.Str.ofString "left", PySem.Str.ofString "packs", PySem.Str.ofString "each", PySem.Str.ofString "move", PySem.Str.ofString "within"]), (PySem.Str.ofString "HIGHS", [PySem.Str.ofString "times", PySem.Str.ofString "share", PySem.Str.ofString "left", PySem.Str.ofString "packs", PySem.Str.ofString "each", PySem.Str.ofString "move", PySem.Str.ofString "within"])]
abbrev ts : List He.Tab := tabs.map fun q => ((fun K => He.ga K q.1), q.2)
abbrev i_is_integer : Nat := 0
abbrev i_is_within : Nat := 1
abbrev i_is_number : Nat := 2
abbrev i_is_flag : Nat := 3
abbrev i_is_sized : Nat := 4
abbrev i_common_part : Nat := 5
abbrev i_common_round : Nat := 6
abbrev i_up_by : Nat := 7
abbrev i_is_form : Nat := 8
abbrev i_check_form : Nat := 9
abbrev i_check_two : Nat := 10
abbrev i_check_number : Nat := 11
abbrev i_check_width : Nat := 12
abbrev i_raw_price : Nat := 13
abbrev i_price_at : Nat := 14
abbrev i_does_repeat : Nat := 15
abbrev i_raw_least : Nat := 16
abbrev i_made : Nat := 17
abbrev i_is_least : Nat := 18
abbrev i_rise_in : Nat := 19
abbrev i_raw_added : Nat := 20
abbrev i_raw_lessened : Nat := 21
abbrev i_lessened : Nat := 22
abbrev i_won_from : Nat := 23
abbrev i_raw_greater : Nat := 24
abbrev i_turned : Nat := 25
abbrev i_raw_lesser : Nat := 26
abbrev i_raw_scaled : Nat := 27
abbrev i_raw_shared : Nat := 28
abbrev i_raw_left : Nat := 29
abbrev i_raw_moved : Nat := 30
abbrev i_raw_packed : Nat := 31
abbrev i_raw_unpacked : Nat := 32
abbrev i_raw_change : Nat := 33
abbrev i_running : Nat := 34
abbrev i_raw_highest : Nat := 35
abbrev i_raw_lowest : Nat := 36
abbrev i_raw_within : Nat := 37
abbrev i_split_from : Nat := 38
abbrev i_split_at : Nat := 39
abbrev i_raw_split : Nat := 40
abbrev i_is_listed : Nat := 41
abbrev i_is_node : Nat := 42
abbrev i_raw_parts : Nat := 43
abbrev i_raw_is_rule : Nat := 44
abbrev i_check_rule : Nat := 45
abbrev i_raw_nodes : Nat := 46
abbrev i_are_bands : Nat := 47
abbrev i_raw_band : Nat := 48
abbrev i_raw_bands_form : Nat := 49
abbrev i_is_set : Nat := 50
abbrev i_check_set : Nat := 51
abbrev i_raw_has : Nat := 52
abbrev i_has : Nat := 53
abbrev i_raw_least_set : Nat := 54
abbrev i_least_set : Nat := 55
abbrev i_made_set : Nat := 56
abbrev i_signed_from : Nat := 57
abbrev i_raw_where_less : Nat := 58
abbrev i_raw_most : Nat := 59
abbrev i_least_in : Nat := 60
abbrev i_flat : Nat := 61
abbrev i_raw_falls : Nat := 62
abbrev i_never_falls : Nat := 63
abbrev i_leaf_form : Nat := 64
abbrev i_raw_into : Nat := 65
abbrev i_joined_by : Nat := 66
abbrev i_counted_by : Nat := 67
abbrev i_form_by : Nat := 68
abbrev i_raw_forms : Nat := 69
abbrev i_raw_form : Nat := 70
abbrev i_form_of : Nat := 71
abbrev i_check_tax : Nat := 72
abbrev i_raw_tax : Nat := 73
abbrev i_tax_form : Nat := 74
abbrev i_raw_net : Nat := 75
abbrev i_net_form : Nat := 76
abbrev i_raw_gross : Nat := 77
abbrev i_gross_for : Nat := 78
abbrev i_net_set : Nat := 79
abbrev i__law_hand : Nat := 80
abbrev i__law_draw : Nat := 81
abbrev i__law_any : Nat := 82
abbrev i__law_tax : Nat := 83
abbrev i__law_due : Nat := 84
abbrev i__law_word : Nat := 85
abbrev i__law_are_nets_right : Nat := 86
abbrev i_law : Nat := 87
def G0_0 : List (PySem.Str × GI) := [(PySem.Str.ofString "is_integer", .fn 0 1), (PySem.Str.ofString "is_within", .fn 1 3), (PySem.Str.ofString "is_number", .fn 2 1), (PySem.Str.ofString "is_flag", .fn 3 1), (PySem.Str.ofString "is_sized", .fn 4 3), (PySem.Str.ofString "common_part", .fn 5 2), (PySem.Str.ofString "common_round", .fn 6 2), (PySem.Str.ofString "up_by", .fn 7 2), (PySem.Str.ofString "is_form", .fn 8 1), (PySem.Str.ofString "check_form", .fn 9 1), (PySem.Str.ofString "check_two", .fn 10 2), (PySem.Str.ofString "check_number", .fn 11 1), (PySem.Str.ofString "check_width", .fn 12 2), (PySem.Str.ofString "raw_price", .fn 13 2), (PySem.Str.ofString "price_at", .fn 14 2), (PySem.Str.ofString "does_repeat", .fn 15 4), (PySem.Str.ofString "raw_least", .fn 16 1), (PySem.Str.ofString "made", .fn 17 4), (PySem.Str.ofString "is_least", .fn 18 1), (PySem.Str.ofString "rise_in", .fn 19 2), (PySem.Str.ofString "raw_added", .fn 20 2), (PySem.Str.ofString "raw_lessened", .fn 21 2), (PySem.Str.ofString "lessened", .fn 22 2), (PySem.Str.ofString "won_from", .fn 23 2), (PySem.Str.ofString "raw_greater", .fn 24 2)]
def G0_1 : List (PySem.Str × GI) := [(PySem.Str.ofString "turned", .fn 25 1), (PySem.Str.ofString "raw_lesser", .fn 26 2), (PySem.Str.ofString "raw_scaled", .fn 27 2), (PySem.Str.ofString "raw_shared", .fn 28 2), (PySem.Str.ofString "raw_left", .fn 29 2), (PySem.Str.ofString "raw_moved", .fn 30 2), (PySem.Str.ofString "raw_packed", .fn 31 2), (PySem.Str.ofString "raw_unpacked", .fn 32 2), (PySem.Str.ofString "raw_change", .fn 33 1), (PySem.Str.ofString "running", .fn 34 2), (PySem.Str.ofString "raw_highest", .fn 35 1), (PySem.Str.ofString "raw_lowest", .fn 36 1), (PySem.Str.ofString "raw_within", .fn 37 2), (PySem.Str.ofString "split_from", .fn 38 2), (PySem.Str.ofString "split_at", .fn 39 3), (PySem.Str.ofString "raw_split", .fn 40 2), (PySem.Str.ofString "is_listed", .fn 41 1), (PySem.Str.ofString "is_node", .fn 42 1), (PySem.Str.ofString "raw_parts", .fn 43 1), (PySem.Str.ofString "raw_is_rule", .fn 44 1), (PySem.Str.ofString "check_rule", .fn 45 1), (PySem.Str.ofString "raw_nodes", .fn 46 1), (PySem.Str.ofString "are_bands", .fn 47 1), (PySem.Str.ofString "raw_band", .fn 48 2), (PySem.Str.ofString "raw_bands_form", .fn 49 1)]
def G0_2 : List (PySem.Str × GI) := [(PySem.Str.ofString "is_set", .fn 50 1), (PySem.Str.ofString "check_set", .fn 51 1), (PySem.Str.ofString "raw_has", .fn 52 2), (PySem.Str.ofString "has", .fn 53 2), (PySem.Str.ofString "raw_least_set", .fn 54 1), (PySem.Str.ofString "least_set", .fn 55 1), (PySem.Str.ofString "made_set", .fn 56 3), (PySem.Str.ofString "signed_from", .fn 57 2), (PySem.Str.ofString "raw_where_less", .fn 58 2), (PySem.Str.ofString "raw_most", .fn 59 2), (PySem.Str.ofString "least_in", .fn 60 1), (PySem.Str.ofString "flat", .fn 61 1), (PySem.Str.ofString "raw_falls", .fn 62 1), (PySem.Str.ofString "never_falls", .fn 63 1), (PySem.Str.ofString "leaf_form", .fn 64 1), (PySem.Str.ofString "raw_into", .fn 65 2), (PySem.Str.ofString "joined_by", .fn 66 3), (PySem.Str.ofString "counted_by", .fn 67 3), (PySem.Str.ofString "form_by", .fn 68 2), (PySem.Str.ofString "raw_forms", .fn 69 1), (PySem.Str.ofString "raw_form", .fn 70 1), (PySem.Str.ofString "form_of", .fn 71 1), (PySem.Str.ofString "check_tax", .fn 72 1), (PySem.Str.ofString "raw_tax", .fn 73 1), (PySem.Str.ofString "tax_form", .fn 74 1)]
def G0_3 : List (PySem.Str × GI) := [(PySem.Str.ofString "raw_net", .fn 75 1), (PySem.Str.ofString "net_form", .fn 76 1), (PySem.Str.ofString "raw_gross", .fn 77 2), (PySem.Str.ofString "gross_for", .fn 78 2), (PySem.Str.ofString "net_set", .fn 79 1), (PySem.Str.ofString "_law_hand", .fn 80 1), (PySem.Str.ofString "_law_draw", .fn 81 2), (PySem.Str.ofString "_law_any", .fn 82 2), (PySem.Str.ofString "_law_tax", .fn 83 1), (PySem.Str.ofString "_law_due", .fn 84 2), (PySem.Str.ofString "_law_word", .fn 85 1), (PySem.Str.ofString "_law_are_nets_right", .fn 86 2), (PySem.Str.ofString "law", .fn 87 1), (PySem.Str.ofString "MOST_FORM", .val g_MOST_FORM), (PySem.Str.ofString "MOST_RULES", .val g_MOST_RULES), (PySem.Str.ofString "MOST_DEEP", .val g_MOST_DEEP), (PySem.Str.ofString "MOST_SIZE", .val g_MOST_SIZE), (PySem.Str.ofString "MOST_STEP", .val g_MOST_STEP), (PySem.Str.ofString "MOST_LISTED", .val g_MOST_LISTED), (PySem.Str.ofString "MOST_BANDS", .val g_MOST_BANDS), (PySem.Str.ofString "MOST_FROM", .val g_MOST_FROM), (PySem.Str.ofString "MOST_EACH_bands", .val g_MOST_EACH_bands), (PySem.Str.ofString "MOST_EACH_taxes", .val g_MOST_EACH_taxes), (PySem.Str.ofString "HUNDRED", .val g_HUNDRED), (PySem.Str.ofString "ALL", .val g_ALL)]
def G0_4 : List (PySem.Str × GI) := [(PySem.Str.ofString "SPOTS", .fd f_SPOTS), (PySem.Str.ofString "SIZES", .fd f_SIZES), (PySem.Str.ofString "LOWS", .fd f_LOWS), (PySem.Str.ofString "HIGHS", .fd f_HIGHS), (PySem.Str.ofString "()raw_form.<locals>.", .tk), (PySem.Str.ofString "()raw_forms.<locals>.", .tk), (PySem.Str.ofString "()raw_nodes.<locals>.", .tk), (PySem.Str.ofString "{}raw_forms.<locals>.found", .tk), (PySem.Str.ofString "PriceError", .cls), (PySem.Str.ofString "NoForm", .cls), (PySem.Str.ofString "NoNumber", .cls), (PySem.Str.ofString "NoRule", .cls), (PySem.Str.ofString "NoSet", .cls), (PySem.Str.ofString "NoTax", .cls), (PySem.Str.ofString "ValueError", .bi), (PySem.Str.ofString "abs", .bi), (PySem.Str.ofString "all", .bi), (PySem.Str.ofString "bool", .bi), (PySem.Str.ofString "enumerate", .bi), (PySem.Str.ofString "int", .bi), (PySem.Str.ofString "isinstance", .bi), (PySem.Str.ofString "len", .bi), (PySem.Str.ofString "list", .bi), (PySem.Str.ofString "max", .bi), (PySem.Str.ofString "min", .bi)]
def G0_5 : List (PySem.Str × GI) := [(PySem.Str.ofString "range", .bi), (PySem.Str.ofString "repr", .bi), (PySem.Str.ofString "str", .bi), (PySem.Str.ofString "tuple", .bi), (PySem.Str.ofString "zip", .bi)]
def G0 : List (PySem.Str × GI) := G0_0 ++ G0_1 ++ G0_2 ++ G0_3 ++ G0_4 ++ G0_5
def li_raw_added_0 : LamI := lamAt "raw_added.<locals>." (defBody (top 32)) 0
def li_raw_lessened_0 : LamI := lamAt "raw_lessened.<locals>." (defBody (top 33)) 0
def li_raw_greater_0 : LamI := lamAt "raw_greater.<locals>." (defBody (top 36)) 0
def li_raw_greater_1 : LamI := lamAt "raw_greater.<locals>." (defBody (top 36)) 1
def li_raw_scaled_0 : LamI := lamAt "raw_scaled.<locals>." (defBody (top 39)) 0
def li_raw_shared_0 : LamI := lamAt "raw_shared.<locals>." (defBody (top 40)) 0
def li_raw_left_0 : LamI := lamAt "raw_left.<locals>." (defBody (top 41)) 0
def li_raw_moved_0 : LamI := lamAt "raw_moved.<locals>." (defBody (top 42)) 0
def li_raw_packed_0 : LamI := lamAt "raw_packed.<locals>." (defBody (top 43)) 0
def li_raw_unpacked_0 : LamI := lamAt "raw_unpacked.<locals>." (defBody (top 44)) 0
def li_raw_change_0 : LamI := lamAt "raw_change.<locals>." (defBody (top 45)) 0
def li_raw_highest_0 : LamI := lamAt "raw_highest.<locals>." (defBody (top 47)) 0
def li_raw_highest_1 : LamI := lamAt "raw_highest.<locals>." (defBody (top 47)) 1
def li_raw_split_0 : LamI := lamAt "raw_split.<locals>." (defBody (top 52)) 0
def li_raw_bands_form_0 : LamI := lamAt "raw_bands_form.<locals>." (defBody (top 75)) 0
def li_raw_where_less_0 : LamI := lamAt "raw_where_less.<locals>." (defBody (top 85)) 0
def li_raw_into_0 : LamI := lamAt "raw_into.<locals>." (defBody (top 95)) 0
def li_raw_tax_0 : LamI := lamAt "raw_tax.<locals>." (defBody (top 107)) 0
def li_net_set_0 : LamI := lamAt "net_set.<locals>." (defBody (top 113)) 0
def li_law_0 : LamI := lamAt "law.<locals>." (defBody (top 122)) 0
def li_law_1 : LamI := lamAt "law.<locals>." (defBody (top 122)) 1
def li_law_2 : LamI := lamAt "law.<locals>." (defBody (top 122)) 2
noncomputable def lc_raw_added_0 (C : Calls) : Ex := (c2 oAddA (cCall C i_raw_price (aCons (cV 1) (aCons (cV 0) aNil))) (cCall C i_raw_price (aCons (cV 2) (aCons (cV 0) aNil))))
theorem lb_raw_added_0 : lamB li_raw_added_0 = true := by kernel_rfl
theorem ld_raw_added_0 (C : Calls) : dE ⟨li_raw_added_0.N, G0, CT0, ""⟩ C 60 ⟨true, false, false, false⟩ li_raw_added_0.scope li_raw_added_0.body = some (lc_raw_added_0 C) := by kernel_rfl
noncomputable def lc_raw_lessened_0 (C : Calls) : Ex := (c2 oSub (cCall C i_raw_price (aCons (cV 1) (aCons (cV 0) aNil))) (cCall C i_raw_price (aCons (cV 2) (aCons (cV 0) aNil))))
theorem lb_raw_lessened_0 : lamB li_raw_lessened_0 = true := by kernel_rfl
theorem ld_raw_lessened_0 (C : Calls) : dE ⟨li_raw_lessened_0.N, G0, CT0, ""⟩ C 60 ⟨true, false, false, false⟩ li_raw_lessened_0.scope li_raw_lessened_0.body = some (lc_raw_lessened_0 C) := by kernel_rfl
noncomputable def lc_raw_greater_0 (C : Calls) : Ex := (cN oMax2 (aCons (cCall C i_raw_price (aCons (cV 1) (aCons (cV 0) aNil))) (aCons (cCall C i_raw_price (aCons (cV 2) (aCons (cV 0) aNil))) aNil)))
theorem lb_raw_greater_0 : lamB li_raw_greater_0 = true := by kernel_rfl
theorem ld_raw_greater_0 (C : Calls) : dE ⟨li_raw_greater_0.N, G0, CT0, ""⟩ C 60 ⟨true, false, false, false⟩ li_raw_greater_0.scope li_raw_greater_0.body = some (lc_raw_greater_0 C) := by kernel_rfl
noncomputable def lc_raw_greater_1 (C : Calls) : Ex := (cN oMax2 (aCons (cCall C i_raw_price (aCons (cV 1) (aCons (cV 0) aNil))) (aCons (cCall C i_raw_price (aCons (cV 2) (aCons (cV 0) aNil))) aNil)))
theorem lb_raw_greater_1 : lamB li_raw_greater_1 = true := by kernel_rfl
theorem ld_raw_greater_1 (C : Calls) : dE ⟨li_raw_greater_1.N, G0, CT0, ""⟩ C 60 ⟨true, false, false, false⟩ li_raw_greater_1.scope li_raw_greater_1.body = some (lc_raw_greater_1 C) := by kernel_rfl
noncomputable def lc_raw_scaled_0 (C : Calls) : Ex := (c2 oMulA (cV 2) (cCall C i_raw_price (aCons (cV 1) (aCons (cV 0) aNil))))
theorem lb_raw_scaled_0 : lamB li_raw_scaled_0 = true := by kernel_rfl
theorem ld_raw_scaled_0 (C : Calls) : dE ⟨li_raw_scaled_0.N, G0, CT0, ""⟩ C 60 ⟨true, false, false, false⟩ li_raw_scaled_0.scope li_raw_scaled_0.body = some (lc_raw_scaled_0 C) := by kernel_rfl
noncomputable def lc_raw_shared_0 (C : Calls) : Ex := (c2 oDiv (cCall C i_raw_price (aCons (cV 1) (aCons (cV 0) aNil))) (cV 2))
theorem lb_raw_shared_0 : lamB li_raw_shared_0 = true := by kernel_rfl
theorem ld_raw_shared_0 (C : Calls) : dE ⟨li_raw_shared_0.N, G0, CT0, ""⟩ C 60 ⟨true, false, false, false⟩ li_raw_shared_0.scope li_raw_shared_0.body = some (lc_raw_shared_0 C) := by kernel_rfl
noncomputable def lc_raw_left_0 (C : Calls) : Ex := (c2 oMod (cCall C i_raw_price (aCons (cV 1) (aCons (cV 0) aNil))) (cV 2))
theorem lb_raw_left_0 : lamB li_raw_left_0 = true := by kernel_rfl
theorem ld_raw_left_0 (C : Calls) : dE ⟨li_raw_left_0.N, G0, CT0, ""⟩ C 60 ⟨true, false, false, false⟩ li_raw_left_0.scope li_raw_left_0.body = some (lc_raw_left_0 C) := by kernel_rfl
noncomputable def lc_raw_moved_0 (C : Calls) : Ex := (cCall C i_raw_price (aCons (cV 1) (aCons (cN oMax2 (aCons (cD (.int 0)) (aCons (c2 oAddA (cV 0) (cV 2)) aNil))) aNil)))
theorem lb_raw_moved_0 : lamB li_raw_moved_0 = true := by kernel_rfl
theorem ld_raw_moved_0 (C : Calls) : dE ⟨li_raw_moved_0.N, G0, CT0, ""⟩ C 60 ⟨true, false, false, false⟩ li_raw_moved_0.scope li_raw_moved_0.body = some (lc_raw_moved_0 C) := by kernel_rfl
noncomputable def lc_raw_packed_0 (C : Calls) : Ex := (cCall C i_raw_price (aCons (cV 1) (aCons (cCall C i_up_by (aCons (cV 0) (aCons (cV 2) aNil))) aNil)))
theorem lb_raw_packed_0 : lamB li_raw_packed_0 = true := by kernel_rfl
theorem ld_raw_packed_0 (C : Calls) : dE ⟨li_raw_packed_0.N, G0, CT0, ""⟩ C 60 ⟨true, false, false, false⟩ li_raw_packed_0.scope li_raw_packed_0.body = some (lc_raw_packed_0 C) := by kernel_rfl
noncomputable def lc_raw_unpacked_0 (C : Calls) : Ex := (cCall C i_raw_price (aCons (cV 1) (aCons (c2 oMulA (cV 2) (cV 0)) aNil)))
theorem lb_raw_unpacked_0 : lamB li_raw_unpacked_0 = true := by kernel_rfl
theorem ld_raw_unpacked_0 (C : Calls) : dE ⟨li_raw_unpacked_0.N, G0, CT0, ""⟩ C 60 ⟨true, false, false, false⟩ li_raw_unpacked_0.scope li_raw_unpacked_0.body = some (lc_raw_unpacked_0 C) := by kernel_rfl
noncomputable def lc_raw_change_0 (C : Calls) : Ex := (c2 oSub (cCall C i_raw_price (aCons (cV 1) (aCons (c2 oAddA (cV 0) (cD (.int 1))) aNil))) (cCall C i_raw_price (aCons (cV 1) (aCons (cV 0) aNil))))
theorem lb_raw_change_0 : lamB li_raw_change_0 = true := by kernel_rfl
theorem ld_raw_change_0 (C : Calls) : dE ⟨li_raw_change_0.N, G0, CT0, ""⟩ C 60 ⟨true, false, false, false⟩ li_raw_change_0.scope li_raw_change_0.body = some (lc_raw_change_0 C) := by kernel_rfl
noncomputable def lc_raw_highest_0 (C : Calls) : Ex := (c2 oIx (cV 1) (cV 0))
theorem lb_raw_highest_0 : lamB li_raw_highest_0 = true := by kernel_rfl
theorem ld_raw_highest_0 (C : Calls) : dE ⟨li_raw_highest_0.N, G0, CT0, ""⟩ C 60 ⟨true, false, false, false⟩ li_raw_highest_0.scope li_raw_highest_0.body = some (lc_raw_highest_0 C) := by kernel_rfl
noncomputable def lc_raw_highest_1 (C : Calls) : Ex := (c2 oIx (cV 1) (cV 0))
theorem lb_raw_highest_1 : lamB li_raw_highest_1 = true := by kernel_rfl
theorem ld_raw_highest_1 (C : Calls) : dE ⟨li_raw_highest_1.N, G0, CT0, ""⟩ C 60 ⟨true, false, false, false⟩ li_raw_highest_1.scope li_raw_highest_1.body = some (lc_raw_highest_1 C) := by kernel_rfl
noncomputable def lc_raw_split_0 (C : Calls) : Ex := (cCall C i_split_at (aCons (cV 1) (aCons (cV 2) (aCons (cV 0) aNil))))
theorem lb_raw_split_0 : lamB li_raw_split_0 = true := by kernel_rfl
theorem ld_raw_split_0 (C : Calls) : dE ⟨li_raw_split_0.N, G0, CT0, ""⟩ C 60 ⟨true, false, false, false⟩ li_raw_split_0.scope li_raw_split_0.body = some (lc_raw_split_0 C) := by kernel_rfl
noncomputable def lc_raw_bands_form_0 (C : Calls) : Ex := (c2 oIx (cV 1) (cV 0))
theorem lb_raw_bands_form_0 : lamB li_raw_bands_form_0 = true := by kernel_rfl
theorem ld_raw_bands_form_0 (C : Calls) : dE ⟨li_raw_bands_form_0.N, G0, CT0, ""⟩ C 60 ⟨true, false, false, false⟩ li_raw_bands_form_0.scope li_raw_bands_form_0.body = some (lc_raw_bands_form_0 C) := by kernel_rfl
noncomputable def lc_raw_where_less_0 (C : Calls) : Ex := (c2 oLt (cCall C i_raw_price (aCons (cV 1) (aCons (cV 0) aNil))) (cCall C i_raw_price (aCons (cV 2) (aCons (cV 0) aNil))))
theorem lb_raw_where_less_0 : lamB li_raw_where_less_0 = true := by kernel_rfl
theorem ld_raw_where_less_0 (C : Calls) : dE ⟨li_raw_where_less_0.N, G0, CT0, ""⟩ C 60 ⟨true, false, false, false⟩ li_raw_where_less_0.scope li_raw_where_less_0.body = some (lc_raw_where_less_0 C) := by kernel_rfl
noncomputable def lc_raw_into_0 (C : Calls) : Ex := (cCall C i_raw_price (aCons (cV 2) (aCons (cN oMax2 (aCons (cD (.int 0)) (aCons (cCall C i_raw_price (aCons (cV 1) (aCons (cV 0) aNil))) aNil))) aNil)))
theorem lb_raw_into_0 : lamB li_raw_into_0 = true := by kernel_rfl
theorem ld_raw_into_0 (C : Calls) : dE ⟨li_raw_into_0.N, G0, CT0, ""⟩ C 60 ⟨true, false, false, false⟩ li_raw_into_0.scope li_raw_into_0.body = some (lc_raw_into_0 C) := by kernel_rfl
noncomputable def lc_raw_tax_0 (C : Calls) : Ex := (c2 oDiv (cCall C i_raw_price (aCons (cV 1) (aCons (cV 0) aNil))) (cD g_HUNDRED))
theorem lb_raw_tax_0 : lamB li_raw_tax_0 = true := by kernel_rfl
theorem ld_raw_tax_0 (C : Calls) : dE ⟨li_raw_tax_0.N, G0, CT0, ""⟩ C 60 ⟨true, false, false, false⟩ li_raw_tax_0.scope li_raw_tax_0.body = some (lc_raw_tax_0 C) := by kernel_rfl
noncomputable def lc_net_set_0 (C : Calls) : Ex := (c2 oEq (cCall C i_raw_price (aCons (cV 1) (aCons (cCall C i_raw_gross (aCons (cV 1) (aCons (cV 0) aNil))) aNil))) (cV 0))
theorem lb_net_set_0 : lamB li_net_set_0 = true := by kernel_rfl
theorem ld_net_set_0 (C : Calls) : dE ⟨li_net_set_0.N, G0, CT0, ""⟩ C 60 ⟨true, false, false, false⟩ li_net_set_0.scope li_net_set_0.body = some (lc_net_set_0 C) := by kernel_rfl
noncomputable def lc_law_0 (C : Calls) : Ex := (cCall C i_tax_form (aCons (cCall C i__law_any (aCons (cV 0) (aCons (cNew (aDisp (aCons (cD (.non)) (aCons (cN oTup aNil) (aCons (cNew (aDisp (aCons (cN oTup (aCons (cD (.int 0)) (aCons (cD (.int 1)) aNil))) aNil))) (aCons (cN oTup (aCons (cN oTup (aCons (cD (.int 1)) (aCons (cD (.int 1)) aNil))) aNil)) (aCons (cN oTup (aCons (cN oTup (aCons (cD (.int 0)) (aCons (cD (.int 100)) aNil))) aNil)) (aCons (cN oTup (aCons (cN oTup (aCons (cD (.int 0)) (aCons (c1 oNeg (cD (.int 1))) aNil))) aNil)) aNil)))))))) aNil))) aNil))
theorem lb_law_0 : lamB li_law_0 = true := by kernel_rfl
theorem ld_law_0 (C : Calls) : dE ⟨li_law_0.N, G0, CT0, ""⟩ C 60 ⟨true, false, false, false⟩ li_law_0.scope li_law_0.body = some (lc_law_0 C) := by kernel_rfl
noncomputable def lc_law_1 (C : Calls) : Ex := (cCall C i_gross_for (aCons (cV 1) (aCons (cCall C i__law_any (aCons (cV 0) (aCons (cNew (aDisp (aCons (c1 oNeg (cD (.int 1))) (aCons (cD (.non)) (aCons (cD (.bl true)) aNil))))) aNil))) aNil)))
theorem lb_law_1 : lamB li_law_1 = true := by kernel_rfl
theorem ld_law_1 (C : Calls) : dE ⟨li_law_1.N, G0, CT0, ""⟩ C 60 ⟨true, false, false, false⟩ li_law_1.scope li_law_1.body = some (lc_law_1 C) := by kernel_rfl
noncomputable def lc_law_2 (C : Calls) : Ex := (cCall C i_net_set (aCons (cN oTup (aCons (cN oTup (aCons (cD (.int 0)) (aCons (cD (.bl true)) aNil))) aNil)) aNil))
theorem lb_law_2 : lamB li_law_2 = true := by kernel_rfl
theorem ld_law_2 (C : Calls) : dE ⟨li_law_2.N, G0, CT0, ""⟩ C 60 ⟨true, false, false, false⟩ li_law_2.scope li_law_2.body = some (lc_law_2 C) := by kernel_rfl
noncomputable def b_is_integer (C : Calls) : St :=
    (sRet (cAnd (c1 (oIsI "int") (cV 0)) (c1 oNot (c1 (oIsI "bool") (cV 0)))))
def N_is_integer : List PySem.Str := [PySem.Str.ofString "thing"]
theorem dn_is_integer (C : Calls) : dSs ⟨N_is_integer, G0, CT0, PySem.Str.ofString "is_integer" ++ ".<locals>."⟩ C 60 ⟨true, false, false, true⟩ (defScope (top 1)) (defBody (top 1)) = some (b_is_integer C) := by kernel_rfl
theorem sc_is_integer : FnScope N_is_integer [PySem.Str.ofString "thing"] (defScope (top 1)) := fnsc_by (by kernel_rfl)
noncomputable def b_is_within (C : Calls) : St :=
    (sRet (cAnd (cCall C i_is_integer (aCons (cV 0) aNil)) (cChain oLe oLe (cV 1) (cV 0) (cV 2))))
def N_is_within : List PySem.Str := [PySem.Str.ofString "thing", PySem.Str.ofString "low", PySem.Str.ofString "high"]
theorem dn_is_within (C : Calls) : dSs ⟨N_is_within, G0, CT0, PySem.Str.ofString "is_within" ++ ".<locals>."⟩ C 60 ⟨true, false, false, true⟩ (defScope (top 2)) (defBody (top 2)) = some (b_is_within C) := by kernel_rfl
theorem sc_is_within : FnScope N_is_within [PySem.Str.ofString "thing", PySem.Str.ofString "low", PySem.Str.ofString "high"] (defScope (top 2)) := fnsc_by (by kernel_rfl)
noncomputable def b_is_number (C : Calls) : St :=
    (sRet (cAnd (cCall C i_is_integer (aCons (cV 0) aNil)) (c2 oGe (cV 0) (cD (.int 0)))))
def N_is_number : List PySem.Str := [PySem.Str.ofString "thing"]
theorem dn_is_number (C : Calls) : dSs ⟨N_is_number, G0, CT0, PySem.Str.ofString "is_number" ++ ".<locals>."⟩ C 60 ⟨true, false, false, true⟩ (defScope (top 3)) (defBody (top 3)) = some (b_is_number C) := by kernel_rfl
theorem sc_is_number : FnScope N_is_number [PySem.Str.ofString "thing"] (defScope (top 3)) := fnsc_by (by kernel_rfl)
noncomputable def b_is_flag (C : Calls) : St :=
    (sRet (c1 (oIsI "bool") (cV 0)))
def N_is_flag : List PySem.Str := [PySem.Str.ofString "thing"]
theorem dn_is_flag (C : Calls) : dSs ⟨N_is_flag, G0, CT0, PySem.Str.ofString "is_flag" ++ ".<locals>."⟩ C 60 ⟨true, false, false, true⟩ (defScope (top 4)) (defBody (top 4)) = some (b_is_flag C) := by kernel_rfl
theorem sc_is_flag : FnScope N_is_flag [PySem.Str.ofString "thing"] (defScope (top 4)) := fnsc_by (by kernel_rfl)
noncomputable def b_is_sized (C : Calls) : St :=
    (sRet (cAnd (c1 (oIsI "tuple") (cV 0)) (cChain oLe oLe (cV 1) (cN oLen (aCons (cV 0) aNil)) (cV 2))))
def N_is_sized : List PySem.Str := [PySem.Str.ofString "thing", PySem.Str.ofString "least", PySem.Str.ofString "most"]
theorem dn_is_sized (C : Calls) : dSs ⟨N_is_sized, G0, CT0, PySem.Str.ofString "is_sized" ++ ".<locals>."⟩ C 60 ⟨true, false, false, true⟩ (defScope (top 5)) (defBody (top 5)) = some (b_is_sized C) := by kernel_rfl
theorem sc_is_sized : FnScope N_is_sized [PySem.Str.ofString "thing", PySem.Str.ofString "least", PySem.Str.ofString "most"] (defScope (top 5)) := fnsc_by (by kernel_rfl)
noncomputable def b_common_part (C : Calls) : St :=
    (sSeq (sWhile (tV (c2 oGt (cV 1) (cD (.int 0)))) (sPar (gPar [0, 1]) (aCons (cV 1) (aCons (c2 oMod (cV 0) (cV 1)) aNil))))
    (sRet (cV 0)))
def N_common_part : List PySem.Str := [PySem.Str.ofString "one", PySem.Str.ofString "other"]
theorem dn_common_part (C : Calls) : dSs ⟨N_common_part, G0, CT0, PySem.Str.ofString "common_part" ++ ".<locals>."⟩ C 60 ⟨true, false, false, true⟩ (defScope (top 6)) (defBody (top 6)) = some (b_common_part C) := by kernel_rfl
theorem sc_common_part : FnScope N_common_part [PySem.Str.ofString "one", PySem.Str.ofString "other"] (defScope (top 6)) := fnsc_by (by kernel_rfl)
noncomputable def b_common_round (C : Calls) : St :=
    (sRet (c2 oMulA (c2 oDiv (cV 0) (cCall C i_common_part (aCons (cV 0) (aCons (cV 1) aNil)))) (cV 1)))
def N_common_round : List PySem.Str := [PySem.Str.ofString "one", PySem.Str.ofString "other"]
theorem dn_common_round (C : Calls) : dSs ⟨N_common_round, G0, CT0, PySem.Str.ofString "common_round" ++ ".<locals>."⟩ C 60 ⟨true, false, false, true⟩ (defScope (top 7)) (defBody (top 7)) = some (b_common_round C) := by kernel_rfl
theorem sc_common_round : FnScope N_common_round [PySem.Str.ofString "one", PySem.Str.ofString "other"] (defScope (top 7)) := fnsc_by (by kernel_rfl)
noncomputable def b_up_by (C : Calls) : St :=
    (sRet (c2 oSub (cD (.int 0)) (c2 oDiv (c2 oSub (cD (.int 0)) (cV 0)) (cV 1))))
def N_up_by : List PySem.Str := [PySem.Str.ofString "number", PySem.Str.ofString "part"]
theorem dn_up_by (C : Calls) : dSs ⟨N_up_by, G0, CT0, PySem.Str.ofString "up_by" ++ ".<locals>."⟩ C 60 ⟨true, false, false, true⟩ (defScope (top 8)) (defBody (top 8)) = some (b_up_by C) := by kernel_rfl
theorem sc_up_by : FnScope N_up_by [PySem.Str.ofString "number", PySem.Str.ofString "part"] (defScope (top 8)) := fnsc_by (by kernel_rfl)
noncomputable def b_is_form (C : Calls) : St :=
    (sSeq (sIf (tOr (tNot (tV (cCall C i_is_sized (aCons (cV 0) (aCons (cD (.int 4)) (aCons (cD (.int 4)) aNil)))))) (tOr (tNot (tV (cCall C i_is_within (aCons (c2 oIx (cV 0) (cD (.int 0))) (aCons (cD (.int 0)) (aCons (cD g_MOST_FORM) aNil)))))) (tNot (tV (cCall C i_is_within (aCons (c2 oIx (cV 0) (cD (.int 1))) (aCons (cD (.int 1)) (aCons (cD g_MOST_FORM) aNil)))))))) (sRet (cD (.bl false))) sNx)
    (sSeq (sSet (gV 1) (c2 oAddA (c2 oIx (cV 0) (cD (.int 0))) (c2 oIx (cV 0) (cD (.int 1)))))
    (sSeq (sIf (tOr (tV (c2 oGt (cV 1) (cD g_MOST_FORM))) (tOr (tNot (tV (cCall C i_is_integer (aCons (c2 oIx (cV 0) (cD (.int 2))) aNil)))) (tNot (tV (cCall C i_is_sized (aCons (c2 oIx (cV 0) (cD (.int 3))) (aCons (cV 1) (aCons (cV 1) aNil)))))))) (sRet (cD (.bl false))) sNx)
    (sRet (cK kAll (aComp [2] (iE (c2 oIx (cV 0) (cD (.int 3)))) (gV 2) tYes (cCall C i_is_integer (aCons (cV 2) aNil))))))))
def N_is_form : List PySem.Str := [PySem.Str.ofString "thing", PySem.Str.ofString "many", PySem.Str.ofString "one"]
theorem dn_is_form (C : Calls) : dSs ⟨N_is_form, G0, CT0, PySem.Str.ofString "is_form" ++ ".<locals>."⟩ C 60 ⟨true, false, false, true⟩ (defScope (top 19)) (defBody (top 19)) = some (b_is_form C) := by kernel_rfl
theorem sc_is_form : FnScope N_is_form [PySem.Str.ofString "thing"] (defScope (top 19)) := fnsc_by (by kernel_rfl)
noncomputable def b_check_form (C : Calls) : St :=
    (sIf (tNot (tV (cCall C i_is_form (aCons (cV 0) aNil)))) (sRaise (PySem.Str.ofString "NoForm")) sNx)
def N_check_form : List PySem.Str := [PySem.Str.ofString "form"]
theorem dn_check_form (C : Calls) : dSs ⟨N_check_form, G0, CT0, PySem.Str.ofString "check_form" ++ ".<locals>."⟩ C 60 ⟨true, false, false, true⟩ (defScope (top 20)) (defBody (top 20)) = some (b_check_form C) := by kernel_rfl
theorem sc_check_form : FnScope N_check_form [PySem.Str.ofString "form"] (defScope (top 20)) := fnsc_by (by kernel_rfl)
noncomputable def b_check_two (C : Calls) : St :=
    (sSeq (sDrop (cCall C i_check_form (aCons (cV 0) aNil)))
    (sDrop (cCall C i_check_form (aCons (cV 1) aNil))))
def N_check_two : List PySem.Str := [PySem.Str.ofString "form", PySem.Str.ofString "other"]
theorem dn_check_two (C : Calls) : dSs ⟨N_check_two, G0, CT0, PySem.Str.ofString "check_two" ++ ".<locals>."⟩ C 60 ⟨true, false, false, true⟩ (defScope (top 21)) (defBody (top 21)) = some (b_check_two C) := by kernel_rfl
theorem sc_check_two : FnScope N_check_two [PySem.Str.ofString "form", PySem.Str.ofString "other"] (defScope (top 21)) := fnsc_by (by kernel_rfl)
noncomputable def b_check_number (C : Calls) : St :=
    (sIf (tNot (tV (cCall C i_is_number (aCons (cV 0) aNil)))) (sRaise (PySem.Str.ofString "NoNumber")) sNx)
def N_check_number : List PySem.Str := [PySem.Str.ofString "n"]
theorem dn_check_number (C : Calls) : dSs ⟨N_check_number, G0, CT0, PySem.Str.ofString "check_number" ++ ".<locals>."⟩ C 60 ⟨true, false, false, true⟩ (defScope (top 22)) (defBody (top 22)) = some (b_check_number C) := by kernel_rfl
theorem sc_check_number : FnScope N_check_number [PySem.Str.ofString "n"] (defScope (top 22)) := fnsc_by (by kernel_rfl)
noncomputable def b_check_width (C : Calls) : St :=
    (sIf (tV (c2 oGt (c2 oAddA (cV 0) (cV 1)) (cD g_MOST_FORM))) sNever sNx)
def N_check_width : List PySem.Str := [PySem.Str.ofString "begin", PySem.Str.ofString "around"]
theorem dn_check_width (C : Calls) : dSs ⟨N_check_width, G0, CT0, PySem.Str.ofString "check_width" ++ ".<locals>."⟩ C 60 ⟨true, false, false, true⟩ (defScope (top 23)) (defBody (top 23)) = some (b_check_width C) := by kernel_rfl
theorem sc_check_width : FnScope N_check_width [PySem.Str.ofString "begin", PySem.Str.ofString "around"] (defScope (top 23)) := fnsc_by (by kernel_rfl)
noncomputable def b_raw_price (C : Calls) : St :=
    (sSeq (sSet (gTupN 4 (gCons (gV 2) (gCons (gV 3) (gCons (gV 4) (gCons (gV 5) gNil))))) (cV 0))
    (sSeq (sIf (tV (c2 oLt (cV 1) (c2 oAddA (cV 2) (cV 3)))) (sRet (c2 oIx (cV 5) (cV 1))) sNx)
    (sRet (c2 oAddA (c2 oIx (cV 5) (c2 oAddA (cV 2) (c2 oMod (c2 oSub (cV 1) (cV 2)) (cV 3)))) (c2 oMulA (c2 oDiv (c2 oSub (cV 1) (cV 2)) (cV 3)) (cV 4))))))
def N_raw_price : List PySem.Str := [PySem.Str.ofString "form", PySem.Str.ofString "n", PySem.Str.ofString "begin", PySem.Str.ofString "around", PySem.Str.ofString "rise", PySem.Str.ofString "prices"]
theorem dn_raw_price (C : Calls) : dSs ⟨N_raw_price, G0, CT0, PySem.Str.ofString "raw_price" ++ ".<locals>."⟩ C 60 ⟨true, false, false, true⟩ (defScope (top 24)) (defBody (top 24)) = some (b_raw_price C) := by kernel_rfl
theorem sc_raw_price : FnScope N_raw_price [PySem.Str.ofString "form", PySem.Str.ofString "n"] (defScope (top 24)) := fnsc_by (by kernel_rfl)
noncomputable def b_price_at (C : Calls) : St :=
    (sSeq (sDrop (cCall C i_check_form (aCons (cV 0) aNil)))
    (sSeq (sDrop (cCall C i_check_number (aCons (cV 1) aNil)))
    (sRet (cCall C i_raw_price (aCons (cV 0) (aCons (cV 1) aNil))))))
def N_price_at : List PySem.Str := [PySem.Str.ofString "form", PySem.Str.ofString "n"]
theorem dn_price_at (C : Calls) : dSs ⟨N_price_at, G0, CT0, PySem.Str.ofString "price_at" ++ ".<locals>."⟩ C 60 ⟨true, false, false, true⟩ (defScope (top 25)) (defBody (top 25)) = some (b_price_at C) := by kernel_rfl
theorem sc_price_at : FnScope N_price_at [PySem.Str.ofString "form", PySem.Str.ofString "n"] (defScope (top 25)) := fnsc_by (by kernel_rfl)
noncomputable def b_does_repeat (C : Calls) : St :=
    (sSeq (sSet (gV 4) (cNew (aRg (cV 1) (c2 oAddA (cV 1) (c2 oIx (cV 0) (cD (.int 1)))))))
    (sRet (cK kAll (aComp [5] (iE (cV 4)) (gV 5) tYes (c2 oEq (cCall C i_raw_price (aCons (cV 0) (aCons (c2 oAddA (cV 5) (cV 2)) aNil))) (c2 oAddA (cCall C i_raw_price (aCons (cV 0) (aCons (cV 5) aNil))) (cV 3)))))))
def N_does_repeat : List PySem.Str := [PySem.Str.ofString "form", PySem.Str.ofString "begin", PySem.Str.ofString "around", PySem.Str.ofString "rise", PySem.Str.ofString "numbers", PySem.Str.ofString "n"]
theorem dn_does_repeat (C : Calls) : dSs ⟨N_does_repeat, G0, CT0, PySem.Str.ofString "does_repeat" ++ ".<locals>."⟩ C 60 ⟨true, false, false, true⟩ (defScope (top 26)) (defBody (top 26)) = some (b_does_repeat C) := by kernel_rfl
theorem sc_does_repeat : FnScope N_does_repeat [PySem.Str.ofString "form", PySem.Str.ofString "begin", PySem.Str.ofString "around", PySem.Str.ofString "rise"] (defScope (top 26)) := fnsc_by (by kernel_rfl)
noncomputable def b_raw_least (C : Calls) : St :=
    (sSeq (sSet (gTupN 4 (gCons (gV 1) (gCons (gV 2) (gCons (gV 3) (gCons (gV 4) gNil))))) (cV 0))
    (sSeq (sSet (gV 5) (cV 2))
    (sSeq (sFor (iRdn (cV 2) (cD (.int 0))) (gV 6) (sIf (tAnd (tV (c2 oEq (c2 oMod (cV 2) (cV 6)) (cD (.int 0)))) (tV (c2 oEq (c2 oMod (c2 oMulA (cV 3) (cV 6)) (cV 2)) (cD (.int 0))))) (sIf (tV (cCall C i_does_repeat (aCons (cV 0) (aCons (cV 1) (aCons (cV 6) (aCons (c2 oDiv (c2 oMulA (cV 3) (cV 6)) (cV 2)) aNil)))))) (sSet (gV 5) (cV 6)) sNx) sNx))
    (sSeq (sSet (gV 7) (c2 oDiv (c2 oMulA (cV 3) (cV 5)) (cV 2)))
    (sSeq (sWhile (tAnd (tV (c2 oGt (cV 1) (cD (.int 0)))) (tV (c2 oEq (cCall C i_raw_price (aCons (cV 0) (aCons (c2 oAddA (c2 oSub (cV 1) (cD (.int 1))) (cV 5)) aNil))) (c2 oAddA (c2 oIx (cV 4) (c2 oSub (cV 1) (cD (.int 1)))) (cV 7))))) (sSet (gV 1) (c2 oSub (cV 1) (cD (.int 1)))))
    (sRet (cN oTup (aCons (cV 1) (aCons (cV 5) (aCons (cV 7) (aCons (cK kTup (aComp [8] (iR1 (c2 oAddA (cV 1) (cV 5))) (gV 8) tYes (cCall C i_raw_price (aCons (cV 0) (aCons (cV 8) aNil))))) aNil)))))))))))
def N_raw_least : List PySem.Str := [PySem.Str.ofString "form", PySem.Str.ofString "begin", PySem.Str.ofString "around", PySem.Str.ofString "rise", PySem.Str.ofString "prices", PySem.Str.ofString "best", PySem.Str.ofString "less", PySem.Str.ofString "step", PySem.Str.ofString "n"]
theorem dn_raw_least (C : Calls) : dSs ⟨N_raw_least, G0, CT0, PySem.Str.ofString "raw_least" ++ ".<locals>."⟩ C 60 ⟨true, false, false, true⟩ (defScope (top 27)) (defBody (top 27)) = some (b_raw_least C) := by kernel_rfl
theorem sc_raw_least : FnScope N_raw_least [PySem.Str.ofString "form"] (defScope (top 27)) := fnsc_by (by kernel_rfl)
noncomputable def b_made (C : Calls) : St :=
    (sSeq (sDrop (cCall C i_check_width (aCons (cV 0) (aCons (cV 1) aNil))))
    (sRet (cCall C i_raw_least (aCons (cN oTup (aCons (cV 0) (aCons (cV 1) (aCons (cV 2) (aCons (cK kTup (aComp [4] (iR1 (c2 oAddA (cV 0) (cV 1))) (gV 4) tYes (cCallV C 3 (aCons (cV 4) aNil)))) aNil))))) aNil))))
def N_made : List PySem.Str := [PySem.Str.ofString "begin", PySem.Str.ofString "around", PySem.Str.ofString "rise", PySem.Str.ofString "price_by", PySem.Str.ofString "n"]
theorem dn_made (C : Calls) : dSs ⟨N_made, G0, CT0, PySem.Str.ofString "made" ++ ".<locals>."⟩ C 60 ⟨true, false, false, true⟩ (defScope (top 28)) (defBody (top 28)) = some (b_made C) := by kernel_rfl
theorem sc_made : FnScope N_made [PySem.Str.ofString "begin", PySem.Str.ofString "around", PySem.Str.ofString "rise", PySem.Str.ofString "price_by"] (defScope (top 28)) := fnsc_by (by kernel_rfl)
noncomputable def b_is_least (C : Calls) : St :=
    (sSeq (sDrop (cCall C i_check_form (aCons (cV 0) aNil)))
    (sRet (c2 oEq (cCall C i_raw_least (aCons (cV 0) aNil)) (cV 0))))
def N_is_least : List PySem.Str := [PySem.Str.ofString "form"]
theorem dn_is_least (C : Calls) : dSs ⟨N_is_least, G0, CT0, PySem.Str.ofString "is_least" ++ ".<locals>."⟩ C 60 ⟨true, false, false, true⟩ (defScope (top 29)) (defBody (top 29)) = some (b_is_least C) := by kernel_rfl
theorem sc_is_least : FnScope N_is_least [PySem.Str.ofString "form"] (defScope (top 29)) := fnsc_by (by kernel_rfl)
noncomputable def b_rise_in (C : Calls) : St :=
    (sRet (c2 oMulA (c2 oIx (cV 0) (cD (.int 2))) (c2 oDiv (cV 1) (c2 oIx (cV 0) (cD (.int 1))))))
def N_rise_in : List PySem.Str := [PySem.Str.ofString "form", PySem.Str.ofString "around"]
theorem dn_rise_in (C : Calls) : dSs ⟨N_rise_in, G0, CT0, PySem.Str.ofString "rise_in" ++ ".<locals>."⟩ C 60 ⟨true, false, false, true⟩ (defScope (top 31)) (defBody (top 31)) = some (b_rise_in C) := by kernel_rfl
theorem sc_rise_in : FnScope N_rise_in [PySem.Str.ofString "form", PySem.Str.ofString "around"] (defScope (top 31)) := fnsc_by (by kernel_rfl)
noncomputable def b_raw_added (C : Calls) : St :=
    (sSeq (sSet (gV 2) (cCall C i_common_round (aCons (c2 oIx (cV 0) (cD (.int 1))) (aCons (c2 oIx (cV 1) (cD (.int 1))) aNil))))
    (sSeq (sSet (gV 3) (c2 oAddA (cCall C i_rise_in (aCons (cV 0) (aCons (cV 2) aNil))) (cCall C i_rise_in (aCons (cV 1) (aCons (cV 2) aNil)))))
    (sRet (cCallL C i_made (aCons (cN oMax2 (aCons (c2 oIx (cV 0) (cD (.int 0))) (aCons (c2 oIx (cV 1) (cD (.int 0))) aNil))) (aCons (cV 2) (aCons (cV 3) aNil))) li_raw_added_0 [0, 1]))))
def N_raw_added : List PySem.Str := [PySem.Str.ofString "form", PySem.Str.ofString "other", PySem.Str.ofString "around", PySem.Str.ofString "rise"]
theorem dn_raw_added (C : Calls) : dSs ⟨N_raw_added, G0, CT0, PySem.Str.ofString "raw_added" ++ ".<locals>."⟩ C 60 ⟨true, true, false, true⟩ (defScope (top 32)) (defBody (top 32)) = some (b_raw_added C) := by kernel_rfl
theorem sc_raw_added : FnScope N_raw_added [PySem.Str.ofString "form", PySem.Str.ofString "other"] (defScope (top 32)) := fnsc_by (by kernel_rfl)
noncomputable def b_raw_lessened (C : Calls) : St :=
    (sSeq (sSet (gV 2) (cCall C i_common_round (aCons (c2 oIx (cV 0) (cD (.int 1))) (aCons (c2 oIx (cV 1) (cD (.int 1))) aNil))))
    (sSeq (sSet (gV 3) (c2 oSub (cCall C i_rise_in (aCons (cV 0) (aCons (cV 2) aNil))) (cCall C i_rise_in (aCons (cV 1) (aCons (cV 2) aNil)))))
    (sRet (cCallL C i_made (aCons (cN oMax2 (aCons (c2 oIx (cV 0) (cD (.int 0))) (aCons (c2 oIx (cV 1) (cD (.int 0))) aNil))) (aCons (cV 2) (aCons (cV 3) aNil))) li_raw_lessened_0 [0, 1]))))
def N_raw_lessened : List PySem.Str := [PySem.Str.ofString "form", PySem.Str.ofString "other", PySem.Str.ofString "around", PySem.Str.ofString "rise"]
theorem dn_raw_lessened (C : Calls) : dSs ⟨N_raw_lessened, G0, CT0, PySem.Str.ofString "raw_lessened" ++ ".<locals>."⟩ C 60 ⟨true, true, false, true⟩ (defScope (top 33)) (defBody (top 33)) = some (b_raw_lessened C) := by kernel_rfl
theorem sc_raw_lessened : FnScope N_raw_lessened [PySem.Str.ofString "form", PySem.Str.ofString "other"] (defScope (top 33)) := fnsc_by (by kernel_rfl)
noncomputable def b_lessened (C : Calls) : St :=
    (sSeq (sDrop (cCall C i_check_two (aCons (cV 0) (aCons (cV 1) aNil))))
    (sRet (cCall C i_raw_lessened (aCons (cV 0) (aCons (cV 1) aNil)))))
def N_lessened : List PySem.Str := [PySem.Str.ofString "form", PySem.Str.ofString "other"]
theorem dn_lessened (C : Calls) : dSs ⟨N_lessened, G0, CT0, PySem.Str.ofString "lessened" ++ ".<locals>."⟩ C 60 ⟨true, false, false, true⟩ (defScope (top 34)) (defBody (top 34)) = some (b_lessened C) := by kernel_rfl
theorem sc_lessened : FnScope N_lessened [PySem.Str.ofString "form", PySem.Str.ofString "other"] (defScope (top 34)) := fnsc_by (by kernel_rfl)
noncomputable def b_won_from (C : Calls) : St :=
    (sSeq (sPar (gPar [2, 3]) (aCons (cN oMax2 (aCons (c2 oIx (cV 0) (cD (.int 0))) (aCons (c2 oIx (cV 1) (cD (.int 0))) aNil))) (aCons (cCall C i_common_round (aCons (c2 oIx (cV 0) (cD (.int 1))) (aCons (c2 oIx (cV 1) (cD (.int 1))) aNil))) aNil)))
    (sSeq (sSet (gV 4) (c2 oSub (cCall C i_rise_in (aCons (cV 0) (aCons (cV 3) aNil))) (cCall C i_rise_in (aCons (cV 1) (aCons (cV 3) aNil)))))
    (sSeq (sSet (gV 5) (cNew (aComp [6] (iR (cV 2) (c2 oAddA (cV 2) (cV 3))) (gV 6) tYes (cCall C i_up_by (aCons (c2 oSub (cCall C i_raw_price (aCons (cV 1) (aCons (cV 6) aNil))) (cCall C i_raw_price (aCons (cV 0) (aCons (cV 6) aNil)))) (aCons (cV 4) aNil))))))
    (sRet (c2 oAddA (cV 2) (c2 oMulA (cV 3) (cK kMax (aCat (iA (aDisp (aCons (cD (.int 0)) aNil))) (iL (cV 5))))))))))
def N_won_from : List PySem.Str := [PySem.Str.ofString "form", PySem.Str.ofString "other", PySem.Str.ofString "begin", PySem.Str.ofString "around", PySem.Str.ofString "gain", PySem.Str.ofString "turns", PySem.Str.ofString "n"]
theorem dn_won_from (C : Calls) : dSs ⟨N_won_from, G0, CT0, PySem.Str.ofString "won_from" ++ ".<locals>."⟩ C 60 ⟨true, false, false, true⟩ (defScope (top 35)) (defBody (top 35)) = some (b_won_from C) := by kernel_rfl
theorem sc_won_from : FnScope N_won_from [PySem.Str.ofString "form", PySem.Str.ofString "other"] (defScope (top 35)) := fnsc_by (by kernel_rfl)
noncomputable def b_raw_greater (C : Calls) : St :=
    (sSeq (sSet (gV 2) (cCall C i_common_round (aCons (c2 oIx (cV 0) (cD (.int 1))) (aCons (c2 oIx (cV 1) (cD (.int 1))) aNil))))
    (sSeq (sPar (gPar [3, 4]) (aCons (cCall C i_rise_in (aCons (cV 0) (aCons (cV 2) aNil))) (aCons (cCall C i_rise_in (aCons (cV 1) (aCons (cV 2) aNil))) aNil)))
    (sSeq (sIf (tV (c2 oEq (cV 3) (cV 4))) (sRet (cCallL C i_made (aCons (cN oMax2 (aCons (c2 oIx (cV 0) (cD (.int 0))) (aCons (c2 oIx (cV 1) (cD (.int 0))) aNil))) (aCons (cV 2) (aCons (cV 3) aNil))) li_raw_greater_0 [0, 1])) sNx)
    (sSeq (sSet (gTupN 2 (gCons (gV 5) (gCons (gV 6) gNil))) (cIf (tV (c2 oGt (cV 3) (cV 4))) (cN oTup (aCons (cV 0) (aCons (cV 1) aNil))) (cN oTup (aCons (cV 1) (aCons (cV 0) aNil)))))
    (sSeq (sSet (gV 7) (cCall C i_won_from (aCons (cV 5) (aCons (cV 6) aNil))))
    (sRet (cCallL C i_made (aCons (cV 7) (aCons (c2 oIx (cV 5) (cD (.int 1))) (aCons (c2 oIx (cV 5) (cD (.int 2))) aNil))) li_raw_greater_1 [0, 1])))))))
def N_raw_greater : List PySem.Str := [PySem.Str.ofString "form", PySem.Str.ofString "other", PySem.Str.ofString "around", PySem.Str.ofString "one", PySem.Str.ofString "two", PySem.Str.ofString "high", PySem.Str.ofString "low", PySem.Str.ofString "begin"]
theorem dn_raw_greater (C : Calls) : dSs ⟨N_raw_greater, G0, CT0, PySem.Str.ofString "raw_greater" ++ ".<locals>."⟩ C 60 ⟨true, true, false, true⟩ (defScope (top 36)) (defBody (top 36)) = some (b_raw_greater C) := by kernel_rfl
theorem sc_raw_greater : FnScope N_raw_greater [PySem.Str.ofString "form", PySem.Str.ofString "other"] (defScope (top 36)) := fnsc_by (by kernel_rfl)
noncomputable def b_turned (C : Calls) : St :=
    (sRet (cN oTup (aCons (c2 oIx (cV 0) (cD (.int 0))) (aCons (c2 oIx (cV 0) (cD (.int 1))) (aCons (c2 oSub (cD (.int 0)) (c2 oIx (cV 0) (cD (.int 2)))) (aCons (cK kTup (aComp [1] (iE (c2 oIx (cV 0) (cD (.int 3)))) (gV 1) tYes (c2 oSub (cD (.int 0)) (cV 1)))) aNil))))))
def N_turned : List PySem.Str := [PySem.Str.ofString "form", PySem.Str.ofString "one"]
theorem dn_turned (C : Calls) : dSs ⟨N_turned, G0, CT0, PySem.Str.ofString "turned" ++ ".<locals>."⟩ C 60 ⟨true, false, false, true⟩ (defScope (top 37)) (defBody (top 37)) = some (b_turned C) := by kernel_rfl
theorem sc_turned : FnScope N_turned [PySem.Str.ofString "form"] (defScope (top 37)) := fnsc_by (by kernel_rfl)
noncomputable def b_raw_lesser (C : Calls) : St :=
    (sRet (cCall C i_turned (aCons (cCall C i_raw_greater (aCons (cCall C i_turned (aCons (cV 0) aNil)) (aCons (cCall C i_turned (aCons (cV 1) aNil)) aNil))) aNil)))
def N_raw_lesser : List PySem.Str := [PySem.Str.ofString "form", PySem.Str.ofString "other"]
theorem dn_raw_lesser (C : Calls) : dSs ⟨N_raw_lesser, G0, CT0, PySem.Str.ofString "raw_lesser" ++ ".<locals>."⟩ C 60 ⟨true, false, false, true⟩ (defScope (top 38)) (defBody (top 38)) = some (b_raw_lesser C) := by kernel_rfl
theorem sc_raw_lesser : FnScope N_raw_lesser [PySem.Str.ofString "form", PySem.Str.ofString "other"] (defScope (top 38)) := fnsc_by (by kernel_rfl)
noncomputable def b_raw_scaled (C : Calls) : St :=
    (sRet (cCallL C i_made (aCons (c2 oIx (cV 0) (cD (.int 0))) (aCons (c2 oIx (cV 0) (cD (.int 1))) (aCons (c2 oMulA (cV 1) (c2 oIx (cV 0) (cD (.int 2)))) aNil))) li_raw_scaled_0 [0, 1]))
def N_raw_scaled : List PySem.Str := [PySem.Str.ofString "form", PySem.Str.ofString "k"]
theorem dn_raw_scaled (C : Calls) : dSs ⟨N_raw_scaled, G0, CT0, PySem.Str.ofString "raw_scaled" ++ ".<locals>."⟩ C 60 ⟨true, true, false, true⟩ (defScope (top 39)) (defBody (top 39)) = some (b_raw_scaled C) := by kernel_rfl
theorem sc_raw_scaled : FnScope N_raw_scaled [PySem.Str.ofString "form", PySem.Str.ofString "k"] (defScope (top 39)) := fnsc_by (by kernel_rfl)
noncomputable def b_raw_shared (C : Calls) : St :=
    (sRet (cCallL C i_made (aCons (c2 oIx (cV 0) (cD (.int 0))) (aCons (c2 oMulA (c2 oIx (cV 0) (cD (.int 1))) (cV 1)) (aCons (c2 oIx (cV 0) (cD (.int 2))) aNil))) li_raw_shared_0 [0, 1]))
def N_raw_shared : List PySem.Str := [PySem.Str.ofString "form", PySem.Str.ofString "k"]
theorem dn_raw_shared (C : Calls) : dSs ⟨N_raw_shared, G0, CT0, PySem.Str.ofString "raw_shared" ++ ".<locals>."⟩ C 60 ⟨true, true, false, true⟩ (defScope (top 40)) (defBody (top 40)) = some (b_raw_shared C) := by kernel_rfl
theorem sc_raw_shared : FnScope N_raw_shared [PySem.Str.ofString "form", PySem.Str.ofString "k"] (defScope (top 40)) := fnsc_by (by kernel_rfl)
noncomputable def b_raw_left (C : Calls) : St :=
    (sRet (cCallL C i_made (aCons (c2 oIx (cV 0) (cD (.int 0))) (aCons (c2 oMulA (c2 oIx (cV 0) (cD (.int 1))) (cV 1)) (aCons (cD (.int 0)) aNil))) li_raw_left_0 [0, 1]))
def N_raw_left : List PySem.Str := [PySem.Str.ofString "form", PySem.Str.ofString "k"]
theorem dn_raw_left (C : Calls) : dSs ⟨N_raw_left, G0, CT0, PySem.Str.ofString "raw_left" ++ ".<locals>."⟩ C 60 ⟨true, true, false, true⟩ (defScope (top 41)) (defBody (top 41)) = some (b_raw_left C) := by kernel_rfl
theorem sc_raw_left : FnScope N_raw_left [PySem.Str.ofString "form", PySem.Str.ofString "k"] (defScope (top 41)) := fnsc_by (by kernel_rfl)
noncomputable def b_raw_moved (C : Calls) : St :=
    (sRet (cCallL C i_made (aCons (cN oMax2 (aCons (cD (.int 0)) (aCons (c2 oSub (c2 oIx (cV 0) (cD (.int 0))) (cV 1)) aNil))) (aCons (c2 oIx (cV 0) (cD (.int 1))) (aCons (c2 oIx (cV 0) (cD (.int 2))) aNil))) li_raw_moved_0 [0, 1]))
def N_raw_moved : List PySem.Str := [PySem.Str.ofString "form", PySem.Str.ofString "k"]
theorem dn_raw_moved (C : Calls) : dSs ⟨N_raw_moved, G0, CT0, PySem.Str.ofString "raw_moved" ++ ".<locals>."⟩ C 60 ⟨true, true, false, true⟩ (defScope (top 42)) (defBody (top 42)) = some (b_raw_moved C) := by kernel_rfl
theorem sc_raw_moved : FnScope N_raw_moved [PySem.Str.ofString "form", PySem.Str.ofString "k"] (defScope (top 42)) := fnsc_by (by kernel_rfl)
noncomputable def b_raw_packed (C : Calls) : St :=
    (sRet (cCallL C i_made (aCons (c2 oMulA (c2 oIx (cV 0) (cD (.int 0))) (cV 1)) (aCons (c2 oMulA (c2 oIx (cV 0) (cD (.int 1))) (cV 1)) (aCons (c2 oIx (cV 0) (cD (.int 2))) aNil))) li_raw_packed_0 [0, 1]))
def N_raw_packed : List PySem.Str := [PySem.Str.ofString "form", PySem.Str.ofString "k"]
theorem dn_raw_packed (C : Calls) : dSs ⟨N_raw_packed, G0, CT0, PySem.Str.ofString "raw_packed" ++ ".<locals>."⟩ C 60 ⟨true, true, false, true⟩ (defScope (top 43)) (defBody (top 43)) = some (b_raw_packed C) := by kernel_rfl
theorem sc_raw_packed : FnScope N_raw_packed [PySem.Str.ofString "form", PySem.Str.ofString "k"] (defScope (top 43)) := fnsc_by (by kernel_rfl)
noncomputable def b_raw_unpacked (C : Calls) : St :=
    (sSeq (sSet (gV 2) (cCall C i_common_part (aCons (c2 oIx (cV 0) (cD (.int 1))) (aCons (cV 1) aNil))))
    (sRet (cCallL C i_made (aCons (cCall C i_up_by (aCons (c2 oIx (cV 0) (cD (.int 0))) (aCons (cV 1) aNil))) (aCons (c2 oDiv (c2 oIx (cV 0) (cD (.int 1))) (cV 2)) (aCons (c2 oMulA (c2 oIx (cV 0) (cD (.int 2))) (c2 oDiv (cV 1) (cV 2))) aNil))) li_raw_unpacked_0 [0, 1])))
def N_raw_unpacked : List PySem.Str := [PySem.Str.ofString "form", PySem.Str.ofString "k", PySem.Str.ofString "part"]
theorem dn_raw_unpacked (C : Calls) : dSs ⟨N_raw_unpacked, G0, CT0, PySem.Str.ofString "raw_unpacked" ++ ".<locals>."⟩ C 60 ⟨true, true, false, true⟩ (defScope (top 44)) (defBody (top 44)) = some (b_raw_unpacked C) := by kernel_rfl
theorem sc_raw_unpacked : FnScope N_raw_unpacked [PySem.Str.ofString "form", PySem.Str.ofString "k"] (defScope (top 44)) := fnsc_by (by kernel_rfl)
noncomputable def b_raw_change (C : Calls) : St :=
    (sRet (cCallL C i_made (aCons (c2 oIx (cV 0) (cD (.int 0))) (aCons (c2 oIx (cV 0) (cD (.int 1))) (aCons (cD (.int 0)) aNil))) li_raw_change_0 [0]))
def N_raw_change : List PySem.Str := [PySem.Str.ofString "form"]
theorem dn_raw_change (C : Calls) : dSs ⟨N_raw_change, G0, CT0, PySem.Str.ofString "raw_change" ++ ".<locals>."⟩ C 60 ⟨true, true, false, true⟩ (defScope (top 45)) (defBody (top 45)) = some (b_raw_change C) := by kernel_rfl
theorem sc_raw_change : FnScope N_raw_change [PySem.Str.ofString "form"] (defScope (top 45)) := fnsc_by (by kernel_rfl)
noncomputable def b_running (C : Calls) : St :=
    (sSeq (sSet (gV 2) (cNew (aDisp aNil)))
    (sSeq (sFor (iR1 (cV 1)) (gV 3) (sDrop (cM (m1 oAppend) (cV 2) (aCons (cIf (tV (c2 oGt (cV 3) (cD (.int 0)))) (cN oMax2 (aCons (c2 oIx (cV 2) (c1 oNeg (cD (.int 1)))) (aCons (cCall C i_raw_price (aCons (cV 0) (aCons (cV 3) aNil))) aNil))) (cCall C i_raw_price (aCons (cV 0) (aCons (cD (.int 0)) aNil)))) aNil))))
    (sRet (cV 2))))
def N_running : List PySem.Str := [PySem.Str.ofString "form", PySem.Str.ofString "many", PySem.Str.ofString "found", PySem.Str.ofString "n"]
theorem dn_running (C : Calls) : dSs ⟨N_running, G0, CT0, PySem.Str.ofString "running" ++ ".<locals>."⟩ C 60 ⟨true, false, false, true⟩ (defScope (top 46)) (defBody (top 46)) = some (b_running C) := by kernel_rfl
theorem sc_running : FnScope N_running [PySem.Str.ofString "form", PySem.Str.ofString "many"] (defScope (top 46)) := fnsc_by (by kernel_rfl)
noncomputable def b_raw_highest (C : Calls) : St :=
    (sSeq (sPar (gPar [1, 2]) (aCons (c2 oAddA (c2 oIx (cV 0) (cD (.int 0))) (c2 oIx (cV 0) (cD (.int 1)))) (aCons (c2 oIx (cV 0) (cD (.int 1))) aNil)))
    (sSeq (sIf (tV (c2 oLe (c2 oIx (cV 0) (cD (.int 2))) (cD (.int 0)))) (sSeq (sSet (gV 5) (cCall C i_running (aCons (cV 0) (aCons (c2 oAddA (cV 1) (cD (.int 1))) aNil))))
    (sRet (cCallL C i_made (aCons (cV 1) (aCons (cD (.int 1)) (aCons (cD (.int 0)) aNil))) li_raw_highest_0 [5]))) sNx)
    (sSeq (sSet (gV 3) (cK kMax (aComp [6] (iR1 (cV 1)) (gV 6) tYes (cCall C i_raw_price (aCons (cV 0) (aCons (cV 6) aNil))))))
    (sSeq (sSet (gV 4) (cK kMax (aComp [6] (iR (c2 oIx (cV 0) (cD (.int 0))) (c2 oAddA (cV 1) (cD (.int 1)))) (gV 6) tYes (cCall C i_raw_price (aCons (cV 0) (aCons (cV 6) aNil))))))
    (sSeq (sSet (gV 1) (c2 oAddA (cV 1) (c2 oMulA (cV 2) (cN oMax2 (aCons (cD (.int 0)) (aCons (cCall C i_up_by (aCons (c2 oSub (cV 3) (cV 4)) (aCons (c2 oIx (cV 0) (cD (.int 2))) aNil))) aNil))))))
    (sSeq (sDrop (cCall C i_check_width (aCons (cV 1) (aCons (cV 2) aNil))))
    (sSeq (sSet (gV 5) (cCall C i_running (aCons (cV 0) (aCons (c2 oAddA (cV 1) (cV 2)) aNil))))
    (sRet (cCallL C i_made (aCons (cV 1) (aCons (cV 2) (aCons (c2 oIx (cV 0) (cD (.int 2))) aNil))) li_raw_highest_1 [5])))))))))
def N_raw_highest : List PySem.Str := [PySem.Str.ofString "form", PySem.Str.ofString "begin", PySem.Str.ofString "around", PySem.Str.ofString "ahead", PySem.Str.ofString "here", PySem.Str.ofString "found", PySem.Str.ofString "n"]
theorem dn_raw_highest (C : Calls) : dSs ⟨N_raw_highest, G0, CT0, PySem.Str.ofString "raw_highest" ++ ".<locals>."⟩ C 60 ⟨true, true, false, true⟩ (defScope (top 47)) (defBody (top 47)) = some (b_raw_highest C) := by kernel_rfl
theorem sc_raw_highest : FnScope N_raw_highest [PySem.Str.ofString "form"] (defScope (top 47)) := fnsc_by (by kernel_rfl)
noncomputable def b_raw_lowest (C : Calls) : St :=
    (sRet (cCall C i_turned (aCons (cCall C i_raw_highest (aCons (cCall C i_turned (aCons (cV 0) aNil)) aNil)) aNil)))
def N_raw_lowest : List PySem.Str := [PySem.Str.ofString "form"]
theorem dn_raw_lowest (C : Calls) : dSs ⟨N_raw_lowest, G0, CT0, PySem.Str.ofString "raw_lowest" ++ ".<locals>."⟩ C 60 ⟨true, false, false, true⟩ (defScope (top 48)) (defBody (top 48)) = some (b_raw_lowest C) := by kernel_rfl
theorem sc_raw_lowest : FnScope N_raw_lowest [PySem.Str.ofString "form"] (defScope (top 48)) := fnsc_by (by kernel_rfl)
noncomputable def b_raw_within (C : Calls) : St :=
    sNever
def N_raw_within : List PySem.Str := [PySem.Str.ofString "form", PySem.Str.ofString "k"]
theorem dn_raw_within (C : Calls) : dSs ⟨N_raw_within, G0, CT0, PySem.Str.ofString "raw_within" ++ ".<locals>."⟩ C 60 ⟨true, true, false, true⟩ (defScope (top 49)) (defBody (top 49)) = some (b_raw_within C) := by kernel_rfl
theorem sc_raw_within : FnScope N_raw_within [PySem.Str.ofString "form", PySem.Str.ofString "k"] (defScope (top 49)) := fnsc_by (by kernel_rfl)
noncomputable def b_split_from (C : Calls) : St :=
    (sSeq (sSet (gV 2) (cCall C i_common_round (aCons (c2 oIx (cV 0) (cD (.int 1))) (aCons (c2 oIx (cV 1) (cD (.int 1))) aNil))))
    (sSeq (sSet (gV 3) (c2 oAddA (c2 oAddA (c2 oIx (cV 0) (cD (.int 0))) (c2 oIx (cV 1) (cD (.int 0)))) (cV 2)))
    (sSeq (sDrop (cCall C i_check_width (aCons (cV 3) (aCons (c2 oIx (cV 0) (cD (.int 1))) aNil))))
    (sSeq (sSet (gV 4) (c2 oSub (cCall C i_rise_in (aCons (cV 1) (aCons (cV 2) aNil))) (cCall C i_rise_in (aCons (cV 0) (aCons (cV 2) aNil)))))
    (sSeq (sPar (gPar [5, 6]) (aCons (cNew (aDisp (aCons (cD (.int 0)) aNil))) (aCons (cNew (aRg (cV 3) (c2 oAddA (cV 3) (cV 2)))) aNil)))
    (sSeq (sFor (iE (cIf (tV (c2 oGt (c2 oIx (cV 0) (cD (.int 0))) (cD (.int 0)))) (cV 6) (cNew (aDisp aNil)))) (gV 7) (sSeq (sSet (gV 8) (cK kMin (aComp [10] (iR1 (c2 oAddA (c2 oSub (cV 7) (c2 oIx (cV 0) (cD (.int 0)))) (cD (.int 1)))) (gV 10) tYes (c2 oAddA (cCall C i_raw_price (aCons (cV 0) (aCons (c2 oSub (cV 7) (cV 10)) aNil))) (cCall C i_raw_price (aCons (cV 1) (aCons (cV 10) aNil)))))))
    (sSeq (sSet (gV 9) (cK kMin (aComp [10] (iR1 (c2 oIx (cV 0) (cD (.int 0)))) (gV 10) tYes (c2 oAddA (cCall C i_raw_price (aCons (cV 0) (aCons (cV 10) aNil))) (cCall C i_raw_price (aCons (cV 1) (aCons (c2 oSub (cV 7) (cV 10)) aNil)))))))
    (sDrop (cM (m1 oAppend) (cV 5) (aCons (cCall C i_up_by (aCons (c2 oSub (cV 8) (cV 9)) (aCons (cV 4) aNil))) aNil))))))
    (sRet (c2 oAddA (cV 3) (c2 oMulA (cV 2) (cN (oK kMax) (aCons (cV 5) aNil)))))))))))
def N_split_from : List PySem.Str := [PySem.Str.ofString "form", PySem.Str.ofString "other", PySem.Str.ofString "around", PySem.Str.ofString "begin", PySem.Str.ofString "gain", PySem.Str.ofString "turns", PySem.Str.ofString "numbers", PySem.Str.ofString "n", PySem.Str.ofString "here", PySem.Str.ofString "there", PySem.Str.ofString "at"]
theorem dn_split_from (C : Calls) : dSs ⟨N_split_from, G0, CT0, PySem.Str.ofString "split_from" ++ ".<locals>."⟩ C 60 ⟨true, false, false, true⟩ (defScope (top 50)) (defBody (top 50)) = some (b_split_from C) := by kernel_rfl
theorem sc_split_from : FnScope N_split_from [PySem.Str.ofString "form", PySem.Str.ofString "other"] (defScope (top 50)) := fnsc_by (by kernel_rfl)
noncomputable def b_split_at (C : Calls) : St :=
    (sRet (cK kMin (aComp [3, 4] (iZip (cCut (cV 0) pNo (pSome (c2 oAddA (cV 2) (cD (.int 1))))) (cNew (aDown (cV 1) (cV 2)))) (gTupN 2 (gCons (gV 3) (gCons (gV 4) gNil))) tYes (c2 oAddA (cV 3) (cV 4)))))
def N_split_at : List PySem.Str := [PySem.Str.ofString "ones", PySem.Str.ofString "others", PySem.Str.ofString "n", PySem.Str.ofString "one", PySem.Str.ofString "other"]
theorem dn_split_at (C : Calls) : dSs ⟨N_split_at, G0, CT0, PySem.Str.ofString "split_at" ++ ".<locals>."⟩ C 60 ⟨true, false, false, true⟩ (defScope (top 51)) (defBody (top 51)) = some (b_split_at C) := by kernel_rfl
theorem sc_split_at : FnScope N_split_at [PySem.Str.ofString "ones", PySem.Str.ofString "others", PySem.Str.ofString "n"] (defScope (top 51)) := fnsc_by (by kernel_rfl)
noncomputable def b_raw_split (C : Calls) : St :=
    (sSeq (sSet (gV 2) (cCall C i_common_round (aCons (c2 oIx (cV 0) (cD (.int 1))) (aCons (c2 oIx (cV 1) (cD (.int 1))) aNil))))
    (sSeq (sPar (gPar [3, 4]) (aCons (cCall C i_rise_in (aCons (cV 0) (aCons (cV 2) aNil))) (aCons (cCall C i_rise_in (aCons (cV 1) (aCons (cV 2) aNil))) aNil)))
    (sSeq (sIf (tV (c2 oEq (cV 3) (cV 4))) (sPar (gPar [5, 6]) (aCons (c2 oAddA (c2 oAddA (c2 oIx (cV 0) (cD (.int 0))) (c2 oIx (cV 1) (cD (.int 0)))) (cV 2)) (aCons (cV 3) aNil))) (sSeq (sSet (gTupN 2 (gCons (gV 7) (gCons (gV 8) gNil))) (cIf (tV (c2 oLt (cV 3) (cV 4))) (cN oTup (aCons (cV 0) (aCons (cV 1) aNil))) (cN oTup (aCons (cV 1) (aCons (cV 0) aNil)))))
    (sPar (gPar [5, 2, 6]) (aCons (cCall C i_split_from (aCons (cV 7) (aCons (cV 8) aNil))) (aCons (c2 oIx (cV 7) (cD (.int 1))) (aCons (c2 oIx (cV 7) (cD (.int 2))) aNil))))))
    (sSeq (sDrop (cCall C i_check_width (aCons (cV 5) (aCons (cV 2) aNil))))
    (sSeq (sSet (gV 9) (cNew (aComp [11] (iR1 (c2 oAddA (cV 5) (cV 2))) (gV 11) tYes (cCall C i_raw_price (aCons (cV 0) (aCons (cV 11) aNil))))))
    (sSeq (sSet (gV 10) (cNew (aComp [11] (iR1 (c2 oAddA (cV 5) (cV 2))) (gV 11) tYes (cCall C i_raw_price (aCons (cV 1) (aCons (cV 11) aNil))))))
    (sRet (cCallL C i_made (aCons (cV 5) (aCons (cV 2) (aCons (cV 6) aNil))) li_raw_split_0 [9, 10]))))))))
def N_raw_split : List PySem.Str := [PySem.Str.ofString "form", PySem.Str.ofString "other", PySem.Str.ofString "around", PySem.Str.ofString "one", PySem.Str.ofString "two", PySem.Str.ofString "begin", PySem.Str.ofString "rise", PySem.Str.ofString "slow", PySem.Str.ofString "fast", PySem.Str.ofString "ones", PySem.Str.ofString "others", PySem.Str.ofString "n"]
theorem dn_raw_split (C : Calls) : dSs ⟨N_raw_split, G0, CT0, PySem.Str.ofString "raw_split" ++ ".<locals>."⟩ C 60 ⟨true, true, false, true⟩ (defScope (top 52)) (defBody (top 52)) = some (b_raw_split C) := by kernel_rfl
theorem sc_raw_split : FnScope N_raw_split [PySem.Str.ofString "form", PySem.Str.ofString "other"] (defScope (top 52)) := fnsc_by (by kernel_rfl)
noncomputable def b_is_listed (C : Calls) : St :=
    (sSeq (sSet (gTupN 3 (gCons (gV 1) (gCons (gV 2) (gCons (gV 3) gNil)))) (cCut (cV 0) (pSome (cD (.int 1))) pNo))
    (sSeq (sIf (tOr (tNot (tV (cCall C i_is_sized (aCons (cV 1) (aCons (cD (.int 1)) (aCons (cD g_MOST_LISTED) aNil)))))) (tNot (tV (cK kAll (aComp [4] (iE (cV 1)) (gV 4) tYes (cCall C i_is_within (aCons (cV 4) (aCons (c2 oSub (cD (.int 0)) (cD g_MOST_SIZE)) (aCons (cD g_MOST_SIZE) aNil))))))))) (sRet (cD (.bl false))) sNx)
    (sRet (cAnd (cCall C i_is_within (aCons (cV 2) (aCons (cD (.int 1)) (aCons (cN oLen (aCons (cV 1) aNil)) aNil)))) (cCall C i_is_within (aCons (cV 3) (aCons (c2 oSub (cD (.int 0)) (cD g_MOST_SIZE)) (aCons (cD g_MOST_SIZE) aNil))))))))
def N_is_listed : List PySem.Str := [PySem.Str.ofString "thing", PySem.Str.ofString "prices", PySem.Str.ofString "around", PySem.Str.ofString "rise", PySem.Str.ofString "one"]
theorem dn_is_listed (C : Calls) : dSs ⟨N_is_listed, G0, CT0, PySem.Str.ofString "is_listed" ++ ".<locals>."⟩ C 60 ⟨true, false, false, true⟩ (defScope (top 63)) (defBody (top 63)) = some (b_is_listed C) := by kernel_rfl
theorem sc_is_listed : FnScope N_is_listed [PySem.Str.ofString "thing"] (defScope (top 63)) := fnsc_by (by kernel_rfl)
noncomputable def b_is_node (C : Calls) : St :=
    (sSeq (sIf (tOr (tNot (tV (c1 (oIsI "tuple") (cV 0)))) (tOr (tV (c2 oEq (cN oLen (aCons (cV 0) aNil)) (cD (.int 0)))) (tOr (tNot (tV (c1 (oIsI "str") (c2 oIx (cV 0) (cD (.int 0)))))) (tV (c1 (oNotInF f_SIZES) (c2 oIx (cV 0) (cD (.int 0)))))))) (sRet (cD (.bl false))) sNx)
    (sSeq (sSet (gV 1) (c2 oIx (cV 0) (cD (.int 0))))
    (sSeq (sIf (tV (c2 oNe (cN oLen (aCons (cV 0) aNil)) (c1 (oIxF f_SIZES) (cV 1)))) (sRet (cD (.bl false))) sNx)
    (sSeq (sIf (tV (c2 oEq (cV 1) (cD (.str (PySem.Str.ofString "flat"))))) (sRet (cCall C i_is_within (aCons (c2 oIx (cV 0) (cD (.int 1))) (aCons (c2 oSub (cD (.int 0)) (cD g_MOST_SIZE)) (aCons (cD g_MOST_SIZE) aNil))))) sNx)
    (sSeq (sIf (tV (c2 oEq (cV 1) (cD (.str (PySem.Str.ofString "step"))))) (sRet (cCall C i_is_within (aCons (c2 oIx (cV 0) (cD (.int 1))) (aCons (cD (.int 0)) (aCons (cD g_MOST_STEP) aNil))))) sNx)
    (sSeq (sIf (tV (c2 oEq (cV 1) (cD (.str (PySem.Str.ofString "list"))))) (sRet (cCall C i_is_listed (aCons (cV 0) aNil))) sNx)
    (sRet (cOr (c1 (oNotInF f_LOWS) (cV 1)) (cCall C i_is_within (aCons (c2 oIx (cV 0) (cD (.int 1))) (aCons (c1 (oIxF f_LOWS) (cV 1)) (aCons (c1 (oIxF f_HIGHS) (cV 1)) aNil))))))))))))
def N_is_node : List PySem.Str := [PySem.Str.ofString "thing", PySem.Str.ofString "word"]
theorem dn_is_node (C : Calls) : dSs ⟨N_is_node, G0, CT0, PySem.Str.ofString "is_node" ++ ".<locals>."⟩ C 60 ⟨true, false, false, true⟩ (defScope (top 64)) (defBody (top 64)) = some (b_is_node C) := by kernel_rfl
theorem sc_is_node : FnScope N_is_node [PySem.Str.ofString "thing"] (defScope (top 64)) := fnsc_by (by kernel_rfl)
noncomputable def b_raw_parts (C : Calls) : St :=
    (sRet (cNew (aComp [1] (iE (c1 (oIxF f_SPOTS) (c2 oIx (cV 0) (cD (.int 0))))) (gV 1) tYes (c2 oIx (cV 0) (cV 1)))))
def N_raw_parts : List PySem.Str := [PySem.Str.ofString "rule", PySem.Str.ofString "spot"]
theorem dn_raw_parts (C : Calls) : dSs ⟨N_raw_parts, G0, CT0, PySem.Str.ofString "raw_parts" ++ ".<locals>."⟩ C 60 ⟨true, false, false, true⟩ (defScope (top 65)) (defBody (top 65)) = some (b_raw_parts C) := by kernel_rfl
theorem sc_raw_parts : FnScope N_raw_parts [PySem.Str.ofString "rule"] (defScope (top 65)) := fnsc_by (by kernel_rfl)
noncomputable def b_raw_is_rule (C : Calls) : St :=
    (sSeq (sPar (gPar [1, 2]) (aCons (cNew (aDisp (aCons (cN oTup (aCons (cV 0) (aCons (cD (.int 1)) aNil))) aNil))) (aCons (cD (.int 0)) aNil)))
    (sSeq (sWhile (tV (c2 oGt (cN oLen (aCons (cV 1) aNil)) (cD (.int 0)))) (sSeq (sSet (gTupN 2 (gCons (gV 3) (gCons (gV 4) gNil))) (cM (m0 oPop) (cV 1) aNil))
    (sSeq (sSet (gV 2) (c2 oAddA (cV 2) (cD (.int 1))))
    (sSeq (sIf (tOr (tV (c2 oGt (cV 2) (cD g_MOST_RULES))) (tOr (tV (c2 oGt (cV 4) (cD g_MOST_DEEP))) (tNot (tV (cCall C i_is_node (aCons (cV 3) aNil)))))) (sRet (cD (.bl false))) sNx)
    (sDrop (cM (m1 oExtend) (cV 1) (aCons (cNew (aComp [5] (iE (cCall C i_raw_parts (aCons (cV 3) aNil))) (gV 5) tYes (cN oTup (aCons (cV 5) (aCons (c2 oAddA (cV 4) (cD (.int 1))) aNil))))) aNil)))))))
    (sRet (cD (.bl true)))))
def N_raw_is_rule : List PySem.Str := [PySem.Str.ofString "thing", PySem.Str.ofString "waiting", PySem.Str.ofString "many", PySem.Str.ofString "here", PySem.Str.ofString "deep", PySem.Str.ofString "part"]
theorem dn_raw_is_rule (C : Calls) : dSs ⟨N_raw_is_rule, G0, CT0, PySem.Str.ofString "raw_is_rule" ++ ".<locals>."⟩ C 60 ⟨true, false, false, true⟩ (defScope (top 66)) (defBody (top 66)) = some (b_raw_is_rule C) := by kernel_rfl
theorem sc_raw_is_rule : FnScope N_raw_is_rule [PySem.Str.ofString "thing"] (defScope (top 66)) := fnsc_by (by kernel_rfl)
noncomputable def b_check_rule (C : Calls) : St :=
    (sIf (tNot (tV (cCall C i_raw_is_rule (aCons (cV 0) aNil)))) (sRaise (PySem.Str.ofString "NoRule")) sNx)
def N_check_rule : List PySem.Str := [PySem.Str.ofString "rule"]
theorem dn_check_rule (C : Calls) : dSs ⟨N_check_rule, G0, CT0, PySem.Str.ofString "check_rule" ++ ".<locals>."⟩ C 60 ⟨true, false, false, true⟩ (defScope (top 67)) (defBody (top 67)) = some (b_check_rule C) := by kernel_rfl
theorem sc_check_rule : FnScope N_check_rule [PySem.Str.ofString "rule"] (defScope (top 67)) := fnsc_by (by kernel_rfl)
noncomputable def b_raw_nodes (C : Calls) : St :=
    (sSeq (sPar (gPar [1, 2]) (aCons (cNew (aDisp aNil)) (aCons (cNew (aDisp (aCons (cN oTupO (aCons (cN oTupO aNil) (aCons (cV 0) aNil))) aNil))) aNil)))
    (sSeq (sWhile (tV (c2 oGt (cN oLen (aCons (cV 2) aNil)) (cD (.int 0)))) (sSeq (sSet (gTupN 2 (gCons (gV 3) (gCons (gV 4) gNil))) (cM (m0 oPop) (cV 2) aNil))
    (sSeq (sDrop (cM (m1 oAppend) (cV 1) (aCons (cN oTupO (aCons (cV 3) (aCons (cV 4) aNil))) aNil)))
    (sDrop (cM (m1 oExtend) (cV 2) (aCons (cNew (aComp [5, 6] (iEnum (cCall C i_raw_parts (aCons (cV 4) aNil))) (gTupN 2 (gCons (gV 5) (gCons (gV 6) gNil))) tYes (cN oTupO (aCons (c2 oAddA (cV 3) (cN oTupO (aCons (cV 5) aNil))) (aCons (cV 6) aNil))))) aNil))))))
    (sRet (cV 1))))
def N_raw_nodes : List PySem.Str := [PySem.Str.ofString "rule", PySem.Str.ofString "found", PySem.Str.ofString "waiting", PySem.Str.ofString "path", PySem.Str.ofString "here", PySem.Str.ofString "at", PySem.Str.ofString "part"]
theorem dn_raw_nodes (C : Calls) : dSs ⟨N_raw_nodes, G0, CT0, PySem.Str.ofString "raw_nodes" ++ ".<locals>."⟩ C 60 ⟨true, false, false, true⟩ (defScope (top 68)) (defBody (top 68)) = some (b_raw_nodes C) := by kernel_rfl
theorem sc_raw_nodes : FnScope N_raw_nodes [PySem.Str.ofString "rule"] (defScope (top 68)) := fnsc_by (by kernel_rfl)
noncomputable def b_are_bands (C : Calls) : St :=
    (sSeq (sIf (tOr (tNot (tV (cCall C i_is_sized (aCons (cV 0) (aCons (cD (.int 1)) (aCons (cD g_MOST_BANDS) aNil)))))) (tNot (tV (cK kAll (aComp [1] (iE (cV 0)) (gV 1) tYes (cCall C i_is_sized (aCons (cV 1) (aCons (cD (.int 2)) (aCons (cD (.int 2)) aNil))))))))) (sRet (cD (.bl false))) sNx)
    (sSeq (sIf (tNot (tV (cK kAll (aComp [1] (iE (cV 0)) (gV 1) tYes (cAnd (cCall C i_is_within (aCons (c2 oIx (cV 1) (cD (.int 0))) (aCons (cD (.int 0)) (aCons (cD g_MOST_FROM) aNil)))) (cCall C i_is_within (aCons (c2 oIx (cV 1) (cD (.int 1))) (aCons (c2 oSub (cD (.int 0)) (cD g_MOST_EACH_bands)) (aCons (cD g_MOST_EACH_bands) aNil))))))))) (sRet (cD (.bl false))) sNx)
    (sRet (cAnd (c2 oEq (c2 oIx (c2 oIx (cV 0) (cD (.int 0))) (cD (.int 0))) (cD (.int 0))) (cK kAll (aComp [1, 2] (iZip (cV 0) (cCut (cV 0) (pSome (cD (.int 1))) pNo)) (gTupN 2 (gCons (gV 1) (gCons (gV 2) gNil))) tYes (c2 oLt (c2 oIx (cV 1) (cD (.int 0))) (c2 oIx (cV 2) (cD (.int 0))))))))))
def N_are_bands : List PySem.Str := [PySem.Str.ofString "thing", PySem.Str.ofString "one", PySem.Str.ofString "other"]
theorem dn_are_bands (C : Calls) : dSs ⟨N_are_bands, G0, CT0, PySem.Str.ofString "are_bands" ++ ".<locals>."⟩ C 60 ⟨true, false, false, true⟩ (defScope (top 73)) (defBody (top 73)) = some (b_are_bands C) := by kernel_rfl
theorem sc_are_bands : FnScope N_are_bands [PySem.Str.ofString "thing"] (defScope (top 73)) := fnsc_by (by kernel_rfl)
noncomputable def b_raw_band (C : Calls) : St :=
    (sRet (c2 oSub (cK kLen (aComp [2] (iE (cV 0)) (gV 2) (tV (c2 oLe (c2 oIx (cV 2) (cD (.int 0))) (cV 1))) (cV 2))) (cD (.int 1))))
def N_raw_band : List PySem.Str := [PySem.Str.ofString "bands", PySem.Str.ofString "n", PySem.Str.ofString "one"]
theorem dn_raw_band (C : Calls) : dSs ⟨N_raw_band, G0, CT0, PySem.Str.ofString "raw_band" ++ ".<locals>."⟩ C 60 ⟨true, false, false, true⟩ (defScope (top 74)) (defBody (top 74)) = some (b_raw_band C) := by kernel_rfl
theorem sc_raw_band : FnScope N_raw_band [PySem.Str.ofString "bands", PySem.Str.ofString "n"] (defScope (top 74)) := fnsc_by (by kernel_rfl)
noncomputable def b_raw_bands_form (C : Calls) : St :=
    (sSeq (sSet (gTupN 2 (gCons (gV 1) (gCons (gV 3) gNil))) (cN oTup (aCons (c2 oIx (c2 oIx (cV 0) (c1 oNeg (cD (.int 1)))) (cD (.int 0))) (aCons (cNew (aDisp (aCons (cD (.int 0)) aNil))) aNil))))
    (sSeq (sFor (iR1 (c2 oAddA (cV 1) (cD (.int 1)))) (gV 2) (sDrop (cM (m1 oAppend) (cV 3) (aCons (c2 oAddA (c2 oIx (cV 3) (c1 oNeg (cD (.int 1)))) (c2 oIx (c2 oIx (cV 0) (cCall C i_raw_band (aCons (cV 0) (aCons (cV 2) aNil)))) (cD (.int 1)))) aNil))))
    (sRet (cCallL C i_made (aCons (cV 1) (aCons (cD (.int 1)) (aCons (c2 oIx (c2 oIx (cV 0) (c1 oNeg (cD (.int 1)))) (cD (.int 1))) aNil))) li_raw_bands_form_0 [3]))))
def N_raw_bands_form : List PySem.Str := [PySem.Str.ofString "bands", PySem.Str.ofString "begin", PySem.Str.ofString "n", PySem.Str.ofString "found"]
theorem dn_raw_bands_form (C : Calls) : dSs ⟨N_raw_bands_form, G0, CT0, PySem.Str.ofString "raw_bands_form" ++ ".<locals>."⟩ C 60 ⟨true, true, false, true⟩ (defScope (top 75)) (defBody (top 75)) = some (b_raw_bands_form C) := by kernel_rfl
theorem sc_raw_bands_form : FnScope N_raw_bands_form [PySem.Str.ofString "bands"] (defScope (top 75)) := fnsc_by (by kernel_rfl)
noncomputable def b_is_set (C : Calls) : St :=
    (sSeq (sIf (tOr (tNot (tV (cCall C i_is_sized (aCons (cV 0) (aCons (cD (.int 3)) (aCons (cD (.int 3)) aNil)))))) (tOr (tNot (tV (cCall C i_is_within (aCons (c2 oIx (cV 0) (cD (.int 0))) (aCons (cD (.int 0)) (aCons (cD g_MOST_FORM) aNil)))))) (tNot (tV (cCall C i_is_within (aCons (c2 oIx (cV 0) (cD (.int 1))) (aCons (cD (.int 1)) (aCons (cD g_MOST_FORM) aNil)))))))) (sRet (cD (.bl false))) sNx)
    (sSeq (sSet (gV 1) (c2 oAddA (c2 oIx (cV 0) (cD (.int 0))) (c2 oIx (cV 0) (cD (.int 1)))))
    (sRet (cAnd (c2 oLe (cV 1) (cD g_MOST_FORM)) (cAnd (cCall C i_is_sized (aCons (c2 oIx (cV 0) (cD (.int 2))) (aCons (cV 1) (aCons (cV 1) aNil)))) (cK kAll (aComp [2] (iE (c2 oIx (cV 0) (cD (.int 2)))) (gV 2) tYes (cCall C i_is_flag (aCons (cV 2) aNil)))))))))
def N_is_set : List PySem.Str := [PySem.Str.ofString "thing", PySem.Str.ofString "many", PySem.Str.ofString "one"]
theorem dn_is_set (C : Calls) : dSs ⟨N_is_set, G0, CT0, PySem.Str.ofString "is_set" ++ ".<locals>."⟩ C 60 ⟨true, false, false, true⟩ (defScope (top 77)) (defBody (top 77)) = some (b_is_set C) := by kernel_rfl
theorem sc_is_set : FnScope N_is_set [PySem.Str.ofString "thing"] (defScope (top 77)) := fnsc_by (by kernel_rfl)
noncomputable def b_check_set (C : Calls) : St :=
    (sIf (tNot (tV (cCall C i_is_set (aCons (cV 0) aNil)))) (sRaise (PySem.Str.ofString "NoSet")) sNx)
def N_check_set : List PySem.Str := [PySem.Str.ofString "told"]
theorem dn_check_set (C : Calls) : dSs ⟨N_check_set, G0, CT0, PySem.Str.ofString "check_set" ++ ".<locals>."⟩ C 60 ⟨true, false, false, true⟩ (defScope (top 78)) (defBody (top 78)) = some (b_check_set C) := by kernel_rfl
theorem sc_check_set : FnScope N_check_set [PySem.Str.ofString "told"] (defScope (top 78)) := fnsc_by (by kernel_rfl)
noncomputable def b_raw_has (C : Calls) : St :=
    (sSeq (sSet (gTupN 3 (gCons (gV 2) (gCons (gV 3) (gCons (gV 4) gNil)))) (cV 0))
    (sRet (cIf (tV (c2 oLt (cV 1) (c2 oAddA (cV 2) (cV 3)))) (c2 oIx (cV 4) (cV 1)) (c2 oIx (cV 4) (c2 oAddA (cV 2) (c2 oMod (c2 oSub (cV 1) (cV 2)) (cV 3)))))))
def N_raw_has : List PySem.Str := [PySem.Str.ofString "told", PySem.Str.ofString "n", PySem.Str.ofString "begin", PySem.Str.ofString "around", PySem.Str.ofString "flags"]
theorem dn_raw_has (C : Calls) : dSs ⟨N_raw_has, G0, CT0, PySem.Str.ofString "raw_has" ++ ".<locals>."⟩ C 60 ⟨true, false, false, true⟩ (defScope (top 79)) (defBody (top 79)) = some (b_raw_has C) := by kernel_rfl
theorem sc_raw_has : FnScope N_raw_has [PySem.Str.ofString "told", PySem.Str.ofString "n"] (defScope (top 79)) := fnsc_by (by kernel_rfl)
noncomputable def b_has (C : Calls) : St :=
    (sSeq (sDrop (cCall C i_check_set (aCons (cV 0) aNil)))
    (sSeq (sDrop (cCall C i_check_number (aCons (cV 1) aNil)))
    (sRet (cCall C i_raw_has (aCons (cV 0) (aCons (cV 1) aNil))))))
def N_has : List PySem.Str := [PySem.Str.ofString "told", PySem.Str.ofString "n"]
theorem dn_has (C : Calls) : dSs ⟨N_has, G0, CT0, PySem.Str.ofString "has" ++ ".<locals>."⟩ C 60 ⟨true, false, false, true⟩ (defScope (top 80)) (defBody (top 80)) = some (b_has C) := by kernel_rfl
theorem sc_has : FnScope N_has [PySem.Str.ofString "told", PySem.Str.ofString "n"] (defScope (top 80)) := fnsc_by (by kernel_rfl)
noncomputable def b_raw_least_set (C : Calls) : St :=
    (sSeq (sSet (gTupN 3 (gCons (gV 1) (gCons (gV 2) (gCons (gV 3) gNil)))) (cV 0))
    (sSeq (sSet (gV 4) (cCut (cV 3) (pSome (cV 1)) pNo))
    (sSeq (sSet (gV 5) (cIxL (aComp [6] (iR (cD (.int 1)) (c2 oAddA (cV 2) (cD (.int 1)))) (gV 6) (tAnd (tV (c2 oEq (c2 oMod (cV 2) (cV 6)) (cD (.int 0)))) (tV (c2 oEq (c2 oMulA (cCut (cV 4) pNo (pSome (cV 6))) (c2 oDiv (cV 2) (cV 6))) (cV 4)))) (cV 6)) (cD (.int 0))))
    (sSeq (sWhile (tAnd (tV (c2 oGt (cV 1) (cD (.int 0)))) (tV (c2 oEq (cCall C i_raw_has (aCons (cV 0) (aCons (c2 oAddA (c2 oSub (cV 1) (cD (.int 1))) (cV 5)) aNil))) (c2 oIx (cV 3) (c2 oSub (cV 1) (cD (.int 1))))))) (sSet (gV 1) (c2 oSub (cV 1) (cD (.int 1)))))
    (sRet (cN oTup (aCons (cV 1) (aCons (cV 5) (aCons (cK kTup (aComp [7] (iR1 (c2 oAddA (cV 1) (cV 5))) (gV 7) tYes (cCall C i_raw_has (aCons (cV 0) (aCons (cV 7) aNil))))) aNil)))))))))
def N_raw_least_set : List PySem.Str := [PySem.Str.ofString "told", PySem.Str.ofString "begin", PySem.Str.ofString "around", PySem.Str.ofString "flags", PySem.Str.ofString "ring", PySem.Str.ofString "best", PySem.Str.ofString "less", PySem.Str.ofString "n"]
theorem dn_raw_least_set (C : Calls) : dSs ⟨N_raw_least_set, G0, CT0, PySem.Str.ofString "raw_least_set" ++ ".<locals>."⟩ C 60 ⟨true, false, false, true⟩ (defScope (top 81)) (defBody (top 81)) = some (b_raw_least_set C) := by kernel_rfl
theorem sc_raw_least_set : FnScope N_raw_least_set [PySem.Str.ofString "told"] (defScope (top 81)) := fnsc_by (by kernel_rfl)
noncomputable def b_least_set (C : Calls) : St :=
    (sSeq (sDrop (cCall C i_check_set (aCons (cV 0) aNil)))
    (sRet (cCall C i_raw_least_set (aCons (cV 0) aNil))))
def N_least_set : List PySem.Str := [PySem.Str.ofString "told"]
theorem dn_least_set (C : Calls) : dSs ⟨N_least_set, G0, CT0, PySem.Str.ofString "least_set" ++ ".<locals>."⟩ C 60 ⟨true, false, false, true⟩ (defScope (top 82)) (defBody (top 82)) = some (b_least_set C) := by kernel_rfl
theorem sc_least_set : FnScope N_least_set [PySem.Str.ofString "told"] (defScope (top 82)) := fnsc_by (by kernel_rfl)
noncomputable def b_made_set (C : Calls) : St :=
    (sSeq (sDrop (cCall C i_check_width (aCons (cV 0) (aCons (cV 1) aNil))))
    (sRet (cCall C i_raw_least_set (aCons (cN oTup (aCons (cV 0) (aCons (cV 1) (aCons (cK kTup (aComp [3] (iR1 (c2 oAddA (cV 0) (cV 1))) (gV 3) tYes (cCallV C 2 (aCons (cV 3) aNil)))) aNil)))) aNil))))
def N_made_set : List PySem.Str := [PySem.Str.ofString "begin", PySem.Str.ofString "around", PySem.Str.ofString "does_have", PySem.Str.ofString "n"]
theorem dn_made_set (C : Calls) : dSs ⟨N_made_set, G0, CT0, PySem.Str.ofString "made_set" ++ ".<locals>."⟩ C 60 ⟨true, false, false, true⟩ (defScope (top 83)) (defBody (top 83)) = some (b_made_set C) := by kernel_rfl
theorem sc_made_set : FnScope N_made_set [PySem.Str.ofString "begin", PySem.Str.ofString "around", PySem.Str.ofString "does_have"] (defScope (top 83)) := fnsc_by (by kernel_rfl)
noncomputable def b_signed_from (C : Calls) : St :=
    (sSeq (sPar (gPar [2, 3]) (aCons (cN oMax2 (aCons (c2 oIx (cV 0) (cD (.int 0))) (aCons (c2 oIx (cV 1) (cD (.int 0))) aNil))) (aCons (cCall C i_common_round (aCons (c2 oIx (cV 0) (cD (.int 1))) (aCons (c2 oIx (cV 1) (cD (.int 1))) aNil))) aNil)))
    (sSeq (sSet (gV 4) (c2 oSub (c2 oMulA (c2 oIx (cV 0) (cD (.int 2))) (c2 oDiv (cV 3) (c2 oIx (cV 0) (cD (.int 1))))) (c2 oMulA (c2 oIx (cV 1) (cD (.int 2))) (c2 oDiv (cV 3) (c2 oIx (cV 1) (cD (.int 1)))))))
    (sSeq (sIf (tV (c2 oEq (cV 4) (cD (.int 0)))) (sRet (cN oTup (aCons (cV 2) (aCons (cV 3) aNil)))) sNx)
    (sSeq (sSet (gV 5) (cNew (aDisp (aCons (cD (.int 0)) aNil))))
    (sSeq (sFor (iR (cV 2) (c2 oAddA (cV 2) (cV 3))) (gV 6) (sSeq (sSet (gV 7) (c2 oSub (cCall C i_raw_price (aCons (cV 0) (aCons (cV 6) aNil))) (cCall C i_raw_price (aCons (cV 1) (aCons (cV 6) aNil)))))
    (sDrop (cM (m1 oAppend) (cV 5) (aCons (cIf (tV (c2 oGt (cV 4) (cD (.int 0)))) (cCall C i_up_by (aCons (c2 oSub (cD (.int 1)) (cV 7)) (aCons (cV 4) aNil))) (cCall C i_up_by (aCons (c2 oAddA (cD (.int 1)) (cV 7)) (aCons (c2 oSub (cD (.int 0)) (cV 4)) aNil)))) aNil)))))
    (sRet (cN oTup (aCons (c2 oAddA (cV 2) (c2 oMulA (cV 3) (cN (oK kMax) (aCons (cV 5) aNil)))) (aCons (cD (.int 1)) aNil)))))))))
def N_signed_from : List PySem.Str := [PySem.Str.ofString "form", PySem.Str.ofString "other", PySem.Str.ofString "begin", PySem.Str.ofString "around", PySem.Str.ofString "gain", PySem.Str.ofString "turns", PySem.Str.ofString "n", PySem.Str.ofString "far"]
theorem dn_signed_from (C : Calls) : dSs ⟨N_signed_from, G0, CT0, PySem.Str.ofString "signed_from" ++ ".<locals>."⟩ C 60 ⟨true, false, false, true⟩ (defScope (top 84)) (defBody (top 84)) = some (b_signed_from C) := by kernel_rfl
theorem sc_signed_from : FnScope N_signed_from [PySem.Str.ofString "form", PySem.Str.ofString "other"] (defScope (top 84)) := fnsc_by (by kernel_rfl)
noncomputable def b_raw_where_less (C : Calls) : St :=
    (sSeq (sSet (gTupN 2 (gCons (gV 2) (gCons (gV 3) gNil))) (cCall C i_signed_from (aCons (cV 0) (aCons (cV 1) aNil))))
    (sRet (cCallL C i_made_set (aCons (cV 2) (aCons (cV 3) aNil)) li_raw_where_less_0 [0, 1])))
def N_raw_where_less : List PySem.Str := [PySem.Str.ofString "form", PySem.Str.ofString "other", PySem.Str.ofString "begin", PySem.Str.ofString "around"]
theorem dn_raw_where_less (C : Calls) : dSs ⟨N_raw_where_less, G0, CT0, PySem.Str.ofString "raw_where_less" ++ ".<locals>."⟩ C 60 ⟨true, true, false, true⟩ (defScope (top 85)) (defBody (top 85)) = some (b_raw_where_less C) := by kernel_rfl
theorem sc_raw_where_less : FnScope N_raw_where_less [PySem.Str.ofString "form", PySem.Str.ofString "other"] (defScope (top 85)) := fnsc_by (by kernel_rfl)
noncomputable def b_raw_most (C : Calls) : St :=
    (sSeq (sIf (tV (c2 oGt (cCall C i_raw_price (aCons (cV 0) (aCons (cD (.int 0)) aNil))) (cV 1))) (sRet (cD (.non))) sNx)
    (sSeq (sSet (gTupN 4 (gCons (gV 2) (gCons (gV 3) (gCons (gV 4) (gCons (gV 5) gNil))))) (cV 0))
    (sSeq (sSet (gV 6) (cN oMax2 (aCons (cD (.int 0)) (aCons (c2 oDiv (c2 oSub (cV 1) (c2 oIx (cV 5) (cV 2))) (cV 4)) aNil))))
    (sSeq (sSet (gV 7) (cIf (tV (c2 oGe (cV 1) (c2 oIx (cV 5) (cV 2)))) (c2 oAddA (cV 2) (c2 oMulA (cV 6) (cV 3))) (cD (.int 0))))
    (sSeq (sSet (gV 8) (cV 7))
    (sSeq (sWhile (tV (c2 oLe (cCall C i_raw_price (aCons (cV 0) (aCons (c2 oAddA (cV 8) (cD (.int 1))) aNil))) (cV 1))) (sSet (gV 8) (c2 oAddA (cV 8) (cD (.int 1)))))
    (sRet (cV 8))))))))
def N_raw_most : List PySem.Str := [PySem.Str.ofString "form", PySem.Str.ofString "budget", PySem.Str.ofString "begin", PySem.Str.ofString "around", PySem.Str.ofString "rise", PySem.Str.ofString "prices", PySem.Str.ofString "turns", PySem.Str.ofString "low", PySem.Str.ofString "n"]
theorem dn_raw_most (C : Calls) : dSs ⟨N_raw_most, G0, CT0, PySem.Str.ofString "raw_most" ++ ".<locals>."⟩ C 60 ⟨true, false, false, true⟩ (defScope (top 87)) (defBody (top 87)) = some (b_raw_most C) := by kernel_rfl
theorem sc_raw_most : FnScope N_raw_most [PySem.Str.ofString "form", PySem.Str.ofString "budget"] (defScope (top 87)) := fnsc_by (by kernel_rfl)
noncomputable def b_least_in (C : Calls) : St :=
    (sRet (cIf (tV (c2 oIn (cD (.bl true)) (c2 oIx (cV 0) (cD (.int 2))))) (cMA (m1 oIndex) (m1 oIndexT) (c2 oIx (cV 0) (cD (.int 2))) (aCons (cD (.bl true)) aNil)) (cD (.non))))
def N_least_in : List PySem.Str := [PySem.Str.ofString "told"]
theorem dn_least_in (C : Calls) : dSs ⟨N_least_in, G0, CT0, PySem.Str.ofString "least_in" ++ ".<locals>."⟩ C 60 ⟨true, false, false, true⟩ (defScope (top 89)) (defBody (top 89)) = some (b_least_in C) := by kernel_rfl
theorem sc_least_in : FnScope N_least_in [PySem.Str.ofString "told"] (defScope (top 89)) := fnsc_by (by kernel_rfl)
noncomputable def b_flat (C : Calls) : St :=
    (sRet (cN oTup (aCons (cD (.int 0)) (aCons (cD (.int 1)) (aCons (cD (.int 0)) (aCons (cN oTup (aCons (cV 0) aNil)) aNil))))))
def N_flat : List PySem.Str := [PySem.Str.ofString "price"]
theorem dn_flat (C : Calls) : dSs ⟨N_flat, G0, CT0, PySem.Str.ofString "flat" ++ ".<locals>."⟩ C 60 ⟨true, false, false, true⟩ (defScope (top 90)) (defBody (top 90)) = some (b_flat C) := by kernel_rfl
theorem sc_flat : FnScope N_flat [PySem.Str.ofString "price"] (defScope (top 90)) := fnsc_by (by kernel_rfl)
noncomputable def b_raw_falls (C : Calls) : St :=
    (sRet (cCall C i_least_in (aCons (cCall C i_raw_where_less (aCons (cCall C i_raw_change (aCons (cV 0) aNil)) (aCons (cCall C i_flat (aCons (cD (.int 0)) aNil)) aNil))) aNil)))
def N_raw_falls : List PySem.Str := [PySem.Str.ofString "form"]
theorem dn_raw_falls (C : Calls) : dSs ⟨N_raw_falls, G0, CT0, PySem.Str.ofString "raw_falls" ++ ".<locals>."⟩ C 60 ⟨true, false, false, true⟩ (defScope (top 91)) (defBody (top 91)) = some (b_raw_falls C) := by kernel_rfl
theorem sc_raw_falls : FnScope N_raw_falls [PySem.Str.ofString "form"] (defScope (top 91)) := fnsc_by (by kernel_rfl)
noncomputable def b_never_falls (C : Calls) : St :=
    (sSeq (sDrop (cCall C i_check_form (aCons (cV 0) aNil)))
    (sRet (cCall C i_raw_falls (aCons (cV 0) aNil))))
def N_never_falls : List PySem.Str := [PySem.Str.ofString "form"]
theorem dn_never_falls (C : Calls) : dSs ⟨N_never_falls, G0, CT0, PySem.Str.ofString "never_falls" ++ ".<locals>."⟩ C 60 ⟨true, false, false, true⟩ (defScope (top 92)) (defBody (top 92)) = some (b_never_falls C) := by kernel_rfl
theorem sc_never_falls : FnScope N_never_falls [PySem.Str.ofString "form"] (defScope (top 92)) := fnsc_by (by kernel_rfl)
noncomputable def b_leaf_form (C : Calls) : St :=
    (sSeq (sSet (gV 1) (c2 oIx (cV 0) (cD (.int 0))))
    (sSeq (sIf (tV (c2 oEq (cV 1) (cD (.str (PySem.Str.ofString "flat"))))) (sRet (cN oTup (aCons (cD (.int 0)) (aCons (cD (.int 1)) (aCons (cD (.int 0)) (aCons (cN oTup (aCons (c2 oIx (cV 0) (cD (.int 1))) aNil)) aNil)))))) sNx)
    (sSeq (sIf (tV (c2 oEq (cV 1) (cD (.str (PySem.Str.ofString "pieces"))))) (sRet (cN oTup (aCons (cD (.int 0)) (aCons (cD (.int 1)) (aCons (cD (.int 1)) (aCons (cN oTup (aCons (cD (.int 0)) aNil)) aNil)))))) sNx)
    (sSeq (sIf (tV (c2 oEq (cV 1) (cD (.str (PySem.Str.ofString "step"))))) (sRet (cCall C i_raw_least (aCons (cN oTup (aCons (c2 oIx (cV 0) (cD (.int 1))) (aCons (cD (.int 1)) (aCons (cD (.int 0)) (aCons (c2 oAddA (c2 oMulA (cN oTup (aCons (cD (.int 0)) aNil)) (c2 oIx (cV 0) (cD (.int 1)))) (cN oTup (aCons (cD (.int 1)) aNil))) aNil))))) aNil))) sNx)
    (sRet (cCall C i_raw_least (aCons (cN oTup (aCons (c2 oSub (cN oLen (aCons (c2 oIx (cV 0) (cD (.int 1))) aNil)) (c2 oIx (cV 0) (cD (.int 2)))) (aCons (c2 oIx (cV 0) (cD (.int 2))) (aCons (c2 oIx (cV 0) (cD (.int 3))) (aCons (c2 oIx (cV 0) (cD (.int 1))) aNil))))) aNil)))))))
def N_leaf_form : List PySem.Str := [PySem.Str.ofString "rule", PySem.Str.ofString "word"]
theorem dn_leaf_form (C : Calls) : dSs ⟨N_leaf_form, G0, CT0, PySem.Str.ofString "leaf_form" ++ ".<locals>."⟩ C 60 ⟨true, false, false, true⟩ (defScope (top 94)) (defBody (top 94)) = some (b_leaf_form C) := by kernel_rfl
theorem sc_leaf_form : FnScope N_leaf_form [PySem.Str.ofString "rule"] (defScope (top 94)) := fnsc_by (by kernel_rfl)
noncomputable def b_raw_into (C : Calls) : St :=
    (sSeq (sSet (gTupN 4 (gCons (gV 2) (gCons (gV 3) (gCons (gV 4) (gCons (gV 5) gNil))))) (cV 0))
    (sSeq (sSet (gV 6) (cCut (cV 5) (pSome (cV 2)) pNo))
    (sSeq (sIf (tV (c2 oLt (cV 4) (cD (.int 0)))) (sSeq (sSet (gV 2) (c2 oAddA (cV 2) (c2 oMulA (cV 3) (cK kMax (aCat (iA (aDisp (aCons (cD (.int 0)) aNil))) (iA (aComp [8] (iE (cV 6)) (gV 8) tYes (cCall C i_up_by (aCons (cV 8) (aCons (c2 oSub (cD (.int 0)) (cV 4)) aNil))))))))))
    (sSet (gTupN 2 (gCons (gV 3) (gCons (gV 4) gNil))) (cN oTup (aCons (cD (.int 1)) (aCons (cD (.int 0)) aNil))))) (sIf (tV (c2 oGt (cV 4) (cD (.int 0)))) (sSeq (sSet (gV 2) (c2 oAddA (cV 2) (c2 oMulA (cV 3) (cK kMax (aCat (iA (aDisp (aCons (cD (.int 0)) aNil))) (iA (aComp [8] (iE (cV 6)) (gV 8) tYes (cCall C i_up_by (aCons (c2 oSub (c2 oIx (cV 1) (cD (.int 0))) (cV 8)) (aCons (cV 4) aNil))))))))))
    (sSeq (sSet (gV 7) (c2 oDiv (c2 oIx (cV 1) (cD (.int 1))) (cCall C i_common_part (aCons (c2 oIx (cV 1) (cD (.int 1))) (aCons (cV 4) aNil)))))
    (sSet (gTupN 2 (gCons (gV 3) (gCons (gV 4) gNil))) (cN oTup (aCons (c2 oMulA (cV 3) (cV 7)) (aCons (c2 oMulA (c2 oDiv (c2 oMulA (cV 4) (cV 7)) (c2 oIx (cV 1) (cD (.int 1)))) (c2 oIx (cV 1) (cD (.int 2)))) aNil)))))) sNx))
    (sRet (cCallL C i_made (aCons (cV 2) (aCons (cV 3) (aCons (cV 4) aNil))) li_raw_into_0 [0, 1])))))
def N_raw_into : List PySem.Str := [PySem.Str.ofString "form", PySem.Str.ofString "other", PySem.Str.ofString "begin", PySem.Str.ofString "around", PySem.Str.ofString "rise", PySem.Str.ofString "prices", PySem.Str.ofString "ring", PySem.Str.ofString "many", PySem.Str.ofString "one"]
theorem dn_raw_into (C : Calls) : dSs ⟨N_raw_into, G0, CT0, PySem.Str.ofString "raw_into" ++ ".<locals>."⟩ C 60 ⟨true, true, false, true⟩ (defScope (top 95)) (defBody (top 95)) = some (b_raw_into C) := by kernel_rfl
theorem sc_raw_into : FnScope N_raw_into [PySem.Str.ofString "form", PySem.Str.ofString "other"] (defScope (top 95)) := fnsc_by (by kernel_rfl)
noncomputable def b_joined_by (C : Calls) : St :=
    (sSeq (sIf (tV (c2 oEq (cV 0) (cD (.str (PySem.Str.ofString "plus"))))) (sRet (cCall C i_raw_added (aCons (cV 1) (aCons (cV 2) aNil)))) sNx)
    (sSeq (sIf (tV (c2 oEq (cV 0) (cD (.str (PySem.Str.ofString "less"))))) (sRet (cCall C i_raw_lessened (aCons (cV 1) (aCons (cV 2) aNil)))) sNx)
    (sSeq (sIf (tV (c2 oEq (cV 0) (cD (.str (PySem.Str.ofString "max"))))) (sRet (cCall C i_raw_greater (aCons (cV 1) (aCons (cV 2) aNil)))) sNx)
    (sSeq (sIf (tV (c2 oEq (cV 0) (cD (.str (PySem.Str.ofString "min"))))) (sRet (cCall C i_raw_lesser (aCons (cV 1) (aCons (cV 2) aNil)))) sNx)
    (sRet (cIf (tV (c2 oEq (cV 0) (cD (.str (PySem.Str.ofString "split"))))) (cCall C i_raw_split (aCons (cV 1) (aCons (cV 2) aNil))) (cCall C i_raw_into (aCons (cV 1) (aCons (cV 2) aNil)))))))))
def N_joined_by : List PySem.Str := [PySem.Str.ofString "word", PySem.Str.ofString "one", PySem.Str.ofString "other"]
theorem dn_joined_by (C : Calls) : dSs ⟨N_joined_by, G0, CT0, PySem.Str.ofString "joined_by" ++ ".<locals>."⟩ C 60 ⟨true, false, false, true⟩ (defScope (top 96)) (defBody (top 96)) = some (b_joined_by C) := by kernel_rfl
theorem sc_joined_by : FnScope N_joined_by [PySem.Str.ofString "word", PySem.Str.ofString "one", PySem.Str.ofString "other"] (defScope (top 96)) := fnsc_by (by kernel_rfl)
noncomputable def b_counted_by (C : Calls) : St :=
    (sSeq (sIf (tV (c2 oEq (cV 0) (cD (.str (PySem.Str.ofString "times"))))) (sRet (cCall C i_raw_scaled (aCons (cV 2) (aCons (cV 1) aNil)))) sNx)
    (sSeq (sIf (tV (c2 oEq (cV 0) (cD (.str (PySem.Str.ofString "share"))))) (sRet (cCall C i_raw_shared (aCons (cV 2) (aCons (cV 1) aNil)))) sNx)
    (sSeq (sIf (tV (c2 oEq (cV 0) (cD (.str (PySem.Str.ofString "left"))))) (sRet (cCall C i_raw_left (aCons (cV 2) (aCons (cV 1) aNil)))) sNx)
    (sSeq (sIf (tV (c2 oEq (cV 0) (cD (.str (PySem.Str.ofString "packs"))))) (sRet (cCall C i_raw_packed (aCons (cV 2) (aCons (cV 1) aNil)))) sNx)
    (sSeq (sIf (tV (c2 oEq (cV 0) (cD (.str (PySem.Str.ofString "each"))))) (sRet (cCall C i_raw_unpacked (aCons (cV 2) (aCons (cV 1) aNil)))) sNx)
    (sRet (cIf (tV (c2 oEq (cV 0) (cD (.str (PySem.Str.ofString "move"))))) (cCall C i_raw_moved (aCons (cV 2) (aCons (cV 1) aNil))) (cCall C i_raw_within (aCons (cV 2) (aCons (cV 1) aNil))))))))))
def N_counted_by : List PySem.Str := [PySem.Str.ofString "word", PySem.Str.ofString "k", PySem.Str.ofString "one"]
theorem dn_counted_by (C : Calls) : dSs ⟨N_counted_by, G0, CT0, PySem.Str.ofString "counted_by" ++ ".<locals>."⟩ C 60 ⟨true, false, false, true⟩ (defScope (top 97)) (defBody (top 97)) = some (b_counted_by C) := by kernel_rfl
theorem sc_counted_by : FnScope N_counted_by [PySem.Str.ofString "word", PySem.Str.ofString "k", PySem.Str.ofString "one"] (defScope (top 97)) := fnsc_by (by kernel_rfl)
noncomputable def b_form_by (C : Calls) : St :=
    (sSeq (sSet (gV 2) (c2 oIx (cV 0) (cD (.int 0))))
    (sSeq (sIf (tV (c2 oEq (cN oLen (aCons (cV 1) aNil)) (cD (.int 0)))) (sRet (cCall C i_leaf_form (aCons (cV 0) aNil))) sNx)
    (sSeq (sIf (tV (c2 oEq (cN oLen (aCons (cV 1) aNil)) (cD (.int 2)))) (sRet (cCall C i_joined_by (aCons (cV 2) (aCons (c2 oIx (cV 1) (cD (.int 0))) (aCons (c2 oIx (cV 1) (cD (.int 1))) aNil))))) sNx)
    (sSeq (sIf (tV (c2 oEq (cV 2) (cD (.str (PySem.Str.ofString "change"))))) (sRet (cCall C i_raw_change (aCons (c2 oIx (cV 1) (cD (.int 0))) aNil))) sNx)
    (sSeq (sIf (tV (c2 oIn (cV 2) (cN oTup (aCons (cD (.str (PySem.Str.ofString "high"))) (aCons (cD (.str (PySem.Str.ofString "low"))) aNil))))) (sRet (cIf (tV (c2 oEq (cV 2) (cD (.str (PySem.Str.ofString "high"))))) (cCall C i_raw_highest (aCons (c2 oIx (cV 1) (cD (.int 0))) aNil)) (cCall C i_raw_lowest (aCons (c2 oIx (cV 1) (cD (.int 0))) aNil)))) sNx)
    (sRet (cCall C i_counted_by (aCons (cV 2) (aCons (c2 oIx (cV 0) (cD (.int 1))) (aCons (c2 oIx (cV 1) (cD (.int 0))) aNil))))))))))
def N_form_by : List PySem.Str := [PySem.Str.ofString "rule", PySem.Str.ofString "parts", PySem.Str.ofString "word"]
theorem dn_form_by (C : Calls) : dSs ⟨N_form_by, G0, CT0, PySem.Str.ofString "form_by" ++ ".<locals>."⟩ C 60 ⟨true, false, false, true⟩ (defScope (top 98)) (defBody (top 98)) = some (b_form_by C) := by kernel_rfl
theorem sc_form_by : FnScope N_form_by [PySem.Str.ofString "rule", PySem.Str.ofString "parts"] (defScope (top 98)) := fnsc_by (by kernel_rfl)
noncomputable def b_raw_forms (C : Calls) : St :=
    (sSeq (sSet (gV 1) cDictT)
    (sSeq (sFor (iA (aRev (cCall C i_raw_nodes (aCons (cV 0) aNil)))) (gTupN 2 (gCons (gV 2) (gCons (gV 3) gNil))) (sSub oSetL (cV 1) (cV 2) (cCall C i_form_by (aCons (cV 3) (aCons (cNew (aComp [4] (iR1 (cN oLen (aCons (c1 (oIxF f_SPOTS) (c2 oIx (cV 3) (cD (.int 0)))) aNil))) (gV 4) tYes (c2 oIx (cV 1) (c2 oAddA (cV 2) (cN oTupO (aCons (cV 4) aNil)))))) aNil)))))
    (sRet (cV 1))))
def N_raw_forms : List PySem.Str := [PySem.Str.ofString "rule", PySem.Str.ofString "found", PySem.Str.ofString "path", PySem.Str.ofString "here", PySem.Str.ofString "at"]
theorem dn_raw_forms (C : Calls) : dSs ⟨N_raw_forms, G0, CT0, PySem.Str.ofString "raw_forms" ++ ".<locals>."⟩ C 60 ⟨true, false, false, true⟩ (defScope (top 99)) (defBody (top 99)) = some (b_raw_forms C) := by kernel_rfl
theorem sc_raw_forms : FnScope N_raw_forms [PySem.Str.ofString "rule"] (defScope (top 99)) := fnsc_by (by kernel_rfl)
noncomputable def b_raw_form (C : Calls) : St :=
    (sRet (c2 oIx (cCall C i_raw_forms (aCons (cV 0) aNil)) (cN oTupO aNil)))
def N_raw_form : List PySem.Str := [PySem.Str.ofString "rule"]
theorem dn_raw_form (C : Calls) : dSs ⟨N_raw_form, G0, CT0, PySem.Str.ofString "raw_form" ++ ".<locals>."⟩ C 60 ⟨true, false, false, true⟩ (defScope (top 100)) (defBody (top 100)) = some (b_raw_form C) := by kernel_rfl
theorem sc_raw_form : FnScope N_raw_form [PySem.Str.ofString "rule"] (defScope (top 100)) := fnsc_by (by kernel_rfl)
noncomputable def b_form_of (C : Calls) : St :=
    (sSeq (sDrop (cCall C i_check_rule (aCons (cV 0) aNil)))
    (sRet (cCall C i_raw_form (aCons (cV 0) aNil))))
def N_form_of : List PySem.Str := [PySem.Str.ofString "rule"]
theorem dn_form_of (C : Calls) : dSs ⟨N_form_of, G0, CT0, PySem.Str.ofString "form_of" ++ ".<locals>."⟩ C 60 ⟨true, false, false, true⟩ (defScope (top 101)) (defBody (top 101)) = some (b_form_of C) := by kernel_rfl
theorem sc_form_of : FnScope N_form_of [PySem.Str.ofString "rule"] (defScope (top 101)) := fnsc_by (by kernel_rfl)
noncomputable def b_check_tax (C : Calls) : St :=
    (sIf (tOr (tNot (tV (cCall C i_are_bands (aCons (cV 0) aNil)))) (tNot (tV (cK kAll (aComp [1, 2] (iE (cV 0)) (gTupN 2 (gCons (gV 1) (gCons (gV 2) gNil))) tYes (cCall C i_is_within (aCons (cV 2) (aCons (cD (.int 0)) (aCons (cD g_MOST_EACH_taxes) aNil))))))))) (sRaise (PySem.Str.ofString "NoTax")) sNx)
def N_check_tax : List PySem.Str := [PySem.Str.ofString "tax", PySem.Str.ofString "begin", PySem.Str.ofString "each"]
theorem dn_check_tax (C : Calls) : dSs ⟨N_check_tax, G0, CT0, PySem.Str.ofString "check_tax" ++ ".<locals>."⟩ C 60 ⟨true, false, false, true⟩ (defScope (top 106)) (defBody (top 106)) = some (b_check_tax C) := by kernel_rfl
theorem sc_check_tax : FnScope N_check_tax [PySem.Str.ofString "tax"] (defScope (top 106)) := fnsc_by (by kernel_rfl)
noncomputable def b_raw_tax (C : Calls) : St :=
    (sSeq (sSet (gV 1) (cCall C i_raw_bands_form (aCons (cV 0) aNil)))
    (sRet (cCallL C i_made (aCons (c2 oIx (cV 1) (cD (.int 0))) (aCons (cD g_HUNDRED) (aCons (c2 oIx (c2 oIx (cV 0) (c1 oNeg (cD (.int 1)))) (cD (.int 1))) aNil))) li_raw_tax_0 [1])))
def N_raw_tax : List PySem.Str := [PySem.Str.ofString "tax", PySem.Str.ofString "whole"]
theorem dn_raw_tax (C : Calls) : dSs ⟨N_raw_tax, G0, CT0, PySem.Str.ofString "raw_tax" ++ ".<locals>."⟩ C 60 ⟨true, true, false, true⟩ (defScope (top 107)) (defBody (top 107)) = some (b_raw_tax C) := by kernel_rfl
theorem sc_raw_tax : FnScope N_raw_tax [PySem.Str.ofString "tax"] (defScope (top 107)) := fnsc_by (by kernel_rfl)
noncomputable def b_tax_form (C : Calls) : St :=
    (sSeq (sDrop (cCall C i_check_tax (aCons (cV 0) aNil)))
    (sRet (cCall C i_raw_tax (aCons (cV 0) aNil))))
def N_tax_form : List PySem.Str := [PySem.Str.ofString "tax"]
theorem dn_tax_form (C : Calls) : dSs ⟨N_tax_form, G0, CT0, PySem.Str.ofString "tax_form" ++ ".<locals>."⟩ C 60 ⟨true, false, false, true⟩ (defScope (top 108)) (defBody (top 108)) = some (b_tax_form C) := by kernel_rfl
theorem sc_tax_form : FnScope N_tax_form [PySem.Str.ofString "tax"] (defScope (top 108)) := fnsc_by (by kernel_rfl)
noncomputable def b_raw_net (C : Calls) : St :=
    (sRet (cCall C i_raw_lessened (aCons (cD g_ALL) (aCons (cCall C i_raw_tax (aCons (cV 0) aNil)) aNil))))
def N_raw_net : List PySem.Str := [PySem.Str.ofString "tax"]
theorem dn_raw_net (C : Calls) : dSs ⟨N_raw_net, G0, CT0, PySem.Str.ofString "raw_net" ++ ".<locals>."⟩ C 60 ⟨true, false, false, true⟩ (defScope (top 109)) (defBody (top 109)) = some (b_raw_net C) := by kernel_rfl
theorem sc_raw_net : FnScope N_raw_net [PySem.Str.ofString "tax"] (defScope (top 109)) := fnsc_by (by kernel_rfl)
noncomputable def b_net_form (C : Calls) : St :=
    (sSeq (sDrop (cCall C i_check_tax (aCons (cV 0) aNil)))
    (sRet (cCall C i_raw_net (aCons (cV 0) aNil))))
def N_net_form : List PySem.Str := [PySem.Str.ofString "tax"]
theorem dn_net_form (C : Calls) : dSs ⟨N_net_form, G0, CT0, PySem.Str.ofString "net_form" ++ ".<locals>."⟩ C 60 ⟨true, false, false, true⟩ (defScope (top 110)) (defBody (top 110)) = some (b_net_form C) := by kernel_rfl
theorem sc_net_form : FnScope N_net_form [PySem.Str.ofString "tax"] (defScope (top 110)) := fnsc_by (by kernel_rfl)
noncomputable def b_raw_gross (C : Calls) : St :=
    (sRet (cIf (tV (c2 oGt (cV 1) (cD (.int 0)))) (c2 oAddA (cCall C i_raw_most (aCons (cV 0) (aCons (c2 oSub (cV 1) (cD (.int 1))) aNil))) (cD (.int 1))) (cD (.int 0))))
def N_raw_gross : List PySem.Str := [PySem.Str.ofString "form", PySem.Str.ofString "net"]
theorem dn_raw_gross (C : Calls) : dSs ⟨N_raw_gross, G0, CT0, PySem.Str.ofString "raw_gross" ++ ".<locals>."⟩ C 60 ⟨true, false, false, true⟩ (defScope (top 111)) (defBody (top 111)) = some (b_raw_gross C) := by kernel_rfl
theorem sc_raw_gross : FnScope N_raw_gross [PySem.Str.ofString "form", PySem.Str.ofString "net"] (defScope (top 111)) := fnsc_by (by kernel_rfl)
noncomputable def b_gross_for (C : Calls) : St :=
    (sSeq (sDrop (cCall C i_check_tax (aCons (cV 0) aNil)))
    (sSeq (sDrop (cCall C i_check_number (aCons (cV 1) aNil)))
    (sRet (cCall C i_raw_gross (aCons (cCall C i_raw_net (aCons (cV 0) aNil)) (aCons (cV 1) aNil))))))
def N_gross_for : List PySem.Str := [PySem.Str.ofString "tax", PySem.Str.ofString "net"]
theorem dn_gross_for (C : Calls) : dSs ⟨N_gross_for, G0, CT0, PySem.Str.ofString "gross_for" ++ ".<locals>."⟩ C 60 ⟨true, false, false, true⟩ (defScope (top 112)) (defBody (top 112)) = some (b_gross_for C) := by kernel_rfl
theorem sc_gross_for : FnScope N_gross_for [PySem.Str.ofString "tax", PySem.Str.ofString "net"] (defScope (top 112)) := fnsc_by (by kernel_rfl)
noncomputable def b_net_set (C : Calls) : St :=
    (sSeq (sDrop (cCall C i_check_tax (aCons (cV 0) aNil)))
    (sSeq (sSet (gV 1) (cCall C i_raw_net (aCons (cV 0) aNil)))
    (sRet (cCallL C i_made_set (aCons (cCall C i_raw_price (aCons (cV 1) (aCons (c2 oIx (cV 1) (cD (.int 0))) aNil))) (aCons (c2 oIx (cV 1) (cD (.int 2))) aNil)) li_net_set_0 [1]))))
def N_net_set : List PySem.Str := [PySem.Str.ofString "tax", PySem.Str.ofString "form"]
theorem dn_net_set (C : Calls) : dSs ⟨N_net_set, G0, CT0, PySem.Str.ofString "net_set" ++ ".<locals>."⟩ C 60 ⟨true, true, false, true⟩ (defScope (top 113)) (defBody (top 113)) = some (b_net_set C) := by kernel_rfl
theorem sc_net_set : FnScope N_net_set [PySem.Str.ofString "tax"] (defScope (top 113)) := fnsc_by (by kernel_rfl)
noncomputable def b__law_hand (C : Calls) : St :=
    (sSeq (sSet (gV 1) (cNew (aComp [2] (iE (cCut (cV 0) pNo (pSome (cD (.int 63))))) (gV 2) tYes (c2 oMod (cN oInt (aCons (cN oAbs (aCons (cN oInt (aCons (cV 2) aNil)) aNil)) aNil)) (c2 oPow (cD (.int 10)) (cD (.int 36)))))))
    (sRet (cNew (aDisp (aCons (cV 1) (aCons (cD (.int 0)) (aCons (cD (.int 0)) (aCons (c2 oAddA (cD (.int 1361)) (c2 oMulA (cD (.int 853)) (cN oLen (aCons (cV 1) aNil)))) (aCons (cD (.int 0)) aNil)))))))))
def N__law_hand : List PySem.Str := [PySem.Str.ofString "script", PySem.Str.ofString "cells", PySem.Str.ofString "cell"]
theorem dn__law_hand (C : Calls) : dSs ⟨N__law_hand, G0, CT0, PySem.Str.ofString "_law_hand" ++ ".<locals>."⟩ C 60 ⟨true, false, false, true⟩ (defScope (top 115)) (defBody (top 115)) = some (b__law_hand C) := by kernel_rfl
theorem sc__law_hand : FnScope N__law_hand [PySem.Str.ofString "script"] (defScope (top 115)) := fnsc_by (by kernel_rfl)
noncomputable def b__law_draw (C : Calls) : St :=
    (sSeq (sIf (tAnd (tV (c2 oEq (c2 oIx (cV 0) (cD (.int 2))) (cD (.int 0)))) (tV (c2 oLt (c2 oIx (cV 0) (cD (.int 1))) (cN oLen (aCons (c2 oIx (cV 0) (cD (.int 0))) aNil))))) (sSeq (sSet (gV 2) (c2 oIx (c2 oIx (cV 0) (cD (.int 0))) (c2 oIx (cV 0) (cD (.int 1)))))
    (sSeq (sSub oSetL (cV 0) (cD (.int 1)) (c2 oAddA (c2 oIx (cV 0) (cD (.int 1))) (cD (.int 1))))
    (sSeq (sSub oSetL (cV 0) (cD (.int 3)) (c2 oMod (cN oInt (aCons (c2 oAddA (c2 oAddA (c2 oMulA (c2 oIx (cV 0) (cD (.int 3))) (cD (.int 69621))) (c2 oMulA (cV 2) (cD (.int 48271)))) (cD (.int 17))) aNil)) (cD (.int 2147483629))))
    (sIf (tV (c2 oGe (cV 2) (c2 oPow (cD (.int 10)) (cD (.int 18))))) (sSub oSetL (cV 0) (cD (.int 2)) (cV 2)) sNx)))) sNx)
    (sSeq (sIf (tV (c2 oGt (c2 oIx (cV 0) (cD (.int 2))) (cD (.int 0)))) (sSeq (sSet (gV 3) (c2 oMod (cN oInt (aCons (c2 oIx (cV 0) (cD (.int 2))) aNil)) (cV 1)))
    (sSeq (sSub oSetL (cV 0) (cD (.int 2)) (c2 oDiv (c2 oIx (cV 0) (cD (.int 2))) (cV 1)))
    (sRet (cV 3)))) sNx)
    (sSeq (sSub oSetL (cV 0) (cD (.int 4)) (c2 oAddA (c2 oIx (cV 0) (cD (.int 4))) (cD (.int 1))))
    (sSeq (sSet (gV 4) (c2 oMod (cN oInt (aCons (c2 oMulA (cN oInt (aCons (c2 oAddA (c2 oIx (cV 0) (cD (.int 3))) (c2 oMulA (cD (.int 7919)) (c2 oIx (cV 0) (cD (.int 4))))) aNil)) (cD (.int 40692))) aNil)) (cD (.int 2147483647))))
    (sSeq (sSet (gV 4) (c2 oMod (cN oInt (aCons (c2 oMulA (cV 4) (c2 oAddA (c2 oDiv (cV 4) (cD (.int 1009))) (cD (.int 69621)))) aNil)) (cD (.int 2147483647))))
    (sSeq (sSet (gV 4) (c2 oMod (cN oInt (aCons (c2 oMulA (cV 4) (c2 oAddA (c2 oDiv (cV 4) (cD (.int 2003))) (cD (.int 40014)))) aNil)) (cD (.int 2147483563))))
    (sRet (c2 oMod (cN oInt (aCons (c2 oDiv (cV 4) (cD (.int 16))) aNil)) (cV 1)))))))))
def N__law_draw : List PySem.Str := [PySem.Str.ofString "hand", PySem.Str.ofString "many", PySem.Str.ofString "cell", PySem.Str.ofString "digit", PySem.Str.ofString "number"]
theorem dn__law_draw (C : Calls) : dSs ⟨N__law_draw, G0, CT0, PySem.Str.ofString "_law_draw" ++ ".<locals>."⟩ C 60 ⟨true, false, false, true⟩ (defScope (top 116)) (defBody (top 116)) = some (b__law_draw C) := by kernel_rfl
theorem sc__law_draw : FnScope N__law_draw [PySem.Str.ofString "hand", PySem.Str.ofString "many"] (defScope (top 116)) := fnsc_by (by kernel_rfl)
noncomputable def b__law_any (C : Calls) : St :=
    (sRet (c2 oIx (cV 1) (cCall C i__law_draw (aCons (cV 0) (aCons (cN oLen (aCons (cV 1) aNil)) aNil)))))
def N__law_any : List PySem.Str := [PySem.Str.ofString "hand", PySem.Str.ofString "some"]
theorem dn__law_any (C : Calls) : dSs ⟨N__law_any, G0, CT0, PySem.Str.ofString "_law_any" ++ ".<locals>."⟩ C 60 ⟨true, false, false, true⟩ (defScope (top 117)) (defBody (top 117)) = some (b__law_any C) := by kernel_rfl
theorem sc__law_any : FnScope N__law_any [PySem.Str.ofString "hand", PySem.Str.ofString "some"] (defScope (top 117)) := fnsc_by (by kernel_rfl)
noncomputable def b__law_tax (C : Calls) : St :=
    (sSeq (sPar (gPar [1, 2]) (aCons (cNew (aDisp aNil)) (aCons (cD (.int 0)) aNil)))
    (sSeq (sFor (iR1 (c2 oAddA (cD (.int 1)) (cCall C i__law_draw (aCons (cV 0) (aCons (cD (.int 3)) aNil))))) (gV 3) (sSeq (sDrop (cM (m1 oAppend) (cV 1) (aCons (cN oTup (aCons (cV 2) (aCons (cCall C i__law_any (aCons (cV 0) (aCons (cNew (aDisp (aCons (cD (.int 0)) (aCons (cD (.int 5)) (aCons (cD (.int 10)) (aCons (cD (.int 25)) (aCons (cD (.int 50)) (aCons (cD (.int 99)) (aCons (cD (.int 33)) aNil))))))))) aNil))) aNil))) aNil)))
    (sSet (gV 2) (c2 oAddA (c2 oAddA (cV 2) (cD (.int 1))) (cCall C i__law_draw (aCons (cV 0) (aCons (cD (.int 40)) aNil)))))))
    (sRet (cN oTupOf (aCons (cV 1) aNil)))))
def N__law_tax : List PySem.Str := [PySem.Str.ofString "hand", PySem.Str.ofString "found", PySem.Str.ofString "at", PySem.Str.ofString "turn"]
theorem dn__law_tax (C : Calls) : dSs ⟨N__law_tax, G0, CT0, PySem.Str.ofString "_law_tax" ++ ".<locals>."⟩ C 60 ⟨true, false, false, true⟩ (defScope (top 118)) (defBody (top 118)) = some (b__law_tax C) := by kernel_rfl
theorem sc__law_tax : FnScope N__law_tax [PySem.Str.ofString "hand"] (defScope (top 118)) := fnsc_by (by kernel_rfl)
noncomputable def b__law_due (C : Calls) : St :=
    (sSeq (sSet (gV 2) (cD (.int 0)))
    (sSeq (sFor (iEnum (cV 0)) (gTupN 2 (gCons (gV 3) (gCons (gTupN 2 (gCons (gV 4) (gCons (gV 5) gNil))) gNil))) (sSeq (sSet (gV 6) (cIf (tV (c2 oLt (c2 oAddA (cV 3) (cD (.int 1))) (cN oLen (aCons (cV 0) aNil)))) (c2 oIx (c2 oIx (cV 0) (c2 oAddA (cV 3) (cD (.int 1)))) (cD (.int 0))) (cV 1)))
    (sSet (gV 2) (c2 oAddA (cV 2) (c2 oMulA (cN oMax2 (aCons (cD (.int 0)) (aCons (c2 oSub (cN oMin2 (aCons (cV 1) (aCons (cV 6) aNil))) (cV 4)) aNil))) (cV 5))))))
    (sRet (c2 oDiv (cV 2) (cD (.int 100))))))
def N__law_due : List PySem.Str := [PySem.Str.ofString "tax", PySem.Str.ofString "n", PySem.Str.ofString "whole", PySem.Str.ofString "at", PySem.Str.ofString "begin", PySem.Str.ofString "each", PySem.Str.ofString "end"]
theorem dn__law_due (C : Calls) : dSs ⟨N__law_due, G0, CT0, PySem.Str.ofString "_law_due" ++ ".<locals>."⟩ C 60 ⟨true, false, false, true⟩ (defScope (top 119)) (defBody (top 119)) = some (b__law_due C) := by kernel_rfl
theorem sc__law_due : FnScope N__law_due [PySem.Str.ofString "tax", PySem.Str.ofString "n"] (defScope (top 119)) := fnsc_by (by kernel_rfl)
noncomputable def b__law_word (C : Calls) : St :=
    (sSeq (sTry CT0 (sDrop (cCallV C 0 aNil)) (PySem.Str.ofString "PriceError") 1 (sSeq (sSet (gV 2) (cNew (aDisp (aCons (c1 (oIsE CT0 (PySem.Str.ofString "NoTax")) (cV 1)) (aCons (c1 (oIsE CT0 (PySem.Str.ofString "NoNumber")) (cV 1)) aNil)))))
    (sRet (cIf (tV (c2 oEq (cMA (m1 oCount) (m1 oCountT) (cV 2) (aCons (cD (.bl true)) aNil)) (cD (.int 1)))) (cIxL (aDisp (aCons (cD (.str (PySem.Str.ofString "tax"))) (aCons (cD (.str (PySem.Str.ofString "number"))) aNil))) (cMA (m1 oIndex) (m1 oIndexT) (cV 2) (aCons (cD (.bl true)) aNil))) (cD (.str (PySem.Str.ofString "other")))))))
    (sRet (cD (.str (PySem.Str.ofString "let")))))
def N__law_word : List PySem.Str := [PySem.Str.ofString "call", PySem.Str.ofString "error", PySem.Str.ofString "flags"]
theorem dn__law_word (C : Calls) : dSs ⟨N__law_word, G0, CT0, PySem.Str.ofString "_law_word" ++ ".<locals>."⟩ C 60 ⟨true, false, false, true⟩ (defScope (top 120)) (defBody (top 120)) = some (b__law_word C) := by kernel_rfl
theorem sc__law_word : FnScope N__law_word [PySem.Str.ofString "call"] (defScope (top 120)) := fnsc_by (by kernel_rfl)
noncomputable def b__law_are_nets_right (C : Calls) : St :=
    (sSeq (sSet (gV 2) (cNew (aComp [7] (iR1 (cD (.int 600))) (gV 7) tYes (c2 oSub (cV 7) (cCall C i__law_due (aCons (cV 1) (aCons (cV 7) aNil)))))))
    (sSeq (sFor (iR1 (cD (.int 4))) (gV 3) (sSeq (sSet (gV 4) (cCall C i__law_draw (aCons (cV 0) (aCons (c2 oAddA (cN (oK kMax) (aCons (cV 2) aNil)) (cD (.int 1))) aNil))))
    (sSeq (sSet (gV 5) (cIxL (aComp [7] (iR1 (cD (.int 600))) (gV 7) (tV (c2 oGe (c2 oIx (cV 2) (cV 7)) (cV 4))) (cV 7)) (cD (.int 0))))
    (sIf (tV (c2 oNe (cCall C i_gross_for (aCons (cV 1) (aCons (cV 4) aNil))) (cV 5))) (sRet (cD (.bl false))) sNx))))
    (sSeq (sSet (gV 6) (cCall C i_net_set (aCons (cV 1) aNil)))
    (sSeq (sIf (tV (c2 oNe (cN oRepr (aCons (cCall C i_least_set (aCons (cV 6) aNil)) aNil)) (cN oRepr (aCons (cV 6) aNil)))) (sRet (cD (.bl false))) sNx)
    (sRet (cK kAll (aComp [8] (iR1 (cN (oK kMax) (aCons (cV 2) aNil))) (gV 8) tYes (c2 oEq (cCall C i_has (aCons (cV 6) (aCons (cV 8) aNil))) (c2 oIn (cV 8) (cV 2))))))))))
def N__law_are_nets_right : List PySem.Str := [PySem.Str.ofString "hand", PySem.Str.ofString "tax", PySem.Str.ofString "nets", PySem.Str.ofString "turn", PySem.Str.ofString "want", PySem.Str.ofString "due", PySem.Str.ofString "told", PySem.Str.ofString "n", PySem.Str.ofString "net"]
theorem dn__law_are_nets_right (C : Calls) : dSs ⟨N__law_are_nets_right, G0, CT0, PySem.Str.ofString "_law_are_nets_right" ++ ".<locals>."⟩ C 60 ⟨true, false, false, true⟩ (defScope (top 121)) (defBody (top 121)) = some (b__law_are_nets_right C) := by kernel_rfl
theorem sc__law_are_nets_right : FnScope N__law_are_nets_right [PySem.Str.ofString "hand", PySem.Str.ofString "tax"] (defScope (top 121)) := fnsc_by (by kernel_rfl)
noncomputable def b_law (C : Calls) : St :=
    (sSeq (sSet (gV 7) (cCall C i__law_hand (aCons (cV 0) aNil)))
    (sSeq (sSet (gV 8) (cCall C i__law_tax (aCons (cV 7) aNil)))
    (sSeq (sSet (gTupN 2 (gCons (gV 1) (gCons (gV 2) gNil))) (cN oTup (aCons (cCall C i_tax_form (aCons (cV 8) aNil)) (aCons (cCall C i_net_form (aCons (cV 8) aNil)) aNil))))
    (sSeq (sIf (tOr (tNot (tV (cCall C i_is_least (aCons (cV 1) aNil)))) (tOr (tNot (tV (cCall C i_is_least (aCons (cV 2) aNil)))) (tV (c2 oNe (cV 2) (cCall C i_lessened (aCons (cCall C i_form_of (aCons (cN oTup (aCons (cD (.str (PySem.Str.ofString "pieces"))) aNil)) aNil)) (aCons (cV 1) aNil))))))) (sRet (cD (.bl false))) sNx)
    (sSeq (sIf (tNot (tV (cK kAll (aComp [3] (iR1 (cD (.int 300))) (gV 3) tYes (c2 oEq (cCall C i_price_at (aCons (cV 1) (aCons (cV 3) aNil))) (cCall C i__law_due (aCons (cV 8) (aCons (cV 3) aNil)))))))) (sRet (cD (.bl false))) sNx)
    (sSeq (sSet (gV 4) (c2 oAddA (c2 oPow (cD (.int 10)) (cD (.int 18))) (cCall C i__law_draw (aCons (cV 7) (aCons (cD (.int 1000)) aNil)))))
    (sSeq (sIf (tOr (tV (c2 oNe (cCall C i_price_at (aCons (cV 1) (aCons (cV 4) aNil))) (cCall C i__law_due (aCons (cV 8) (aCons (cV 4) aNil))))) (tV (c2 oNe (cCall C i_price_at (aCons (cV 2) (aCons (cV 4) aNil))) (c2 oSub (cV 4) (cCall C i__law_due (aCons (cV 8) (aCons (cV 4) aNil))))))) (sRet (cD (.bl false))) sNx)
    (sSeq (sIf (tOr (tV (c2 oNotNon (cCall C i_never_falls (aCons (cV 2) aNil)) (cD (.non)))) (tOr (tV (c2 oNotNon (cCall C i_never_falls (aCons (cV 1) aNil)) (cD (.non)))) (tNot (tV (cCall C i__law_are_nets_right (aCons (cV 7) (aCons (cV 8) aNil))))))) (sRet (cD (.bl false))) sNx)
    (sSeq (sSet (gV 3) (cCall C i__law_draw (aCons (cV 7) (aCons (cD (.int 200)) aNil))))
    (sSeq (sIf (tV (c2 oGt (cCall C i_gross_for (aCons (cV 8) (aCons (c2 oSub (cV 3) (cCall C i__law_due (aCons (cV 8) (aCons (cV 3) aNil)))) aNil))) (cV 3))) (sRet (cD (.bl false))) sNx)
    (sSeq (sSet (gV 5) (cCall C i_gross_for (aCons (cV 8) (aCons (c2 oSub (cV 4) (cCall C i__law_due (aCons (cV 8) (aCons (cV 4) aNil)))) aNil))))
    (sSeq (sIf (tOr (tV (c2 oGt (cV 5) (cV 4))) (tV (c2 oNe (cCall C i_price_at (aCons (cV 2) (aCons (cV 5) aNil))) (c2 oSub (cV 4) (cCall C i__law_due (aCons (cV 8) (aCons (cV 4) aNil))))))) (sRet (cD (.bl false))) sNx)
    (sSeq (sSet (gV 6) (cNew (aDisp (aCons (cCallL C i__law_word aNil li_law_0 [7]) aNil))))
    (sSeq (sDrop (cM (m1 oAppend) (cV 6) (aCons (cCallL C i__law_word aNil li_law_1 [7, 8]) aNil)))
    (sSeq (sDrop (cM (m1 oAppend) (cV 6) (aCons (cCallL C i__law_word aNil li_law_2 []) aNil)))
    (sRet (cEqL oEq (cV 6) (aDisp (aCons (cD (.str (PySem.Str.ofString "tax"))) (aCons (cD (.str (PySem.Str.ofString "number"))) (aCons (cD (.str (PySem.Str.ofString "tax"))) aNil)))))))))))))))))))))
def N_law : List PySem.Str := [PySem.Str.ofString "script", PySem.Str.ofString "form", PySem.Str.ofString "net", PySem.Str.ofString "n", PySem.Str.ofString "far", PySem.Str.ofString "great", PySem.Str.ofString "words", PySem.Str.ofString "hand", PySem.Str.ofString "tax"]
theorem dn_law (C : Calls) : dSs ⟨N_law, G0, CT0, PySem.Str.ofString "law" ++ ".<locals>."⟩ C 60 ⟨true, true, false, true⟩ (defScope (top 122)) (defBody (top 122)) = some (b_law C) := by kernel_rfl
theorem sc_law : FnScope N_law [PySem.Str.ofString "script"] (defScope (top 122)) := fnsc_by (by kernel_rfl)
noncomputable def defs : List DefP := [⟨PySem.Str.ofString "is_integer", PySem.Str.ofString "is_integer", top 1, N_is_integer, [PySem.Str.ofString "thing"], false, b_is_integer⟩, ⟨PySem.Str.ofString "is_within", PySem.Str.ofString "is_within", top 2, N_is_within, [PySem.Str.ofString "thing", PySem.Str.ofString "low", PySem.Str.ofString "high"], false, b_is_within⟩, ⟨PySem.Str.ofString "is_number", PySem.Str.ofString "is_number", top 3, N_is_number, [PySem.Str.ofString "thing"], false, b_is_number⟩, ⟨PySem.Str.ofString "is_flag", PySem.Str.ofString "is_flag", top 4, N_is_flag, [PySem.Str.ofString "thing"], false, b_is_flag⟩, ⟨PySem.Str.ofString "is_sized", PySem.Str.ofString "is_sized", top 5, N_is_sized, [PySem.Str.ofString "thing", PySem.Str.ofString "least", PySem.Str.ofString "most"], false, b_is_sized⟩, ⟨PySem.Str.ofString "common_part", PySem.Str.ofString "common_part", top 6, N_common_part, [PySem.Str.ofString "one", PySem.Str.ofString "other"], false, b_common_part⟩, ⟨PySem.Str.ofString "common_round", PySem.Str.ofString "common_round", top 7, N_common_round, [PySem.Str.ofString "one", PySem.Str.ofString "other"], false, b_common_round⟩, ⟨PySem.Str.ofString "up_by", PySem.Str.ofString "up_by", top 8, N_up_by, [PySem.Str.ofString "number", PySem.Str.ofString "part"], false, b_up_by⟩, ⟨PySem.Str.ofString "is_form", PySem.Str.ofString "is_form", top 19, N_is_form, [PySem.Str.ofString "thing"], false, b_is_form⟩, ⟨PySem.Str.ofString "check_form", PySem.Str.ofString "check_form", top 20, N_check_form, [PySem.Str.ofString "form"], false, b_check_form⟩, ⟨PySem.Str.ofString "check_two", PySem.Str.ofString "check_two", top 21, N_check_two, [PySem.Str.ofString "form", PySem.Str.ofString "other"], false, b_check_two⟩, ⟨PySem.Str.ofString "check_number", PySem.Str.ofString "check_number", top 22, N_check_number, [PySem.Str.ofString "n"], false, b_check_number⟩, ⟨PySem.Str.ofString "check_width", PySem.Str.ofString "check_width", top 23, N_check_width, [PySem.Str.ofString "begin", PySem.Str.ofString "around"], false, b_check_width⟩, ⟨PySem.Str.ofString "raw_price", PySem.Str.ofString "raw_price", top 24, N_raw_price, [PySem.Str.ofString "form", PySem.Str.ofString "n"], false, b_raw_price⟩, ⟨PySem.Str.ofString "price_at", PySem.Str.ofString "price_at", top 25, N_price_at, [PySem.Str.ofString "form", PySem.Str.ofString "n"], false, b_price_at⟩, ⟨PySem.Str.ofString "does_repeat", PySem.Str.ofString "does_repeat", top 26, N_does_repeat, [PySem.Str.ofString "form", PySem.Str.ofString "begin", PySem.Str.ofString "around", PySem.Str.ofString "rise"], false, b_does_repeat⟩, ⟨PySem.Str.ofString "raw_least", PySem.Str.ofString "raw_least", top 27, N_raw_least, [PySem.Str.ofString "form"], false, b_raw_least⟩, ⟨PySem.Str.ofString "made", PySem.Str.ofString "made", top 28, N_made, [PySem.Str.ofString "begin", PySem.Str.ofString "around", PySem.Str.ofString "rise", PySem.Str.ofString "price_by"], false, b_made⟩, ⟨PySem.Str.ofString "is_least", PySem.Str.ofString "is_least", top 29, N_is_least, [PySem.Str.ofString "form"], false, b_is_least⟩, ⟨PySem.Str.ofString "rise_in", PySem.Str.ofString "rise_in", top 31, N_rise_in, [PySem.Str.ofString "form", PySem.Str.ofString "around"], false, b_rise_in⟩, ⟨PySem.Str.ofString "raw_added", PySem.Str.ofString "raw_added", top 32, N_raw_added, [PySem.Str.ofString "form", PySem.Str.ofString "other"], true, b_raw_added⟩, ⟨PySem.Str.ofString "raw_lessened", PySem.Str.ofString "raw_lessened", top 33, N_raw_lessened, [PySem.Str.ofString "form", PySem.Str.ofString "other"], true, b_raw_lessened⟩, ⟨PySem.Str.ofString "lessened", PySem.Str.ofString "lessened", top 34, N_lessened, [PySem.Str.ofString "form", PySem.Str.ofString "other"], false, b_lessened⟩, ⟨PySem.Str.ofString "won_from", PySem.Str.ofString "won_from", top 35, N_won_from, [PySem.Str.ofString "form", PySem.Str.ofString "other"], false, b_won_from⟩, ⟨PySem.Str.ofString "raw_greater", PySem.Str.ofString "raw_greater", top 36, N_raw_greater, [PySem.Str.ofString "form", PySem.Str.ofString "other"], true, b_raw_greater⟩, ⟨PySem.Str.ofString "turned", PySem.Str.ofString "turned", top 37, N_turned, [PySem.Str.ofString "form"], false, b_turned⟩, ⟨PySem.Str.ofString "raw_lesser", PySem.Str.ofString "raw_lesser", top 38, N_raw_lesser, [PySem.Str.ofString "form", PySem.Str.ofString "other"], false, b_raw_lesser⟩, ⟨PySem.Str.ofString "raw_scaled", PySem.Str.ofString "raw_scaled", top 39, N_raw_scaled, [PySem.Str.ofString "form", PySem.Str.ofString "k"], true, b_raw_scaled⟩, ⟨PySem.Str.ofString "raw_shared", PySem.Str.ofString "raw_shared", top 40, N_raw_shared, [PySem.Str.ofString "form", PySem.Str.ofString "k"], true, b_raw_shared⟩, ⟨PySem.Str.ofString "raw_left", PySem.Str.ofString "raw_left", top 41, N_raw_left, [PySem.Str.ofString "form", PySem.Str.ofString "k"], true, b_raw_left⟩, ⟨PySem.Str.ofString "raw_moved", PySem.Str.ofString "raw_moved", top 42, N_raw_moved, [PySem.Str.ofString "form", PySem.Str.ofString "k"], true, b_raw_moved⟩, ⟨PySem.Str.ofString "raw_packed", PySem.Str.ofString "raw_packed", top 43, N_raw_packed, [PySem.Str.ofString "form", PySem.Str.ofString "k"], true, b_raw_packed⟩, ⟨PySem.Str.ofString "raw_unpacked", PySem.Str.ofString "raw_unpacked", top 44, N_raw_unpacked, [PySem.Str.ofString "form", PySem.Str.ofString "k"], true, b_raw_unpacked⟩, ⟨PySem.Str.ofString "raw_change", PySem.Str.ofString "raw_change", top 45, N_raw_change, [PySem.Str.ofString "form"], true, b_raw_change⟩, ⟨PySem.Str.ofString "running", PySem.Str.ofString "running", top 46, N_running, [PySem.Str.ofString "form", PySem.Str.ofString "many"], false, b_running⟩, ⟨PySem.Str.ofString "raw_highest", PySem.Str.ofString "raw_highest", top 47, N_raw_highest, [PySem.Str.ofString "form"], true, b_raw_highest⟩, ⟨PySem.Str.ofString "raw_lowest", PySem.Str.ofString "raw_lowest", top 48, N_raw_lowest, [PySem.Str.ofString "form"], false, b_raw_lowest⟩, ⟨PySem.Str.ofString "raw_within", PySem.Str.ofString "raw_within", top 49, N_raw_within, [PySem.Str.ofString "form", PySem.Str.ofString "k"], true, b_raw_within⟩, ⟨PySem.Str.ofString "split_from", PySem.Str.ofString "split_from", top 50, N_split_from, [PySem.Str.ofString "form", PySem.Str.ofString "other"], false, b_split_from⟩, ⟨PySem.Str.ofString "split_at", PySem.Str.ofString "split_at", top 51, N_split_at, [PySem.Str.ofString "ones", PySem.Str.ofString "others", PySem.Str.ofString "n"], false, b_split_at⟩, ⟨PySem.Str.ofString "raw_split", PySem.Str.ofString "raw_split", top 52, N_raw_split, [PySem.Str.ofString "form", PySem.Str.ofString "other"], true, b_raw_split⟩, ⟨PySem.Str.ofString "is_listed", PySem.Str.ofString "is_listed", top 63, N_is_listed, [PySem.Str.ofString "thing"], false, b_is_listed⟩, ⟨PySem.Str.ofString "is_node", PySem.Str.ofString "is_node", top 64, N_is_node, [PySem.Str.ofString "thing"], false, b_is_node⟩, ⟨PySem.Str.ofString "raw_parts", PySem.Str.ofString "raw_parts", top 65, N_raw_parts, [PySem.Str.ofString "rule"], false, b_raw_parts⟩, ⟨PySem.Str.ofString "raw_is_rule", PySem.Str.ofString "raw_is_rule", top 66, N_raw_is_rule, [PySem.Str.ofString "thing"], false, b_raw_is_rule⟩, ⟨PySem.Str.ofString "check_rule", PySem.Str.ofString "check_rule", top 67, N_check_rule, [PySem.Str.ofString "rule"], false, b_check_rule⟩, ⟨PySem.Str.ofString "raw_nodes", PySem.Str.ofString "raw_nodes", top 68, N_raw_nodes, [PySem.Str.ofString "rule"], false, b_raw_nodes⟩, ⟨PySem.Str.ofString "are_bands", PySem.Str.ofString "are_bands", top 73, N_are_bands, [PySem.Str.ofString "thing"], false, b_are_bands⟩, ⟨PySem.Str.ofString "raw_band", PySem.Str.ofString "raw_band", top 74, N_raw_band, [PySem.Str.ofString "bands", PySem.Str.ofString "n"], false, b_raw_band⟩, ⟨PySem.Str.ofString "raw_bands_form", PySem.Str.ofString "raw_bands_form", top 75, N_raw_bands_form, [PySem.Str.ofString "bands"], true, b_raw_bands_form⟩, ⟨PySem.Str.ofString "is_set", PySem.Str.ofString "is_set", top 77, N_is_set, [PySem.Str.ofString "thing"], false, b_is_set⟩, ⟨PySem.Str.ofString "check_set", PySem.Str.ofString "check_set", top 78, N_check_set, [PySem.Str.ofString "told"], false, b_check_set⟩, ⟨PySem.Str.ofString "raw_has", PySem.Str.ofString "raw_has", top 79, N_raw_has, [PySem.Str.ofString "told", PySem.Str.ofString "n"], false, b_raw_has⟩, ⟨PySem.Str.ofString "has", PySem.Str.ofString "has", top 80, N_has, [PySem.Str.ofString "told", PySem.Str.ofString "n"], false, b_has⟩, ⟨PySem.Str.ofString "raw_least_set", PySem.Str.ofString "raw_least_set", top 81, N_raw_least_set, [PySem.Str.ofString "told"], false, b_raw_least_set⟩, ⟨PySem.Str.ofString "least_set", PySem.Str.ofString "least_set", top 82, N_least_set, [PySem.Str.ofString "told"], false, b_least_set⟩, ⟨PySem.Str.ofString "made_set", PySem.Str.ofString "made_set", top 83, N_made_set, [PySem.Str.ofString "begin", PySem.Str.ofString "around", PySem.Str.ofString "does_have"], false, b_made_set⟩, ⟨PySem.Str.ofString "signed_from", PySem.Str.ofString "signed_from", top 84, N_signed_from, [PySem.Str.ofString "form", PySem.Str.ofString "other"], false, b_signed_from⟩, ⟨PySem.Str.ofString "raw_where_less", PySem.Str.ofString "raw_where_less", top 85, N_raw_where_less, [PySem.Str.ofString "form", PySem.Str.ofString "other"], true, b_raw_where_less⟩, ⟨PySem.Str.ofString "raw_most", PySem.Str.ofString "raw_most", top 87, N_raw_most, [PySem.Str.ofString "form", PySem.Str.ofString "budget"], false, b_raw_most⟩, ⟨PySem.Str.ofString "least_in", PySem.Str.ofString "least_in", top 89, N_least_in, [PySem.Str.ofString "told"], false, b_least_in⟩, ⟨PySem.Str.ofString "flat", PySem.Str.ofString "flat", top 90, N_flat, [PySem.Str.ofString "price"], false, b_flat⟩, ⟨PySem.Str.ofString "raw_falls", PySem.Str.ofString "raw_falls", top 91, N_raw_falls, [PySem.Str.ofString "form"], false, b_raw_falls⟩, ⟨PySem.Str.ofString "never_falls", PySem.Str.ofString "never_falls", top 92, N_never_falls, [PySem.Str.ofString "form"], false, b_never_falls⟩, ⟨PySem.Str.ofString "leaf_form", PySem.Str.ofString "leaf_form", top 94, N_leaf_form, [PySem.Str.ofString "rule"], false, b_leaf_form⟩, ⟨PySem.Str.ofString "raw_into", PySem.Str.ofString "raw_into", top 95, N_raw_into, [PySem.Str.ofString "form", PySem.Str.ofString "other"], true, b_raw_into⟩, ⟨PySem.Str.ofString "joined_by", PySem.Str.ofString "joined_by", top 96, N_joined_by, [PySem.Str.ofString "word", PySem.Str.ofString "one", PySem.Str.ofString "other"], false, b_joined_by⟩, ⟨PySem.Str.ofString "counted_by", PySem.Str.ofString "counted_by", top 97, N_counted_by, [PySem.Str.ofString "word", PySem.Str.ofString "k", PySem.Str.ofString "one"], false, b_counted_by⟩, ⟨PySem.Str.ofString "form_by", PySem.Str.ofString "form_by", top 98, N_form_by, [PySem.Str.ofString "rule", PySem.Str.ofString "parts"], false, b_form_by⟩, ⟨PySem.Str.ofString "raw_forms", PySem.Str.ofString "raw_forms", top 99, N_raw_forms, [PySem.Str.ofString "rule"], false, b_raw_forms⟩, ⟨PySem.Str.ofString "raw_form", PySem.Str.ofString "raw_form", top 100, N_raw_form, [PySem.Str.ofString "rule"], false, b_raw_form⟩, ⟨PySem.Str.ofString "form_of", PySem.Str.ofString "form_of", top 101, N_form_of, [PySem.Str.ofString "rule"], false, b_form_of⟩, ⟨PySem.Str.ofString "check_tax", PySem.Str.ofString "check_tax", top 106, N_check_tax, [PySem.Str.ofString "tax"], false, b_check_tax⟩, ⟨PySem.Str.ofString "raw_tax", PySem.Str.ofString "raw_tax", top 107, N_raw_tax, [PySem.Str.ofString "tax"], true, b_raw_tax⟩, ⟨PySem.Str.ofString "tax_form", PySem.Str.ofString "tax_form", top 108, N_tax_form, [PySem.Str.ofString "tax"], false, b_tax_form⟩, ⟨PySem.Str.ofString "raw_net", PySem.Str.ofString "raw_net", top 109, N_raw_net, [PySem.Str.ofString "tax"], false, b_raw_net⟩, ⟨PySem.Str.ofString "net_form", PySem.Str.ofString "net_form", top 110, N_net_form, [PySem.Str.ofString "tax"], false, b_net_form⟩, ⟨PySem.Str.ofString "raw_gross", PySem.Str.ofString "raw_gross", top 111, N_raw_gross, [PySem.Str.ofString "form", PySem.Str.ofString "net"], false, b_raw_gross⟩, ⟨PySem.Str.ofString "gross_for", PySem.Str.ofString "gross_for", top 112, N_gross_for, [PySem.Str.ofString "tax", PySem.Str.ofString "net"], false, b_gross_for⟩, ⟨PySem.Str.ofString "net_set", PySem.Str.ofString "net_set", top 113, N_net_set, [PySem.Str.ofString "tax"], true, b_net_set⟩, ⟨PySem.Str.ofString "_law_hand", PySem.Str.ofString "_law_hand", top 115, N__law_hand, [PySem.Str.ofString "script"], false, b__law_hand⟩, ⟨PySem.Str.ofString "_law_draw", PySem.Str.ofString "_law_draw", top 116, N__law_draw, [PySem.Str.ofString "hand", PySem.Str.ofString "many"], false, b__law_draw⟩, ⟨PySem.Str.ofString "_law_any", PySem.Str.ofString "_law_any", top 117, N__law_any, [PySem.Str.ofString "hand", PySem.Str.ofString "some"], false, b__law_any⟩, ⟨PySem.Str.ofString "_law_tax", PySem.Str.ofString "_law_tax", top 118, N__law_tax, [PySem.Str.ofString "hand"], false, b__law_tax⟩, ⟨PySem.Str.ofString "_law_due", PySem.Str.ofString "_law_due", top 119, N__law_due, [PySem.Str.ofString "tax", PySem.Str.ofString "n"], false, b__law_due⟩, ⟨PySem.Str.ofString "_law_word", PySem.Str.ofString "_law_word", top 120, N__law_word, [PySem.Str.ofString "call"], false, b__law_word⟩, ⟨PySem.Str.ofString "_law_are_nets_right", PySem.Str.ofString "_law_are_nets_right", top 121, N__law_are_nets_right, [PySem.Str.ofString "hand", PySem.Str.ofString "tax"], false, b__law_are_nets_right⟩, ⟨PySem.Str.ofString "law", PySem.Str.ofString "law", top 122, N_law, [PySem.Str.ofString "script"], true, b_law⟩]
noncomputable def Pg : Prg := ⟨defs, G0, CT0⟩
theorem fe_is_integer (k : Nat) (ds : List D) (S : Store) : (Cs Pg (k + 1)).f i_is_integer ds S = gcR S (runB (b_is_integer (Cs Pg k)) 1 1 ds S) := rfl
theorem fe_is_within (k : Nat) (ds : List D) (S : Store) : (Cs Pg (k + 1)).f i_is_within ds S = gcR S (runB (b_is_within (Cs Pg k)) 3 3 ds S) := rfl
theorem fe_is_number (k : Nat) (ds : List D) (S : Store) : (Cs Pg (k + 1)).f i_is_number ds S = gcR S (runB (b_is_number (Cs Pg k)) 1 1 ds S) := rfl
theorem fe_is_flag (k : Nat) (ds : List D) (S : Store) : (Cs Pg (k + 1)).f i_is_flag ds S = gcR S (runB (b_is_flag (Cs Pg k)) 1 1 ds S) := rfl
theorem fe_is_sized (k : Nat) (ds : List D) (S : Store) : (Cs Pg (k + 1)).f i_is_sized ds S = gcR S (runB (b_is_sized (Cs Pg k)) 3 3 ds S) := rfl
theorem fe_common_part (k : Nat) (ds : List D) (S : Store) : (Cs Pg (k + 1)).f i_common_part ds S = gcR S (runB (b_common_part (Cs Pg k)) 2 2 ds S) := rfl
theorem fe_common_round (k : Nat) (ds : List D) (S : Store) : (Cs Pg (k + 1)).f i_common_round ds S = gcR S (runB (b_common_round (Cs Pg k)) 2 2 ds S) := rfl
theorem fe_up_by (k : Nat) (ds : List D) (S : Store) : (Cs Pg (k + 1)).f i_up_by ds S = gcR S (runB (b_up_by (Cs Pg k)) 2 2 ds S) := rfl
theorem fe_is_form (k : Nat) (ds : List D) (S : Store) : (Cs Pg (k + 1)).f i_is_form ds S = gcR S (runB (b_is_form (Cs Pg k)) 3 1 ds S) := rfl
theorem fe_check_form (k : Nat) (ds : List D) (S : Store) : (Cs Pg (k + 1)).f i_check_form ds S = gcR S (runB (b_check_form (Cs Pg k)) 1 1 ds S) := rfl
theorem fe_check_two (k : Nat) (ds : List D) (S : Store) : (Cs Pg (k + 1)).f i_check_two ds S = gcR S (runB (b_check_two (Cs Pg k)) 2 2 ds S) := rfl
theorem fe_check_number (k : Nat) (ds : List D) (S : Store) : (Cs Pg (k + 1)).f i_check_number ds S = gcR S (runB (b_check_number (Cs Pg k)) 1 1 ds S) := rfl
theorem fe_check_width (k : Nat) (ds : List D) (S : Store) : (Cs Pg (k + 1)).f i_check_width ds S = gcR S (runB (b_check_width (Cs Pg k)) 2 2 ds S) := rfl
theorem fe_raw_price (k : Nat) (ds : List D) (S : Store) : (Cs Pg (k + 1)).f i_raw_price ds S = gcR S (runB (b_raw_price (Cs Pg k)) 6 2 ds S) := rfl
theorem fe_price_at (k : Nat) (ds : List D) (S : Store) : (Cs Pg (k + 1)).f i_price_at ds S = gcR S (runB (b_price_at (Cs Pg k)) 2 2 ds S) := rfl
theorem fe_does_repeat (k : Nat) (ds : List D) (S : Store) : (Cs Pg (k + 1)).f i_does_repeat ds S = gcR S (runB (b_does_repeat (Cs Pg k)) 6 4 ds S) := rfl
theorem fe_raw_least (k : Nat) (ds : List D) (S : Store) : (Cs Pg (k + 1)).f i_raw_least ds S = gcR S (runB (b_raw_least (Cs Pg k)) 9 1 ds S) := rfl
theorem fe_made (k : Nat) (ds : List D) (S : Store) : (Cs Pg (k + 1)).f i_made ds S = gcR S (runB (b_made (Cs Pg k)) 5 4 ds S) := rfl
theorem fe_is_least (k : Nat) (ds : List D) (S : Store) : (Cs Pg (k + 1)).f i_is_least ds S = gcR S (runB (b_is_least (Cs Pg k)) 1 1 ds S) := rfl
theorem fe_rise_in (k : Nat) (ds : List D) (S : Store) : (Cs Pg (k + 1)).f i_rise_in ds S = gcR S (runB (b_rise_in (Cs Pg k)) 2 2 ds S) := rfl
theorem fe_raw_added (k : Nat) (ds : List D) (S : Store) : (Cs Pg (k + 1)).f i_raw_added ds S = gcR S (runB (b_raw_added (Cs Pg k)) 4 2 ds S) := rfl
theorem fe_raw_lessened (k : Nat) (ds : List D) (S : Store) : (Cs Pg (k + 1)).f i_raw_lessened ds S = gcR S (runB (b_raw_lessened (Cs Pg k)) 4 2 ds S) := rfl
theorem fe_lessened (k : Nat) (ds : List D) (S : Store) : (Cs Pg (k + 1)).f i_lessened ds S = gcR S (runB (b_lessened (Cs Pg k)) 2 2 ds S) := rfl
theorem fe_won_from (k : Nat) (ds : List D) (S : Store) : (Cs Pg (k + 1)).f i_won_from ds S = gcR S (runB (b_won_from (Cs Pg k)) 7 2 ds S) := rfl
theorem fe_raw_greater (k : Nat) (ds : List D) (S : Store) : (Cs Pg (k + 1)).f i_raw_greater ds S = gcR S (runB (b_raw_greater (Cs Pg k)) 8 2 ds S) := rfl
theorem fe_turned (k : Nat) (ds : List D) (S : Store) : (Cs Pg (k + 1)).f i_turned ds S = gcR S (runB (b_turned (Cs Pg k)) 2 1 ds S) := rfl
theorem fe_raw_lesser (k : Nat) (ds : List D) (S : Store) : (Cs Pg (k + 1)).f i_raw_lesser ds S = gcR S (runB (b_raw_lesser (Cs Pg k)) 2 2 ds S) := rfl
theorem fe_raw_scaled (k : Nat) (ds : List D) (S : Store) : (Cs Pg (k + 1)).f i_raw_scaled ds S = gcR S (runB (b_raw_scaled (Cs Pg k)) 2 2 ds S) := rfl
theorem fe_raw_shared (k : Nat) (ds : List D) (S : Store) : (Cs Pg (k + 1)).f i_raw_shared ds S = gcR S (runB (b_raw_shared (Cs Pg k)) 2 2 ds S) := rfl
theorem fe_raw_left (k : Nat) (ds : List D) (S : Store) : (Cs Pg (k + 1)).f i_raw_left ds S = gcR S (runB (b_raw_left (Cs Pg k)) 2 2 ds S) := rfl
theorem fe_raw_moved (k : Nat) (ds : List D) (S : Store) : (Cs Pg (k + 1)).f i_raw_moved ds S = gcR S (runB (b_raw_moved (Cs Pg k)) 2 2 ds S) := rfl
theorem fe_raw_packed (k : Nat) (ds : List D) (S : Store) : (Cs Pg (k + 1)).f i_raw_packed ds S = gcR S (runB (b_raw_packed (Cs Pg k)) 2 2 ds S) := rfl
theorem fe_raw_unpacked (k : Nat) (ds : List D) (S : Store) : (Cs Pg (k + 1)).f i_raw_unpacked ds S = gcR S (runB (b_raw_unpacked (Cs Pg k)) 3 2 ds S) := rfl
theorem fe_raw_change (k : Nat) (ds : List D) (S : Store) : (Cs Pg (k + 1)).f i_raw_change ds S = gcR S (runB (b_raw_change (Cs Pg k)) 1 1 ds S) := rfl
theorem fe_running (k : Nat) (ds : List D) (S : Store) : (Cs Pg (k + 1)).f i_running ds S = gcR S (runB (b_running (Cs Pg k)) 4 2 ds S) := rfl
theorem fe_raw_highest (k : Nat) (ds : List D) (S : Store) : (Cs Pg (k + 1)).f i_raw_highest ds S = gcR S (runB (b_raw_highest (Cs Pg k)) 7 1 ds S) := rfl
theorem fe_raw_lowest (k : Nat) (ds : List D) (S : Store) : (Cs Pg (k + 1)).f i_raw_lowest ds S = gcR S (runB (b_raw_lowest (Cs Pg k)) 1 1 ds S) := rfl
theorem fe_raw_within (k : Nat) (ds : List D) (S : Store) : (Cs Pg (k + 1)).f i_raw_within ds S = gcR S (runB (b_raw_within (Cs Pg k)) 2 2 ds S) := rfl
theorem fe_split_from (k : Nat) (ds : List D) (S : Store) : (Cs Pg (k + 1)).f i_split_from ds S = gcR S (runB (b_split_from (Cs Pg k)) 11 2 ds S) := rfl
theorem fe_split_at (k : Nat) (ds : List D) (S : Store) : (Cs Pg (k + 1)).f i_split_at ds S = gcR S (runB (b_split_at (Cs Pg k)) 5 3 ds S) := rfl
theorem fe_raw_split (k : Nat) (ds : List D) (S : Store) : (Cs Pg (k + 1)).f i_raw_split ds S = gcR S (runB (b_raw_split (Cs Pg k)) 12 2 ds S) := rfl
theorem fe_is_listed (k : Nat) (ds : List D) (S : Store) : (Cs Pg (k + 1)).f i_is_listed ds S = gcR S (runB (b_is_listed (Cs Pg k)) 5 1 ds S) := rfl
theorem fe_is_node (k : Nat) (ds : List D) (S : Store) : (Cs Pg (k + 1)).f i_is_node ds S = gcR S (runB (b_is_node (Cs Pg k)) 2 1 ds S) := rfl
theorem fe_raw_parts (k : Nat) (ds : List D) (S : Store) : (Cs Pg (k + 1)).f i_raw_parts ds S = gcR S (runB (b_raw_parts (Cs Pg k)) 2 1 ds S) := rfl
theorem fe_raw_is_rule (k : Nat) (ds : List D) (S : Store) : (Cs Pg (k + 1)).f i_raw_is_rule ds S = gcR S (runB (b_raw_is_rule (Cs Pg k)) 6 1 ds S) := rfl
theorem fe_check_rule (k : Nat) (ds : List D) (S : Store) : (Cs Pg (k + 1)).f i_check_rule ds S = gcR S (runB (b_check_rule (Cs Pg k)) 1 1 ds S) := rfl
theorem fe_raw_nodes (k : Nat) (ds : List D) (S : Store) : (Cs Pg (k + 1)).f i_raw_nodes ds S = gcR S (runB (b_raw_nodes (Cs Pg k)) 7 1 ds S) := rfl
theorem fe_are_bands (k : Nat) (ds : List D) (S : Store) : (Cs Pg (k + 1)).f i_are_bands ds S = gcR S (runB (b_are_bands (Cs Pg k)) 3 1 ds S) := rfl
theorem fe_raw_band (k : Nat) (ds : List D) (S : Store) : (Cs Pg (k + 1)).f i_raw_band ds S = gcR S (runB (b_raw_band (Cs Pg k)) 3 2 ds S) := rfl
theorem fe_raw_bands_form (k : Nat) (ds : List D) (S : Store) : (Cs Pg (k + 1)).f i_raw_bands_form ds S = gcR S (runB (b_raw_bands_form (Cs Pg k)) 4 1 ds S) := rfl
theorem fe_is_set (k : Nat) (ds : List D) (S : Store) : (Cs Pg (k + 1)).f i_is_set ds S = gcR S (runB (b_is_set (Cs Pg k)) 3 1 ds S) := rfl
theorem fe_check_set (k : Nat) (ds : List D) (S : Store) : (Cs Pg (k + 1)).f i_check_set ds S = gcR S (runB (b_check_set (Cs Pg k)) 1 1 ds S) := rfl
theorem fe_raw_has (k : Nat) (ds : List D) (S : Store) : (Cs Pg (k + 1)).f i_raw_has ds S = gcR S (runB (b_raw_has (Cs Pg k)) 5 2 ds S) := rfl
theorem fe_has (k : Nat) (ds : List D) (S : Store) : (Cs Pg (k + 1)).f i_has ds S = gcR S (runB (b_has (Cs Pg k)) 2 2 ds S) := rfl
theorem fe_raw_least_set (k : Nat) (ds : List D) (S : Store) : (Cs Pg (k + 1)).f i_raw_least_set ds S = gcR S (runB (b_raw_least_set (Cs Pg k)) 8 1 ds S) := rfl
theorem fe_least_set (k : Nat) (ds : List D) (S : Store) : (Cs Pg (k + 1)).f i_least_set ds S = gcR S (runB (b_least_set (Cs Pg k)) 1 1 ds S) := rfl
theorem fe_made_set (k : Nat) (ds : List D) (S : Store) : (Cs Pg (k + 1)).f i_made_set ds S = gcR S (runB (b_made_set (Cs Pg k)) 4 3 ds S) := rfl
theorem fe_signed_from (k : Nat) (ds : List D) (S : Store) : (Cs Pg (k + 1)).f i_signed_from ds S = gcR S (runB (b_signed_from (Cs Pg k)) 8 2 ds S) := rfl
theorem fe_raw_where_less (k : Nat) (ds : List D) (S : Store) : (Cs Pg (k + 1)).f i_raw_where_less ds S = gcR S (runB (b_raw_where_less (Cs Pg k)) 4 2 ds S) := rfl
theorem fe_raw_most (k : Nat) (ds : List D) (S : Store) : (Cs Pg (k + 1)).f i_raw_most ds S = gcR S (runB (b_raw_most (Cs Pg k)) 9 2 ds S) := rfl
theorem fe_least_in (k : Nat) (ds : List D) (S : Store) : (Cs Pg (k + 1)).f i_least_in ds S = gcR S (runB (b_least_in (Cs Pg k)) 1 1 ds S) := rfl
theorem fe_flat (k : Nat) (ds : List D) (S : Store) : (Cs Pg (k + 1)).f i_flat ds S = gcR S (runB (b_flat (Cs Pg k)) 1 1 ds S) := rfl
theorem fe_raw_falls (k : Nat) (ds : List D) (S : Store) : (Cs Pg (k + 1)).f i_raw_falls ds S = gcR S (runB (b_raw_falls (Cs Pg k)) 1 1 ds S) := rfl
theorem fe_never_falls (k : Nat) (ds : List D) (S : Store) : (Cs Pg (k + 1)).f i_never_falls ds S = gcR S (runB (b_never_falls (Cs Pg k)) 1 1 ds S) := rfl
theorem fe_leaf_form (k : Nat) (ds : List D) (S : Store) : (Cs Pg (k + 1)).f i_leaf_form ds S = gcR S (runB (b_leaf_form (Cs Pg k)) 2 1 ds S) := rfl
theorem fe_raw_into (k : Nat) (ds : List D) (S : Store) : (Cs Pg (k + 1)).f i_raw_into ds S = gcR S (runB (b_raw_into (Cs Pg k)) 9 2 ds S) := rfl
theorem fe_joined_by (k : Nat) (ds : List D) (S : Store) : (Cs Pg (k + 1)).f i_joined_by ds S = gcR S (runB (b_joined_by (Cs Pg k)) 3 3 ds S) := rfl
theorem fe_counted_by (k : Nat) (ds : List D) (S : Store) : (Cs Pg (k + 1)).f i_counted_by ds S = gcR S (runB (b_counted_by (Cs Pg k)) 3 3 ds S) := rfl
theorem fe_form_by (k : Nat) (ds : List D) (S : Store) : (Cs Pg (k + 1)).f i_form_by ds S = gcR S (runB (b_form_by (Cs Pg k)) 3 2 ds S) := rfl
theorem fe_raw_forms (k : Nat) (ds : List D) (S : Store) : (Cs Pg (k + 1)).f i_raw_forms ds S = gcR S (runB (b_raw_forms (Cs Pg k)) 5 1 ds S) := rfl
theorem fe_raw_form (k : Nat) (ds : List D) (S : Store) : (Cs Pg (k + 1)).f i_raw_form ds S = gcR S (runB (b_raw_form (Cs Pg k)) 1 1 ds S) := rfl
theorem fe_form_of (k : Nat) (ds : List D) (S : Store) : (Cs Pg (k + 1)).f i_form_of ds S = gcR S (runB (b_form_of (Cs Pg k)) 1 1 ds S) := rfl
theorem fe_check_tax (k : Nat) (ds : List D) (S : Store) : (Cs Pg (k + 1)).f i_check_tax ds S = gcR S (runB (b_check_tax (Cs Pg k)) 3 1 ds S) := rfl
theorem fe_raw_tax (k : Nat) (ds : List D) (S : Store) : (Cs Pg (k + 1)).f i_raw_tax ds S = gcR S (runB (b_raw_tax (Cs Pg k)) 2 1 ds S) := rfl
theorem fe_tax_form (k : Nat) (ds : List D) (S : Store) : (Cs Pg (k + 1)).f i_tax_form ds S = gcR S (runB (b_tax_form (Cs Pg k)) 1 1 ds S) := rfl
theorem fe_raw_net (k : Nat) (ds : List D) (S : Store) : (Cs Pg (k + 1)).f i_raw_net ds S = gcR S (runB (b_raw_net (Cs Pg k)) 1 1 ds S) := rfl
theorem fe_net_form (k : Nat) (ds : List D) (S : Store) : (Cs Pg (k + 1)).f i_net_form ds S = gcR S (runB (b_net_form (Cs Pg k)) 1 1 ds S) := rfl
theorem fe_raw_gross (k : Nat) (ds : List D) (S : Store) : (Cs Pg (k + 1)).f i_raw_gross ds S = gcR S (runB (b_raw_gross (Cs Pg k)) 2 2 ds S) := rfl
theorem fe_gross_for (k : Nat) (ds : List D) (S : Store) : (Cs Pg (k + 1)).f i_gross_for ds S = gcR S (runB (b_gross_for (Cs Pg k)) 2 2 ds S) := rfl
theorem fe_net_set (k : Nat) (ds : List D) (S : Store) : (Cs Pg (k + 1)).f i_net_set ds S = gcR S (runB (b_net_set (Cs Pg k)) 2 1 ds S) := rfl
theorem fe__law_hand (k : Nat) (ds : List D) (S : Store) : (Cs Pg (k + 1)).f i__law_hand ds S = gcR S (runB (b__law_hand (Cs Pg k)) 3 1 ds S) := rfl
theorem fe__law_draw (k : Nat) (ds : List D) (S : Store) : (Cs Pg (k + 1)).f i__law_draw ds S = gcR S (runB (b__law_draw (Cs Pg k)) 5 2 ds S) := rfl
theorem fe__law_any (k : Nat) (ds : List D) (S : Store) : (Cs Pg (k + 1)).f i__law_any ds S = gcR S (runB (b__law_any (Cs Pg k)) 2 2 ds S) := rfl
theorem fe__law_tax (k : Nat) (ds : List D) (S : Store) : (Cs Pg (k + 1)).f i__law_tax ds S = gcR S (runB (b__law_tax (Cs Pg k)) 4 1 ds S) := rfl
theorem fe__law_due (k : Nat) (ds : List D) (S : Store) : (Cs Pg (k + 1)).f i__law_due ds S = gcR S (runB (b__law_due (Cs Pg k)) 7 2 ds S) := rfl
theorem fe__law_word (k : Nat) (ds : List D) (S : Store) : (Cs Pg (k + 1)).f i__law_word ds S = gcR S (runB (b__law_word (Cs Pg k)) 3 1 ds S) := rfl
theorem fe__law_are_nets_right (k : Nat) (ds : List D) (S : Store) : (Cs Pg (k + 1)).f i__law_are_nets_right ds S = gcR S (runB (b__law_are_nets_right (Cs Pg k)) 9 2 ds S) := rfl
theorem fe_law (k : Nat) (ds : List D) (S : Store) : (Cs Pg (k + 1)).f i_law ds S = gcR S (runB (b_law (Cs Pg k)) 9 1 ds S) := rfl
theorem le_raw_added_0 (k : Nat) (caps args : List D) (S : Store) (hc : isDs caps = true) (ha : isDs args = true) (hl : args.length = li_raw_added_0.ps.length) : (Cs Pg (k + 1)).l li_raw_added_0 caps args S = okR (lc_raw_added_0 (Cs Pg k) (lamStart li_raw_added_0 args caps) S) := cs_l Pg lb_raw_added_0 (ld_raw_added_0 _) hc ha hl
theorem lN_raw_added_0 : li_raw_added_0.N.length = 3 := by kernel_rfl
theorem lp_raw_added_0 : li_raw_added_0.ps.length = 1 := by kernel_rfl
theorem le_raw_lessened_0 (k : Nat) (caps args : List D) (S : Store) (hc : isDs caps = true) (ha : isDs args = true) (hl : args.length = li_raw_lessened_0.ps.length) : (Cs Pg (k + 1)).l li_raw_lessened_0 caps args S = okR (lc_raw_lessened_0 (Cs Pg k) (lamStart li_raw_lessened_0 args caps) S) := cs_l Pg lb_raw_lessened_0 (ld_raw_lessened_0 _) hc ha hl
theorem lN_raw_lessened_0 : li_raw_lessened_0.N.length = 3 := by kernel_rfl
theorem lp_raw_lessened_0 : li_raw_lessened_0.ps.length = 1 := by kernel_rfl
theorem le_raw_greater_0 (k : Nat) (caps args : List D) (S : Store) (hc : isDs caps = true) (ha : isDs args = true) (hl : args.length = li_raw_greater_0.ps.length) : (Cs Pg (k + 1)).l li_raw_greater_0 caps args S = okR (lc_raw_greater_0 (Cs Pg k) (lamStart li_raw_greater_0 args caps) S) := cs_l Pg lb_raw_greater_0 (ld_raw_greater_0 _) hc ha hl
theorem lN_raw_greater_0 : li_raw_greater_0.N.length = 3 := by kernel_rfl
theorem lp_raw_greater_0 : li_raw_greater_0.ps.length = 1 := by kernel_rfl
theorem le_raw_greater_1 (k : Nat) (caps args : List D) (S : Store) (hc : isDs caps = true) (ha : isDs args = true) (hl : args.length = li_raw_greater_1.ps.length) : (Cs Pg (k + 1)).l li_raw_greater_1 caps args S = okR (lc_raw_greater_1 (Cs Pg k) (lamStart li_raw_greater_1 args caps) S) := cs_l Pg lb_raw_greater_1 (ld_raw_greater_1 _) hc ha hl
theorem lN_raw_greater_1 : li_raw_greater_1.N.length = 3 := by kernel_rfl
theorem lp_raw_greater_1 : li_raw_greater_1.ps.length = 1 := by kernel_rfl
theorem le_raw_scaled_0 (k : Nat) (caps args : List D) (S : Store) (hc : isDs caps = true) (ha : isDs args = true) (hl : args.length = li_raw_scaled_0.ps.length) : (Cs Pg (k + 1)).l li_raw_scaled_0 caps args S = okR (lc_raw_scaled_0 (Cs Pg k) (lamStart li_raw_scaled_0 args caps) S) := cs_l Pg lb_raw_scaled_0 (ld_raw_scaled_0 _) hc ha hl
theorem lN_raw_scaled_0 : li_raw_scaled_0.N.length = 3 := by kernel_rfl
theorem lp_raw_scaled_0 : li_raw_scaled_0.ps.length = 1 := by kernel_rfl
theorem le_raw_shared_0 (k : Nat) (caps args : List D) (S : Store) (hc : isDs caps = true) (ha : isDs args = true) (hl : args.length = li_raw_shared_0.ps.length) : (Cs Pg (k + 1)).l li_raw_shared_0 caps args S = okR (lc_raw_shared_0 (Cs Pg k) (lamStart li_raw_shared_0 args caps) S) := cs_l Pg lb_raw_shared_0 (ld_raw_shared_0 _) hc ha hl
theorem lN_raw_shared_0 : li_raw_shared_0.N.length = 3 := by kernel_rfl
theorem lp_raw_shared_0 : li_raw_shared_0.ps.length = 1 := by kernel_rfl
theorem le_raw_left_0 (k : Nat) (caps args : List D) (S : Store) (hc : isDs caps = true) (ha : isDs args = true) (hl : args.length = li_raw_left_0.ps.length) : (Cs Pg (k + 1)).l li_raw_left_0 caps args S = okR (lc_raw_left_0 (Cs Pg k) (lamStart li_raw_left_0 args caps) S) := cs_l Pg lb_raw_left_0 (ld_raw_left_0 _) hc ha hl
theorem lN_raw_left_0 : li_raw_left_0.N.length = 3 := by kernel_rfl
theorem lp_raw_left_0 : li_raw_left_0.ps.length = 1 := by kernel_rfl
theorem le_raw_moved_0 (k : Nat) (caps args : List D) (S : Store) (hc : isDs caps = true) (ha : isDs args = true) (hl : args.length = li_raw_moved_0.ps.length) : (Cs Pg (k + 1)).l li_raw_moved_0 caps args S = okR (lc_raw_moved_0 (Cs Pg k) (lamStart li_raw_moved_0 args caps) S) := cs_l Pg lb_raw_moved_0 (ld_raw_moved_0 _) hc ha hl
theorem lN_raw_moved_0 : li_raw_moved_0.N.length = 3 := by kernel_rfl
theorem lp_raw_moved_0 : li_raw_moved_0.ps.length = 1 := by kernel_rfl
theorem le_raw_packed_0 (k : Nat) (caps args : List D) (S : Store) (hc : isDs caps = true) (ha : isDs args = true) (hl : args.length = li_raw_packed_0.ps.length) : (Cs Pg (k + 1)).l li_raw_packed_0 caps args S = okR (lc_raw_packed_0 (Cs Pg k) (lamStart li_raw_packed_0 args caps) S) := cs_l Pg lb_raw_packed_0 (ld_raw_packed_0 _) hc ha hl
theorem lN_raw_packed_0 : li_raw_packed_0.N.length = 3 := by kernel_rfl
theorem lp_raw_packed_0 : li_raw_packed_0.ps.length = 1 := by kernel_rfl
theorem le_raw_unpacked_0 (k : Nat) (caps args : List D) (S : Store) (hc : isDs caps = true) (ha : isDs args = true) (hl : args.length = li_raw_unpacked_0.ps.length) : (Cs Pg (k + 1)).l li_raw_unpacked_0 caps args S = okR (lc_raw_unpacked_0 (Cs Pg k) (lamStart li_raw_unpacked_0 args caps) S) := cs_l Pg lb_raw_unpacked_0 (ld_raw_unpacked_0 _) hc ha hl
theorem lN_raw_unpacked_0 : li_raw_unpacked_0.N.length = 3 := by kernel_rfl
theorem lp_raw_unpacked_0 : li_raw_unpacked_0.ps.length = 1 := by kernel_rfl
theorem le_raw_change_0 (k : Nat) (caps args : List D) (S : Store) (hc : isDs caps = true) (ha : isDs args = true) (hl : args.length = li_raw_change_0.ps.length) : (Cs Pg (k + 1)).l li_raw_change_0 caps args S = okR (lc_raw_change_0 (Cs Pg k) (lamStart li_raw_change_0 args caps) S) := cs_l Pg lb_raw_change_0 (ld_raw_change_0 _) hc ha hl
theorem lN_raw_change_0 : li_raw_change_0.N.length = 2 := by kernel_rfl
theorem lp_raw_change_0 : li_raw_change_0.ps.length = 1 := by kernel_rfl
theorem le_raw_highest_0 (k : Nat) (caps args : List D) (S : Store) (hc : isDs caps = true) (ha : isDs args = true) (hl : args.length = li_raw_highest_0.ps.length) : (Cs Pg (k + 1)).l li_raw_highest_0 caps args S = okR (lc_raw_highest_0 (Cs Pg k) (lamStart li_raw_highest_0 args caps) S) := cs_l Pg lb_raw_highest_0 (ld_raw_highest_0 _) hc ha hl
theorem lN_raw_highest_0 : li_raw_highest_0.N.length = 2 := by kernel_rfl
theorem lp_raw_highest_0 : li_raw_highest_0.ps.length = 1 := by kernel_rfl
theorem le_raw_highest_1 (k : Nat) (caps args : List D) (S : Store) (hc : isDs caps = true) (ha : isDs args = true) (hl : args.length = li_raw_highest_1.ps.length) : (Cs Pg (k + 1)).l li_raw_highest_1 caps args S = okR (lc_raw_highest_1 (Cs Pg k) (lamStart li_raw_highest_1 args caps) S) := cs_l Pg lb_raw_highest_1 (ld_raw_highest_1 _) hc ha hl
theorem lN_raw_highest_1 : li_raw_highest_1.N.length = 2 := by kernel_rfl
theorem lp_raw_highest_1 : li_raw_highest_1.ps.length = 1 := by kernel_rfl
theorem le_raw_split_0 (k : Nat) (caps args : List D) (S : Store) (hc : isDs caps = true) (ha : isDs args = true) (hl : args.length = li_raw_split_0.ps.length) : (Cs Pg (k + 1)).l li_raw_split_0 caps args S = okR (lc_raw_split_0 (Cs Pg k) (lamStart li_raw_split_0 args caps) S) := cs_l Pg lb_raw_split_0 (ld_raw_split_0 _) hc ha hl
theorem lN_raw_split_0 : li_raw_split_0.N.length = 3 := by kernel_rfl
theorem lp_raw_split_0 : li_raw_split_0.ps.length = 1 := by kernel_rfl
theorem le_raw_bands_form_0 (k : Nat) (caps args : List D) (S : Store) (hc : isDs caps = true) (ha : isDs args = true) (hl : args.length = li_raw_bands_form_0.ps.length) : (Cs Pg (k + 1)).l li_raw_bands_form_0 caps args S = okR (lc_raw_bands_form_0 (Cs Pg k) (lamStart li_raw_bands_form_0 args caps) S) := cs_l Pg lb_raw_bands_form_0 (ld_raw_bands_form_0 _) hc ha hl
theorem lN_raw_bands_form_0 : li_raw_bands_form_0.N.length = 2 := by kernel_rfl
theorem lp_raw_bands_form_0 : li_raw_bands_form_0.ps.length = 1 := by kernel_rfl
theorem le_raw_where_less_0 (k : Nat) (caps args : List D) (S : Store) (hc : isDs caps = true) (ha : isDs args = true) (hl : args.length = li_raw_where_less_0.ps.length) : (Cs Pg (k + 1)).l li_raw_where_less_0 caps args S = okR (lc_raw_where_less_0 (Cs Pg k) (lamStart li_raw_where_less_0 args caps) S) := cs_l Pg lb_raw_where_less_0 (ld_raw_where_less_0 _) hc ha hl
theorem lN_raw_where_less_0 : li_raw_where_less_0.N.length = 3 := by kernel_rfl
theorem lp_raw_where_less_0 : li_raw_where_less_0.ps.length = 1 := by kernel_rfl
theorem le_raw_into_0 (k : Nat) (caps args : List D) (S : Store) (hc : isDs caps = true) (ha : isDs args = true) (hl : args.length = li_raw_into_0.ps.length) : (Cs Pg (k + 1)).l li_raw_into_0 caps args S = okR (lc_raw_into_0 (Cs Pg k) (lamStart li_raw_into_0 args caps) S) := cs_l Pg lb_raw_into_0 (ld_raw_into_0 _) hc ha hl
theorem lN_raw_into_0 : li_raw_into_0.N.length = 3 := by kernel_rfl
theorem lp_raw_into_0 : li_raw_into_0.ps.length = 1 := by kernel_rfl
theorem le_raw_tax_0 (k : Nat) (caps args : List D) (S : Store) (hc : isDs caps = true) (ha : isDs args = true) (hl : args.length = li_raw_tax_0.ps.length) : (Cs Pg (k + 1)).l li_raw_tax_0 caps args S = okR (lc_raw_tax_0 (Cs Pg k) (lamStart li_raw_tax_0 args caps) S) := cs_l Pg lb_raw_tax_0 (ld_raw_tax_0 _) hc ha hl
theorem lN_raw_tax_0 : li_raw_tax_0.N.length = 2 := by kernel_rfl
theorem lp_raw_tax_0 : li_raw_tax_0.ps.length = 1 := by kernel_rfl
theorem le_net_set_0 (k : Nat) (caps args : List D) (S : Store) (hc : isDs caps = true) (ha : isDs args = true) (hl : args.length = li_net_set_0.ps.length) : (Cs Pg (k + 1)).l li_net_set_0 caps args S = okR (lc_net_set_0 (Cs Pg k) (lamStart li_net_set_0 args caps) S) := cs_l Pg lb_net_set_0 (ld_net_set_0 _) hc ha hl
theorem lN_net_set_0 : li_net_set_0.N.length = 2 := by kernel_rfl
theorem lp_net_set_0 : li_net_set_0.ps.length = 1 := by kernel_rfl
theorem le_law_0 (k : Nat) (caps args : List D) (S : Store) (hc : isDs caps = true) (ha : isDs args = true) (hl : args.length = li_law_0.ps.length) : (Cs Pg (k + 1)).l li_law_0 caps args S = okR (lc_law_0 (Cs Pg k) (lamStart li_law_0 args caps) S) := cs_l Pg lb_law_0 (ld_law_0 _) hc ha hl
theorem lN_law_0 : li_law_0.N.length = 1 := by kernel_rfl
theorem lp_law_0 : li_law_0.ps.length = 0 := by kernel_rfl
theorem le_law_1 (k : Nat) (caps args : List D) (S : Store) (hc : isDs caps = true) (ha : isDs args = true) (hl : args.length = li_law_1.ps.length) : (Cs Pg (k + 1)).l li_law_1 caps args S = okR (lc_law_1 (Cs Pg k) (lamStart li_law_1 args caps) S) := cs_l Pg lb_law_1 (ld_law_1 _) hc ha hl
theorem lN_law_1 : li_law_1.N.length = 2 := by kernel_rfl
theorem lp_law_1 : li_law_1.ps.length = 0 := by kernel_rfl
theorem le_law_2 (k : Nat) (caps args : List D) (S : Store) (hc : isDs caps = true) (ha : isDs args = true) (hl : args.length = li_law_2.ps.length) : (Cs Pg (k + 1)).l li_law_2 caps args S = okR (lc_law_2 (Cs Pg k) (lamStart li_law_2 args caps) S) := cs_l Pg lb_law_2 (ld_law_2 _) hc ha hl
theorem lN_law_2 : li_law_2.N.length = 0 := by kernel_rfl
theorem lp_law_2 : li_law_2.ps.length = 0 := by kernel_rfl
theorem gd_is_integer : DefGood Pg ⟨PySem.Str.ofString "is_integer", PySem.Str.ofString "is_integer", top 1, N_is_integer, [PySem.Str.ofString "thing"], false, b_is_integer⟩ := ⟨dn_is_integer, sc_is_integer, by kernel_rfl, fun _ _ _ _ _ _ us hl => match us, hl with | [_], _ => rfl⟩
theorem gd_is_within : DefGood Pg ⟨PySem.Str.ofString "is_within", PySem.Str.ofString "is_within", top 2, N_is_within, [PySem.Str.ofString "thing", PySem.Str.ofString "low", PySem.Str.ofString "high"], false, b_is_within⟩ := ⟨dn_is_within, sc_is_within, by kernel_rfl, fun _ _ _ _ _ _ us hl => match us, hl with | [_, _, _], _ => rfl⟩
theorem gd_is_number : DefGood Pg ⟨PySem.Str.ofString "is_number", PySem.Str.ofString "is_number", top 3, N_is_number, [PySem.Str.ofString "thing"], false, b_is_number⟩ := ⟨dn_is_number, sc_is_number, by kernel_rfl, fun _ _ _ _ _ _ us hl => match us, hl with | [_], _ => rfl⟩
theorem gd_is_flag : DefGood Pg ⟨PySem.Str.ofString "is_flag", PySem.Str.ofString "is_flag", top 4, N_is_flag, [PySem.Str.ofString "thing"], false, b_is_flag⟩ := ⟨dn_is_flag, sc_is_flag, by kernel_rfl, fun _ _ _ _ _ _ us hl => match us, hl with | [_], _ => rfl⟩
theorem gd_is_sized : DefGood Pg ⟨PySem.Str.ofString "is_sized", PySem.Str.ofString "is_sized", top 5, N_is_sized, [PySem.Str.ofString "thing", PySem.Str.ofString "least", PySem.Str.ofString "most"], false, b_is_sized⟩ := ⟨dn_is_sized, sc_is_sized, by kernel_rfl, fun _ _ _ _ _ _ us hl => match us, hl with | [_, _, _], _ => rfl⟩
theorem gd_common_part : DefGood Pg ⟨PySem.Str.ofString "common_part", PySem.Str.ofString "common_part", top 6, N_common_part, [PySem.Str.ofString "one", PySem.Str.ofString "other"], false, b_common_part⟩ := ⟨dn_common_part, sc_common_part, by kernel_rfl, fun _ _ _ _ _ _ us hl => match us, hl with | [_, _], _ => rfl⟩
theorem gd_common_round : DefGood Pg ⟨PySem.Str.ofString "common_round", PySem.Str.ofString "common_round", top 7, N_common_round, [PySem.Str.ofString "one", PySem.Str.ofString "other"], false, b_common_round⟩ := ⟨dn_common_round, sc_common_round, by kernel_rfl, fun _ _ _ _ _ _ us hl => match us, hl with | [_, _], _ => rfl⟩
theorem gd_up_by : DefGood Pg ⟨PySem.Str.ofString "up_by", PySem.Str.ofString "up_by", top 8, N_up_by, [PySem.Str.ofString "number", PySem.Str.ofString "part"], false, b_up_by⟩ := ⟨dn_up_by, sc_up_by, by kernel_rfl, fun _ _ _ _ _ _ us hl => match us, hl with | [_, _], _ => rfl⟩
theorem gd_is_form : DefGood Pg ⟨PySem.Str.ofString "is_form", PySem.Str.ofString "is_form", top 19, N_is_form, [PySem.Str.ofString "thing"], false, b_is_form⟩ := ⟨dn_is_form, sc_is_form, by kernel_rfl, fun _ _ _ _ _ _ us hl => match us, hl with | [_], _ => rfl⟩
theorem gd_check_form : DefGood Pg ⟨PySem.Str.ofString "check_form", PySem.Str.ofString "check_form", top 20, N_check_form, [PySem.Str.ofString "form"], false, b_check_form⟩ := ⟨dn_check_form, sc_check_form, by kernel_rfl, fun _ _ _ _ _ _ us hl => match us, hl with | [_], _ => rfl⟩
theorem gd_check_two : DefGood Pg ⟨PySem.Str.ofString "check_two", PySem.Str.ofString "check_two", top 21, N_check_two, [PySem.Str.ofString "form", PySem.Str.ofString "other"], false, b_check_two⟩ := ⟨dn_check_two, sc_check_two, by kernel_rfl, fun _ _ _ _ _ _ us hl => match us, hl with | [_, _], _ => rfl⟩
theorem gd_check_number : DefGood Pg ⟨PySem.Str.ofString "check_number", PySem.Str.ofString "check_number", top 22, N_check_number, [PySem.Str.ofString "n"], false, b_check_number⟩ := ⟨dn_check_number, sc_check_number, by kernel_rfl, fun _ _ _ _ _ _ us hl => match us, hl with | [_], _ => rfl⟩
theorem gd_check_width : DefGood Pg ⟨PySem.Str.ofString "check_width", PySem.Str.ofString "check_width", top 23, N_check_width, [PySem.Str.ofString "begin", PySem.Str.ofString "around"], false, b_check_width⟩ := ⟨dn_check_width, sc_check_width, by kernel_rfl, fun _ _ _ _ _ _ us hl => match us, hl with | [_, _], _ => rfl⟩
theorem gd_raw_price : DefGood Pg ⟨PySem.Str.ofString "raw_price", PySem.Str.ofString "raw_price", top 24, N_raw_price, [PySem.Str.ofString "form", PySem.Str.ofString "n"], false, b_raw_price⟩ := ⟨dn_raw_price, sc_raw_price, by kernel_rfl, fun _ _ _ _ _ _ us hl => match us, hl with | [_, _], _ => rfl⟩
theorem gd_price_at : DefGood Pg ⟨PySem.Str.ofString "price_at", PySem.Str.ofString "price_at", top 25, N_price_at, [PySem.Str.ofString "form", PySem.Str.ofString "n"], false, b_price_at⟩ := ⟨dn_price_at, sc_price_at, by kernel_rfl, fun _ _ _ _ _ _ us hl => match us, hl with | [_, _], _ => rfl⟩
theorem gd_does_repeat : DefGood Pg ⟨PySem.Str.ofString "does_repeat", PySem.Str.ofString "does_repeat", top 26, N_does_repeat, [PySem.Str.ofString "form", PySem.Str.ofString "begin", PySem.Str.ofString "around", PySem.Str.ofString "rise"], false, b_does_repeat⟩ := ⟨dn_does_repeat, sc_does_repeat, by kernel_rfl, fun _ _ _ _ _ _ us hl => match us, hl with | [_, _, _, _], _ => rfl⟩
theorem gd_raw_least : DefGood Pg ⟨PySem.Str.ofString "raw_least", PySem.Str.ofString "raw_least", top 27, N_raw_least, [PySem.Str.ofString "form"], false, b_raw_least⟩ := ⟨dn_raw_least, sc_raw_least, by kernel_rfl, fun _ _ _ _ _ _ us hl => match us, hl with | [_], _ => rfl⟩
theorem gd_made : DefGood Pg ⟨PySem.Str.ofString "made", PySem.Str.ofString "made", top 28, N_made, [PySem.Str.ofString "begin", PySem.Str.ofString "around", PySem.Str.ofString "rise", PySem.Str.ofString "price_by"], false, b_made⟩ := ⟨dn_made, sc_made, by kernel_rfl, fun _ _ _ _ _ _ us hl => match us, hl with | [_, _, _, _], _ => rfl⟩
theorem gd_is_least : DefGood Pg ⟨PySem.Str.ofString "is_least", PySem.Str.ofString "is_least", top 29, N_is_least, [PySem.Str.ofString "form"], false, b_is_least⟩ := ⟨dn_is_least, sc_is_least, by kernel_rfl, fun _ _ _ _ _ _ us hl => match us, hl with | [_], _ => rfl⟩
theorem gd_rise_in : DefGood Pg ⟨PySem.Str.ofString "rise_in", PySem.Str.ofString "rise_in", top 31, N_rise_in, [PySem.Str.ofString "form", PySem.Str.ofString "around"], false, b_rise_in⟩ := ⟨dn_rise_in, sc_rise_in, by kernel_rfl, fun _ _ _ _ _ _ us hl => match us, hl with | [_, _], _ => rfl⟩
theorem gd_raw_added : DefGood Pg ⟨PySem.Str.ofString "raw_added", PySem.Str.ofString "raw_added", top 32, N_raw_added, [PySem.Str.ofString "form", PySem.Str.ofString "other"], true, b_raw_added⟩ := ⟨dn_raw_added, sc_raw_added, by kernel_rfl, fun _ _ _ _ _ _ us hl => match us, hl with | [_, _], _ => rfl⟩
theorem gd_raw_lessened : DefGood Pg ⟨PySem.Str.ofString "raw_lessened", PySem.Str.ofString "raw_lessened", top 33, N_raw_lessened, [PySem.Str.ofString "form", PySem.Str.ofString "other"], true, b_raw_lessened⟩ := ⟨dn_raw_lessened, sc_raw_lessened, by kernel_rfl, fun _ _ _ _ _ _ us hl => match us, hl with | [_, _], _ => rfl⟩
theorem gd_lessened : DefGood Pg ⟨PySem.Str.ofString "lessened", PySem.Str.ofString "lessened", top 34, N_lessened, [PySem.Str.ofString "form", PySem.Str.ofString "other"], false, b_lessened⟩ := ⟨dn_lessened, sc_lessened, by kernel_rfl, fun _ _ _ _ _ _ us hl => match us, hl with | [_, _], _ => rfl⟩
theorem gd_won_from : DefGood Pg ⟨PySem.Str.ofString "won_from", PySem.Str.ofString "won_from", top 35, N_won_from, [PySem.Str.ofString "form", PySem.Str.ofString "other"], false, b_won_from⟩ := ⟨dn_won_from, sc_won_from, by kernel_rfl, fun _ _ _ _ _ _ us hl => match us, hl with | [_, _], _ => rfl⟩
theorem gd_raw_greater : DefGood Pg ⟨PySem.Str.ofString "raw_greater", PySem.Str.ofString "raw_greater", top 36, N_raw_greater, [PySem.Str.ofString "form", PySem.Str.ofString "other"], true, b_raw_greater⟩ := ⟨dn_raw_greater, sc_raw_greater, by kernel_rfl, fun _ _ _ _ _ _ us hl => match us, hl with | [_, _], _ => rfl⟩
theorem gd_turned : DefGood Pg ⟨PySem.Str.ofString "turned", PySem.Str.ofString "turned", top 37, N_turned, [PySem.Str.ofString "form"], false, b_turned⟩ := ⟨dn_turned, sc_turned, by kernel_rfl, fun _ _ _ _ _ _ us hl => match us, hl with | [_], _ => rfl⟩
theorem gd_raw_lesser : DefGood Pg ⟨PySem.Str.ofString "raw_lesser", PySem.Str.ofString "raw_lesser", top 38, N_raw_lesser, [PySem.Str.ofString "form", PySem.Str.ofString "other"], false, b_raw_lesser⟩ := ⟨dn_raw_lesser, sc_raw_lesser, by kernel_rfl, fun _ _ _ _ _ _ us hl => match us, hl with | [_, _], _ => rfl⟩
theorem gd_raw_scaled : DefGood Pg ⟨PySem.Str.ofString "raw_scaled", PySem.Str.ofString "raw_scaled", top 39, N_raw_scaled, [PySem.Str.ofString "form", PySem.Str.ofString "k"], true, b_raw_scaled⟩ := ⟨dn_raw_scaled, sc_raw_scaled, by kernel_rfl, fun _ _ _ _ _ _ us hl => match us, hl with | [_, _], _ => rfl⟩
theorem gd_raw_shared : DefGood Pg ⟨PySem.Str.ofString "raw_shared", PySem.Str.ofString "raw_shared", top 40, N_raw_shared, [PySem.Str.ofString "form", PySem.Str.ofString "k"], true, b_raw_shared⟩ := ⟨dn_raw_shared, sc_raw_shared, by kernel_rfl, fun _ _ _ _ _ _ us hl => match us, hl with | [_, _], _ => rfl⟩
theorem gd_raw_left : DefGood Pg ⟨PySem.Str.ofString "raw_left", PySem.Str.ofString "raw_left", top 41, N_raw_left, [PySem.Str.ofString "form", PySem.Str.ofString "k"], true, b_raw_left⟩ := ⟨dn_raw_left, sc_raw_left, by kernel_rfl, fun _ _ _ _ _ _ us hl => match us, hl with | [_, _], _ => rfl⟩
theorem gd_raw_moved : DefGood Pg ⟨PySem.Str.ofString "raw_moved", PySem.Str.ofString "raw_moved", top 42, N_raw_moved, [PySem.Str.ofString "form", PySem.Str.ofString "k"], true, b_raw_moved⟩ := ⟨dn_raw_moved, sc_raw_moved, by kernel_rfl, fun _ _ _ _ _ _ us hl => match us, hl with | [_, _], _ => rfl⟩
theorem gd_raw_packed : DefGood Pg ⟨PySem.Str.ofString "raw_packed", PySem.Str.ofString "raw_packed", top 43, N_raw_packed, [PySem.Str.ofString "form", PySem.Str.ofString "k"], true, b_raw_packed⟩ := ⟨dn_raw_packed, sc_raw_packed, by kernel_rfl, fun _ _ _ _ _ _ us hl => match us, hl with | [_, _], _ => rfl⟩
theorem gd_raw_unpacked : DefGood Pg ⟨PySem.Str.ofString "raw_unpacked", PySem.Str.ofString "raw_unpacked", top 44, N_raw_unpacked, [PySem.Str.ofString "form", PySem.Str.ofString "k"], true, b_raw_unpacked⟩ := ⟨dn_raw_unpacked, sc_raw_unpacked, by kernel_rfl, fun _ _ _ _ _ _ us hl => match us, hl with | [_, _], _ => rfl⟩
theorem gd_raw_change : DefGood Pg ⟨PySem.Str.ofString "raw_change", PySem.Str.ofString "raw_change", top 45, N_raw_change, [PySem.Str.ofString "form"], true, b_raw_change⟩ := ⟨dn_raw_change, sc_raw_change, by kernel_rfl, fun _ _ _ _ _ _ us hl => match us, hl with | [_], _ => rfl⟩
theorem gd_running : DefGood Pg ⟨PySem.Str.ofString "running", PySem.Str.ofString "running", top 46, N_running, [PySem.Str.ofString "form", PySem.Str.ofString "many"], false, b_running⟩ := ⟨dn_running, sc_running, by kernel_rfl, fun _ _ _ _ _ _ us hl => match us, hl with | [_, _], _ => rfl⟩
theorem gd_raw_highest : DefGood Pg ⟨PySem.Str.ofString "raw_highest", PySem.Str.ofString "raw_highest", top 47, N_raw_highest, [PySem.Str.ofString "form"], true, b_raw_highest⟩ := ⟨dn_raw_highest, sc_raw_highest, by kernel_rfl, fun _ _ _ _ _ _ us hl => match us, hl with | [_], _ => rfl⟩
theorem gd_raw_lowest : DefGood Pg ⟨PySem.Str.ofString "raw_lowest", PySem.Str.ofString "raw_lowest", top 48, N_raw_lowest, [PySem.Str.ofString "form"], false, b_raw_lowest⟩ := ⟨dn_raw_lowest, sc_raw_lowest, by kernel_rfl, fun _ _ _ _ _ _ us hl => match us, hl with | [_], _ => rfl⟩
theorem gd_raw_within : DefGood Pg ⟨PySem.Str.ofString "raw_within", PySem.Str.ofString "raw_within", top 49, N_raw_within, [PySem.Str.ofString "form", PySem.Str.ofString "k"], true, b_raw_within⟩ := ⟨dn_raw_within, sc_raw_within, by kernel_rfl, fun _ _ _ _ _ _ us hl => match us, hl with | [_, _], _ => rfl⟩
theorem gd_split_from : DefGood Pg ⟨PySem.Str.ofString "split_from", PySem.Str.ofString "split_from", top 50, N_split_from, [PySem.Str.ofString "form", PySem.Str.ofString "other"], false, b_split_from⟩ := ⟨dn_split_from, sc_split_from, by kernel_rfl, fun _ _ _ _ _ _ us hl => match us, hl with | [_, _], _ => rfl⟩
theorem gd_split_at : DefGood Pg ⟨PySem.Str.ofString "split_at", PySem.Str.ofString "split_at", top 51, N_split_at, [PySem.Str.ofString "ones", PySem.Str.ofString "others", PySem.Str.ofString "n"], false, b_split_at⟩ := ⟨dn_split_at, sc_split_at, by kernel_rfl, fun _ _ _ _ _ _ us hl => match us, hl with | [_, _, _], _ => rfl⟩
theorem gd_raw_split : DefGood Pg ⟨PySem.Str.ofString "raw_split", PySem.Str.ofString "raw_split", top 52, N_raw_split, [PySem.Str.ofString "form", PySem.Str.ofString "other"], true, b_raw_split⟩ := ⟨dn_raw_split, sc_raw_split, by kernel_rfl, fun _ _ _ _ _ _ us hl => match us, hl with | [_, _], _ => rfl⟩
theorem gd_is_listed : DefGood Pg ⟨PySem.Str.ofString "is_listed", PySem.Str.ofString "is_listed", top 63, N_is_listed, [PySem.Str.ofString "thing"], false, b_is_listed⟩ := ⟨dn_is_listed, sc_is_listed, by kernel_rfl, fun _ _ _ _ _ _ us hl => match us, hl with | [_], _ => rfl⟩
theorem gd_is_node : DefGood Pg ⟨PySem.Str.ofString "is_node", PySem.Str.ofString "is_node", top 64, N_is_node, [PySem.Str.ofString "thing"], false, b_is_node⟩ := ⟨dn_is_node, sc_is_node, by kernel_rfl, fun _ _ _ _ _ _ us hl => match us, hl with | [_], _ => rfl⟩
theorem gd_raw_parts : DefGood Pg ⟨PySem.Str.ofString "raw_parts", PySem.Str.ofString "raw_parts", top 65, N_raw_parts, [PySem.Str.ofString "rule"], false, b_raw_parts⟩ := ⟨dn_raw_parts, sc_raw_parts, by kernel_rfl, fun _ _ _ _ _ _ us hl => match us, hl with | [_], _ => rfl⟩
theorem gd_raw_is_rule : DefGood Pg ⟨PySem.Str.ofString "raw_is_rule", PySem.Str.ofString "raw_is_rule", top 66, N_raw_is_rule, [PySem.Str.ofString "thing"], false, b_raw_is_rule⟩ := ⟨dn_raw_is_rule, sc_raw_is_rule, by kernel_rfl, fun _ _ _ _ _ _ us hl => match us, hl with | [_], _ => rfl⟩
theorem gd_check_rule : DefGood Pg ⟨PySem.Str.ofString "check_rule", PySem.Str.ofString "check_rule", top 67, N_check_rule, [PySem.Str.ofString "rule"], false, b_check_rule⟩ := ⟨dn_check_rule, sc_check_rule, by kernel_rfl, fun _ _ _ _ _ _ us hl => match us, hl with | [_], _ => rfl⟩
theorem gd_raw_nodes : DefGood Pg ⟨PySem.Str.ofString "raw_nodes", PySem.Str.ofString "raw_nodes", top 68, N_raw_nodes, [PySem.Str.ofString "rule"], false, b_raw_nodes⟩ := ⟨dn_raw_nodes, sc_raw_nodes, by kernel_rfl, fun _ _ _ _ _ _ us hl => match us, hl with | [_], _ => rfl⟩
theorem gd_are_bands : DefGood Pg ⟨PySem.Str.ofString "are_bands", PySem.Str.ofString "are_bands", top 73, N_are_bands, [PySem.Str.ofString "thing"], false, b_are_bands⟩ := ⟨dn_are_bands, sc_are_bands, by kernel_rfl, fun _ _ _ _ _ _ us hl => match us, hl with | [_], _ => rfl⟩
theorem gd_raw_band : DefGood Pg ⟨PySem.Str.ofString "raw_band", PySem.Str.ofString "raw_band", top 74, N_raw_band, [PySem.Str.ofString "bands", PySem.Str.ofString "n"], false, b_raw_band⟩ := ⟨dn_raw_band, sc_raw_band, by kernel_rfl, fun _ _ _ _ _ _ us hl => match us, hl with | [_, _], _ => rfl⟩
theorem gd_raw_bands_form : DefGood Pg ⟨PySem.Str.ofString "raw_bands_form", PySem.Str.ofString "raw_bands_form", top 75, N_raw_bands_form, [PySem.Str.ofString "bands"], true, b_raw_bands_form⟩ := ⟨dn_raw_bands_form, sc_raw_bands_form, by kernel_rfl, fun _ _ _ _ _ _ us hl => match us, hl with | [_], _ => rfl⟩
theorem gd_is_set : DefGood Pg ⟨PySem.Str.ofString "is_set", PySem.Str.ofString "is_set", top 77, N_is_set, [PySem.Str.ofString "thing"], false, b_is_set⟩ := ⟨dn_is_set, sc_is_set, by kernel_rfl, fun _ _ _ _ _ _ us hl => match us, hl with | [_], _ => rfl⟩
theorem gd_check_set : DefGood Pg ⟨PySem.Str.ofString "check_set", PySem.Str.ofString "check_set", top 78, N_check_set, [PySem.Str.ofString "told"], false, b_check_set⟩ := ⟨dn_check_set, sc_check_set, by kernel_rfl, fun _ _ _ _ _ _ us hl => match us, hl with | [_], _ => rfl⟩
theorem gd_raw_has : DefGood Pg ⟨PySem.Str.ofString "raw_has", PySem.Str.ofString "raw_has", top 79, N_raw_has, [PySem.Str.ofString "told", PySem.Str.ofString "n"], false, b_raw_has⟩ := ⟨dn_raw_has, sc_raw_has, by kernel_rfl, fun _ _ _ _ _ _ us hl => match us, hl with | [_, _], _ => rfl⟩
theorem gd_has : DefGood Pg ⟨PySem.Str.ofString "has", PySem.Str.ofString "has", top 80, N_has, [PySem.Str.ofString "told", PySem.Str.ofString "n"], false, b_has⟩ := ⟨dn_has, sc_has, by kernel_rfl, fun _ _ _ _ _ _ us hl => match us, hl with | [_, _], _ => rfl⟩
theorem gd_raw_least_set : DefGood Pg ⟨PySem.Str.ofString "raw_least_set", PySem.Str.ofString "raw_least_set", top 81, N_raw_least_set, [PySem.Str.ofString "told"], false, b_raw_least_set⟩ := ⟨dn_raw_least_set, sc_raw_least_set, by kernel_rfl, fun _ _ _ _ _ _ us hl => match us, hl with | [_], _ => rfl⟩
theorem gd_least_set : DefGood Pg ⟨PySem.Str.ofString "least_set", PySem.Str.ofString "least_set", top 82, N_least_set, [PySem.Str.ofString "told"], false, b_least_set⟩ := ⟨dn_least_set, sc_least_set, by kernel_rfl, fun _ _ _ _ _ _ us hl => match us, hl with | [_], _ => rfl⟩
theorem gd_made_set : DefGood Pg ⟨PySem.Str.ofString "made_set", PySem.Str.ofString "made_set", top 83, N_made_set, [PySem.Str.ofString "begin", PySem.Str.ofString "around", PySem.Str.ofString "does_have"], false, b_made_set⟩ := ⟨dn_made_set, sc_made_set, by kernel_rfl, fun _ _ _ _ _ _ us hl => match us, hl with | [_, _, _], _ => rfl⟩
theorem gd_signed_from : DefGood Pg ⟨PySem.Str.ofString "signed_from", PySem.Str.ofString "signed_from", top 84, N_signed_from, [PySem.Str.ofString "form", PySem.Str.ofString "other"], false, b_signed_from⟩ := ⟨dn_signed_from, sc_signed_from, by kernel_rfl, fun _ _ _ _ _ _ us hl => match us, hl with | [_, _], _ => rfl⟩
theorem gd_raw_where_less : DefGood Pg ⟨PySem.Str.ofString "raw_where_less", PySem.Str.ofString "raw_where_less", top 85, N_raw_where_less, [PySem.Str.ofString "form", PySem.Str.ofString "other"], true, b_raw_where_less⟩ := ⟨dn_raw_where_less, sc_raw_where_less, by kernel_rfl, fun _ _ _ _ _ _ us hl => match us, hl with | [_, _], _ => rfl⟩
theorem gd_raw_most : DefGood Pg ⟨PySem.Str.ofString "raw_most", PySem.Str.ofString "raw_most", top 87, N_raw_most, [PySem.Str.ofString "form", PySem.Str.ofString "budget"], false, b_raw_most⟩ := ⟨dn_raw_most, sc_raw_most, by kernel_rfl, fun _ _ _ _ _ _ us hl => match us, hl with | [_, _], _ => rfl⟩
theorem gd_least_in : DefGood Pg ⟨PySem.Str.ofString "least_in", PySem.Str.ofString "least_in", top 89, N_least_in, [PySem.Str.ofString "told"], false, b_least_in⟩ := ⟨dn_least_in, sc_least_in, by kernel_rfl, fun _ _ _ _ _ _ us hl => match us, hl with | [_], _ => rfl⟩
theorem gd_flat : DefGood Pg ⟨PySem.Str.ofString "flat", PySem.Str.ofString "flat", top 90, N_flat, [PySem.Str.ofString "price"], false, b_flat⟩ := ⟨dn_flat, sc_flat, by kernel_rfl, fun _ _ _ _ _ _ us hl => match us, hl with | [_], _ => rfl⟩
theorem gd_raw_falls : DefGood Pg ⟨PySem.Str.ofString "raw_falls", PySem.Str.ofString "raw_falls", top 91, N_raw_falls, [PySem.Str.ofString "form"], false, b_raw_falls⟩ := ⟨dn_raw_falls, sc_raw_falls, by kernel_rfl, fun _ _ _ _ _ _ us hl => match us, hl with | [_], _ => rfl⟩
theorem gd_never_falls : DefGood Pg ⟨PySem.Str.ofString "never_falls", PySem.Str.ofString "never_falls", top 92, N_never_falls, [PySem.Str.ofString "form"], false, b_never_falls⟩ := ⟨dn_never_falls, sc_never_falls, by kernel_rfl, fun _ _ _ _ _ _ us hl => match us, hl with | [_], _ => rfl⟩
theorem gd_leaf_form : DefGood Pg ⟨PySem.Str.ofString "leaf_form", PySem.Str.ofString "leaf_form", top 94, N_leaf_form, [PySem.Str.ofString "rule"], false, b_leaf_form⟩ := ⟨dn_leaf_form, sc_leaf_form, by kernel_rfl, fun _ _ _ _ _ _ us hl => match us, hl with | [_], _ => rfl⟩
theorem gd_raw_into : DefGood Pg ⟨PySem.Str.ofString "raw_into", PySem.Str.ofString "raw_into", top 95, N_raw_into, [PySem.Str.ofString "form", PySem.Str.ofString "other"], true, b_raw_into⟩ := ⟨dn_raw_into, sc_raw_into, by kernel_rfl, fun _ _ _ _ _ _ us hl => match us, hl with | [_, _], _ => rfl⟩
theorem gd_joined_by : DefGood Pg ⟨PySem.Str.ofString "joined_by", PySem.Str.ofString "joined_by", top 96, N_joined_by, [PySem.Str.ofString "word", PySem.Str.ofString "one", PySem.Str.ofString "other"], false, b_joined_by⟩ := ⟨dn_joined_by, sc_joined_by, by kernel_rfl, fun _ _ _ _ _ _ us hl => match us, hl with | [_, _, _], _ => rfl⟩
theorem gd_counted_by : DefGood Pg ⟨PySem.Str.ofString "counted_by", PySem.Str.ofString "counted_by", top 97, N_counted_by, [PySem.Str.ofString "word", PySem.Str.ofString "k", PySem.Str.ofString "one"], false, b_counted_by⟩ := ⟨dn_counted_by, sc_counted_by, by kernel_rfl, fun _ _ _ _ _ _ us hl => match us, hl with | [_, _, _], _ => rfl⟩
theorem gd_form_by : DefGood Pg ⟨PySem.Str.ofString "form_by", PySem.Str.ofString "form_by", top 98, N_form_by, [PySem.Str.ofString "rule", PySem.Str.ofString "parts"], false, b_form_by⟩ := ⟨dn_form_by, sc_form_by, by kernel_rfl, fun _ _ _ _ _ _ us hl => match us, hl with | [_, _], _ => rfl⟩
theorem gd_raw_forms : DefGood Pg ⟨PySem.Str.ofString "raw_forms", PySem.Str.ofString "raw_forms", top 99, N_raw_forms, [PySem.Str.ofString "rule"], false, b_raw_forms⟩ := ⟨dn_raw_forms, sc_raw_forms, by kernel_rfl, fun _ _ _ _ _ _ us hl => match us, hl with | [_], _ => rfl⟩
theorem gd_raw_form : DefGood Pg ⟨PySem.Str.ofString "raw_form", PySem.Str.ofString "raw_form", top 100, N_raw_form, [PySem.Str.ofString "rule"], false, b_raw_form⟩ := ⟨dn_raw_form, sc_raw_form, by kernel_rfl, fun _ _ _ _ _ _ us hl => match us, hl with | [_], _ => rfl⟩
theorem gd_form_of : DefGood Pg ⟨PySem.Str.ofString "form_of", PySem.Str.ofString "form_of", top 101, N_form_of, [PySem.Str.ofString "rule"], false, b_form_of⟩ := ⟨dn_form_of, sc_form_of, by kernel_rfl, fun _ _ _ _ _ _ us hl => match us, hl with | [_], _ => rfl⟩
theorem gd_check_tax : DefGood Pg ⟨PySem.Str.ofString "check_tax", PySem.Str.ofString "check_tax", top 106, N_check_tax, [PySem.Str.ofString "tax"], false, b_check_tax⟩ := ⟨dn_check_tax, sc_check_tax, by kernel_rfl, fun _ _ _ _ _ _ us hl => match us, hl with | [_], _ => rfl⟩
theorem gd_raw_tax : DefGood Pg ⟨PySem.Str.ofString "raw_tax", PySem.Str.ofString "raw_tax", top 107, N_raw_tax, [PySem.Str.ofString "tax"], true, b_raw_tax⟩ := ⟨dn_raw_tax, sc_raw_tax, by kernel_rfl, fun _ _ _ _ _ _ us hl => match us, hl with | [_], _ => rfl⟩
theorem gd_tax_form : DefGood Pg ⟨PySem.Str.ofString "tax_form", PySem.Str.ofString "tax_form", top 108, N_tax_form, [PySem.Str.ofString "tax"], false, b_tax_form⟩ := ⟨dn_tax_form, sc_tax_form, by kernel_rfl, fun _ _ _ _ _ _ us hl => match us, hl with | [_], _ => rfl⟩
theorem gd_raw_net : DefGood Pg ⟨PySem.Str.ofString "raw_net", PySem.Str.ofString "raw_net", top 109, N_raw_net, [PySem.Str.ofString "tax"], false, b_raw_net⟩ := ⟨dn_raw_net, sc_raw_net, by kernel_rfl, fun _ _ _ _ _ _ us hl => match us, hl with | [_], _ => rfl⟩
theorem gd_net_form : DefGood Pg ⟨PySem.Str.ofString "net_form", PySem.Str.ofString "net_form", top 110, N_net_form, [PySem.Str.ofString "tax"], false, b_net_form⟩ := ⟨dn_net_form, sc_net_form, by kernel_rfl, fun _ _ _ _ _ _ us hl => match us, hl with | [_], _ => rfl⟩
theorem gd_raw_gross : DefGood Pg ⟨PySem.Str.ofString "raw_gross", PySem.Str.ofString "raw_gross", top 111, N_raw_gross, [PySem.Str.ofString "form", PySem.Str.ofString "net"], false, b_raw_gross⟩ := ⟨dn_raw_gross, sc_raw_gross, by kernel_rfl, fun _ _ _ _ _ _ us hl => match us, hl with | [_, _], _ => rfl⟩
theorem gd_gross_for : DefGood Pg ⟨PySem.Str.ofString "gross_for", PySem.Str.ofString "gross_for", top 112, N_gross_for, [PySem.Str.ofString "tax", PySem.Str.ofString "net"], false, b_gross_for⟩ := ⟨dn_gross_for, sc_gross_for, by kernel_rfl, fun _ _ _ _ _ _ us hl => match us, hl with | [_, _], _ => rfl⟩
theorem gd_net_set : DefGood Pg ⟨PySem.Str.ofString "net_set", PySem.Str.ofString "net_set", top 113, N_net_set, [PySem.Str.ofString "tax"], true, b_net_set⟩ := ⟨dn_net_set, sc_net_set, by kernel_rfl, fun _ _ _ _ _ _ us hl => match us, hl with | [_], _ => rfl⟩
theorem gd__law_hand : DefGood Pg ⟨PySem.Str.ofString "_law_hand", PySem.Str.ofString "_law_hand", top 115, N__law_hand, [PySem.Str.ofString "script"], false, b__law_hand⟩ := ⟨dn__law_hand, sc__law_hand, by kernel_rfl, fun _ _ _ _ _ _ us hl => match us, hl with | [_], _ => rfl⟩
theorem gd__law_draw : DefGood Pg ⟨PySem.Str.ofString "_law_draw", PySem.Str.ofString "_law_draw", top 116, N__law_draw, [PySem.Str.ofString "hand", PySem.Str.ofString "many"], false, b__law_draw⟩ := ⟨dn__law_draw, sc__law_draw, by kernel_rfl, fun _ _ _ _ _ _ us hl => match us, hl with | [_, _], _ => rfl⟩
theorem gd__law_any : DefGood Pg ⟨PySem.Str.ofString "_law_any", PySem.Str.ofString "_law_any", top 117, N__law_any, [PySem.Str.ofString "hand", PySem.Str.ofString "some"], false, b__law_any⟩ := ⟨dn__law_any, sc__law_any, by kernel_rfl, fun _ _ _ _ _ _ us hl => match us, hl with | [_, _], _ => rfl⟩
theorem gd__law_tax : DefGood Pg ⟨PySem.Str.ofString "_law_tax", PySem.Str.ofString "_law_tax", top 118, N__law_tax, [PySem.Str.ofString "hand"], false, b__law_tax⟩ := ⟨dn__law_tax, sc__law_tax, by kernel_rfl, fun _ _ _ _ _ _ us hl => match us, hl with | [_], _ => rfl⟩
theorem gd__law_due : DefGood Pg ⟨PySem.Str.ofString "_law_due", PySem.Str.ofString "_law_due", top 119, N__law_due, [PySem.Str.ofString "tax", PySem.Str.ofString "n"], false, b__law_due⟩ := ⟨dn__law_due, sc__law_due, by kernel_rfl, fun _ _ _ _ _ _ us hl => match us, hl with | [_, _], _ => rfl⟩
theorem gd__law_word : DefGood Pg ⟨PySem.Str.ofString "_law_word", PySem.Str.ofString "_law_word", top 120, N__law_word, [PySem.Str.ofString "call"], false, b__law_word⟩ := ⟨dn__law_word, sc__law_word, by kernel_rfl, fun _ _ _ _ _ _ us hl => match us, hl with | [_], _ => rfl⟩
theorem gd__law_are_nets_right : DefGood Pg ⟨PySem.Str.ofString "_law_are_nets_right", PySem.Str.ofString "_law_are_nets_right", top 121, N__law_are_nets_right, [PySem.Str.ofString "hand", PySem.Str.ofString "tax"], false, b__law_are_nets_right⟩ := ⟨dn__law_are_nets_right, sc__law_are_nets_right, by kernel_rfl, fun _ _ _ _ _ _ us hl => match us, hl with | [_, _], _ => rfl⟩
theorem gd_law : DefGood Pg ⟨PySem.Str.ofString "law", PySem.Str.ofString "law", top 122, N_law, [PySem.Str.ofString "script"], true, b_law⟩ := ⟨dn_law, sc_law, by kernel_rfl, fun _ _ _ _ _ _ us hl => match us, hl with | [_], _ => rfl⟩
theorem good : ∀ d ∈ Pg.defs, DefGood Pg d := (all_cons' gd_is_integer (all_cons' gd_is_within (all_cons' gd_is_number (all_cons' gd_is_flag (all_cons' gd_is_sized (all_cons' gd_common_part (all_cons' gd_common_round (all_cons' gd_up_by (all_cons' gd_is_form (all_cons' gd_check_form (all_cons' gd_check_two (all_cons' gd_check_number (all_cons' gd_check_width (all_cons' gd_raw_price (all_cons' gd_price_at (all_cons' gd_does_repeat (all_cons' gd_raw_least (all_cons' gd_made (all_cons' gd_is_least (all_cons' gd_rise_in (all_cons' gd_raw_added (all_cons' gd_raw_lessened (all_cons' gd_lessened (all_cons' gd_won_from (all_cons' gd_raw_greater (all_cons' gd_turned (all_cons' gd_raw_lesser (all_cons' gd_raw_scaled (all_cons' gd_raw_shared (all_cons' gd_raw_left (all_cons' gd_raw_moved (all_cons' gd_raw_packed (all_cons' gd_raw_unpacked (all_cons' gd_raw_change (all_cons' gd_running (all_cons' gd_raw_highest (all_cons' gd_raw_lowest (all_cons' gd_raw_within (all_cons' gd_split_from (all_cons' gd_split_at (all_cons' gd_raw_split (all_cons' gd_is_listed (all_cons' gd_is_node (all_cons' gd_raw_parts (all_cons' gd_raw_is_rule (all_cons' gd_check_rule (all_cons' gd_raw_nodes (all_cons' gd_are_bands (all_cons' gd_raw_band (all_cons' gd_raw_bands_form (all_cons' gd_is_set (all_cons' gd_check_set (all_cons' gd_raw_has (all_cons' gd_has (all_cons' gd_raw_least_set (all_cons' gd_least_set (all_cons' gd_made_set (all_cons' gd_signed_from (all_cons' gd_raw_where_less (all_cons' gd_raw_most (all_cons' gd_least_in (all_cons' gd_flat (all_cons' gd_raw_falls (all_cons' gd_never_falls (all_cons' gd_leaf_form (all_cons' gd_raw_into (all_cons' gd_joined_by (all_cons' gd_counted_by (all_cons' gd_form_by (all_cons' gd_raw_forms (all_cons' gd_raw_form (all_cons' gd_form_of (all_cons' gd_check_tax (all_cons' gd_raw_tax (all_cons' gd_tax_form (all_cons' gd_raw_net (all_cons' gd_net_form (all_cons' gd_raw_gross (all_cons' gd_gross_for (all_cons' gd_net_set (all_cons' gd__law_hand (all_cons' gd__law_draw (all_cons' gd__law_any (all_cons' gd__law_tax (all_cons' gd__law_due (all_cons' gd__law_word (all_cons' gd__law_are_nets_right (all_cons' gd_law all_nil'))))))))))))))))))))))))))))))))))))))))))))))))))))))))))))))))))))))))))))))))))))))))
def d_is_integer : He.DefD := ⟨("is_integer", none), "is_integer", "is_integer", defArgs (top 1), defBody (top 1), defScope (top 1), [], []⟩
def d_is_within : He.DefD := ⟨("is_within", none), "is_within", "is_within", defArgs (top 2), defBody (top 2), defScope (top 2), [], []⟩
def d_is_number : He.DefD := ⟨("is_number", none), "is_number", "is_number", defArgs (top 3), defBody (top 3), defScope (top 3), [], []⟩
def d_is_flag : He.DefD := ⟨("is_flag", none), "is_flag", "is_flag", defArgs (top 4), defBody (top 4), defScope (top 4), [], []⟩
def d_is_sized : He.DefD := ⟨("is_sized", none), "is_sized", "is_sized", defArgs (top 5), defBody (top 5), defScope (top 5), [], []⟩
def d_common_part : He.DefD := ⟨("common_part", none), "common_part", "common_part", defArgs (top 6), defBody (top 6), defScope (top 6), [], []⟩
def d_common_round : He.DefD := ⟨("common_round", none), "common_round", "common_round", defArgs (top 7), defBody (top 7), defScope (top 7), [], []⟩
def d_up_by : He.DefD := ⟨("up_by", none), "up_by", "up_by", defArgs (top 8), defBody (top 8), defScope (top 8), [], []⟩
def d_is_form : He.DefD := ⟨("is_form", none), "is_form", "is_form", defArgs (top 19), defBody (top 19), defScope (top 19), [], []⟩
def d_check_form : He.DefD := ⟨("check_form", none), "check_form", "check_form", defArgs (top 20), defBody (top 20), defScope (top 20), [], []⟩
def d_check_two : He.DefD := ⟨("check_two", none), "check_two", "check_two", defArgs (top 21), defBody (top 21), defScope (top 21), [], []⟩
def d_check_number : He.DefD := ⟨("check_number", none), "check_number", "check_number", defArgs (top 22), defBody (top 22), defScope (top 22), [], []⟩
def d_check_width : He.DefD := ⟨("check_width", none), "check_width", "check_width", defArgs (top 23), defBody (top 23), defScope (top 23), [], []⟩
def d_raw_price : He.DefD := ⟨("raw_price", none), "raw_price", "raw_price", defArgs (top 24), defBody (top 24), defScope (top 24), [], []⟩
def d_price_at : He.DefD := ⟨("price_at", none), "price_at", "price_at", defArgs (top 25), defBody (top 25), defScope (top 25), [], []⟩
def d_does_repeat : He.DefD := ⟨("does_repeat", none), "does_repeat", "does_repeat", defArgs (top 26), defBody (top 26), defScope (top 26), [], []⟩
def d_raw_least : He.DefD := ⟨("raw_least", none), "raw_least", "raw_least", defArgs (top 27), defBody (top 27), defScope (top 27), [], []⟩
def d_made : He.DefD := ⟨("made", none), "made", "made", defArgs (top 28), defBody (top 28), defScope (top 28), [], []⟩
def d_is_least : He.DefD := ⟨("is_least", none), "is_least", "is_least", defArgs (top 29), defBody (top 29), defScope (top 29), [], []⟩
def d_rise_in : He.DefD := ⟨("rise_in", none), "rise_in", "rise_in", defArgs (top 31), defBody (top 31), defScope (top 31), [], []⟩
def d_raw_added : He.DefD := ⟨("raw_added", none), "raw_added", "raw_added", defArgs (top 32), defBody (top 32), defScope (top 32), [], []⟩
def d_raw_lessened : He.DefD := ⟨("raw_lessened", none), "raw_lessened", "raw_lessened", defArgs (top 33), defBody (top 33), defScope (top 33), [], []⟩
def d_lessened : He.DefD := ⟨("lessened", none), "lessened", "lessened", defArgs (top 34), defBody (top 34), defScope (top 34), [], []⟩
def d_won_from : He.DefD := ⟨("won_from", none), "won_from", "won_from", defArgs (top 35), defBody (top 35), defScope (top 35), [], []⟩
def d_raw_greater : He.DefD := ⟨("raw_greater", none), "raw_greater", "raw_greater", defArgs (top 36), defBody (top 36), defScope (top 36), [], []⟩
def d_turned : He.DefD := ⟨("turned", none), "turned", "turned", defArgs (top 37), defBody (top 37), defScope (top 37), [], []⟩
def d_raw_lesser : He.DefD := ⟨("raw_lesser", none), "raw_lesser", "raw_lesser", defArgs (top 38), defBody (top 38), defScope (top 38), [], []⟩
def d_raw_scaled : He.DefD := ⟨("raw_scaled", none), "raw_scaled", "raw_scaled", defArgs (top 39), defBody (top 39), defScope (top 39), [], []⟩
def d_raw_shared : He.DefD := ⟨("raw_shared", none), "raw_shared", "raw_shared", defArgs (top 40), defBody (top 40), defScope (top 40), [], []⟩
def d_raw_left : He.DefD := ⟨("raw_left", none), "raw_left", "raw_left", defArgs (top 41), defBody (top 41), defScope (top 41), [], []⟩
def d_raw_moved : He.DefD := ⟨("raw_moved", none), "raw_moved", "raw_moved", defArgs (top 42), defBody (top 42), defScope (top 42), [], []⟩
def d_raw_packed : He.DefD := ⟨("raw_packed", none), "raw_packed", "raw_packed", defArgs (top 43), defBody (top 43), defScope (top 43), [], []⟩
def d_raw_unpacked : He.DefD := ⟨("raw_unpacked", none), "raw_unpacked", "raw_unpacked", defArgs (top 44), defBody (top 44), defScope (top 44), [], []⟩
def d_raw_change : He.DefD := ⟨("raw_change", none), "raw_change", "raw_change", defArgs (top 45), defBody (top 45), defScope (top 45), [], []⟩
def d_running : He.DefD := ⟨("running", none), "running", "running", defArgs (top 46), defBody (top 46), defScope (top 46), [], []⟩
def d_raw_highest : He.DefD := ⟨("raw_highest", none), "raw_highest", "raw_highest", defArgs (top 47), defBody (top 47), defScope (top 47), [], []⟩
def d_raw_lowest : He.DefD := ⟨("raw_lowest", none), "raw_lowest", "raw_lowest", defArgs (top 48), defBody (top 48), defScope (top 48), [], []⟩
def d_raw_within : He.DefD := ⟨("raw_within", none), "raw_within", "raw_within", defArgs (top 49), defBody (top 49), defScope (top 49), [], []⟩
def d_split_from : He.DefD := ⟨("split_from", none), "split_from", "split_from", defArgs (top 50), defBody (top 50), defScope (top 50), [], []⟩
def d_split_at : He.DefD := ⟨("split_at", none), "split_at", "split_at", defArgs (top 51), defBody (top 51), defScope (top 51), [], []⟩
def d_raw_split : He.DefD := ⟨("raw_split", none), "raw_split", "raw_split", defArgs (top 52), defBody (top 52), defScope (top 52), [], []⟩
def d_is_listed : He.DefD := ⟨("is_listed", none), "is_listed", "is_listed", defArgs (top 63), defBody (top 63), defScope (top 63), [], []⟩
def d_is_node : He.DefD := ⟨("is_node", none), "is_node", "is_node", defArgs (top 64), defBody (top 64), defScope (top 64), [], []⟩
def d_raw_parts : He.DefD := ⟨("raw_parts", none), "raw_parts", "raw_parts", defArgs (top 65), defBody (top 65), defScope (top 65), [], []⟩
def d_raw_is_rule : He.DefD := ⟨("raw_is_rule", none), "raw_is_rule", "raw_is_rule", defArgs (top 66), defBody (top 66), defScope (top 66), [], []⟩
def d_check_rule : He.DefD := ⟨("check_rule", none), "check_rule", "check_rule", defArgs (top 67), defBody (top 67), defScope (top 67), [], []⟩
def d_raw_nodes : He.DefD := ⟨("raw_nodes", none), "raw_nodes", "raw_nodes", defArgs (top 68), defBody (top 68), defScope (top 68), [], []⟩
def d_are_bands : He.DefD := ⟨("are_bands", none), "are_bands", "are_bands", defArgs (top 73), defBody (top 73), defScope (top 73), [], []⟩
def d_raw_band : He.DefD := ⟨("raw_band", none), "raw_band", "raw_band", defArgs (top 74), defBody (top 74), defScope (top 74), [], []⟩
def d_raw_bands_form : He.DefD := ⟨("raw_bands_form", none), "raw_bands_form", "raw_bands_form", defArgs (top 75), defBody (top 75), defScope (top 75), [], []⟩
def d_is_set : He.DefD := ⟨("is_set", none), "is_set", "is_set", defArgs (top 77), defBody (top 77), defScope (top 77), [], []⟩
def d_check_set : He.DefD := ⟨("check_set", none), "check_set", "check_set", defArgs (top 78), defBody (top 78), defScope (top 78), [], []⟩
def d_raw_has : He.DefD := ⟨("raw_has", none), "raw_has", "raw_has", defArgs (top 79), defBody (top 79), defScope (top 79), [], []⟩
def d_has : He.DefD := ⟨("has", none), "has", "has", defArgs (top 80), defBody (top 80), defScope (top 80), [], []⟩
def d_raw_least_set : He.DefD := ⟨("raw_least_set", none), "raw_least_set", "raw_least_set", defArgs (top 81), defBody (top 81), defScope (top 81), [], []⟩
def d_least_set : He.DefD := ⟨("least_set", none), "least_set", "least_set", defArgs (top 82), defBody (top 82), defScope (top 82), [], []⟩
def d_made_set : He.DefD := ⟨("made_set", none), "made_set", "made_set", defArgs (top 83), defBody (top 83), defScope (top 83), [], []⟩
def d_signed_from : He.DefD := ⟨("signed_from", none), "signed_from", "signed_from", defArgs (top 84), defBody (top 84), defScope (top 84), [], []⟩
def d_raw_where_less : He.DefD := ⟨("raw_where_less", none), "raw_where_less", "raw_where_less", defArgs (top 85), defBody (top 85), defScope (top 85), [], []⟩
def d_raw_most : He.DefD := ⟨("raw_most", none), "raw_most", "raw_most", defArgs (top 87), defBody (top 87), defScope (top 87), [], []⟩
def d_least_in : He.DefD := ⟨("least_in", none), "least_in", "least_in", defArgs (top 89), defBody (top 89), defScope (top 89), [], []⟩
def d_flat : He.DefD := ⟨("flat", none), "flat", "flat", defArgs (top 90), defBody (top 90), defScope (top 90), [], []⟩
def d_raw_falls : He.DefD := ⟨("raw_falls", none), "raw_falls", "raw_falls", defArgs (top 91), defBody (top 91), defScope (top 91), [], []⟩
def d_never_falls : He.DefD := ⟨("never_falls", none), "never_falls", "never_falls", defArgs (top 92), defBody (top 92), defScope (top 92), [], []⟩
def d_leaf_form : He.DefD := ⟨("leaf_form", none), "leaf_form", "leaf_form", defArgs (top 94), defBody (top 94), defScope (top 94), [], []⟩
def d_raw_into : He.DefD := ⟨("raw_into", none), "raw_into", "raw_into", defArgs (top 95), defBody (top 95), defScope (top 95), [], []⟩
def d_joined_by : He.DefD := ⟨("joined_by", none), "joined_by", "joined_by", defArgs (top 96), defBody (top 96), defScope (top 96), [], []⟩
def d_counted_by : He.DefD := ⟨("counted_by", none), "counted_by", "counted_by", defArgs (top 97), defBody (top 97), defScope (top 97), [], []⟩
def d_form_by : He.DefD := ⟨("form_by", none), "form_by", "form_by", defArgs (top 98), defBody (top 98), defScope (top 98), [], []⟩
def d_raw_forms : He.DefD := ⟨("raw_forms", none), "raw_forms", "raw_forms", defArgs (top 99), defBody (top 99), defScope (top 99), [], []⟩
def d_raw_form : He.DefD := ⟨("raw_form", none), "raw_form", "raw_form", defArgs (top 100), defBody (top 100), defScope (top 100), [], []⟩
def d_form_of : He.DefD := ⟨("form_of", none), "form_of", "form_of", defArgs (top 101), defBody (top 101), defScope (top 101), [], []⟩
def d_check_tax : He.DefD := ⟨("check_tax", none), "check_tax", "check_tax", defArgs (top 106), defBody (top 106), defScope (top 106), [], []⟩
def d_raw_tax : He.DefD := ⟨("raw_tax", none), "raw_tax", "raw_tax", defArgs (top 107), defBody (top 107), defScope (top 107), [], []⟩
def d_tax_form : He.DefD := ⟨("tax_form", none), "tax_form", "tax_form", defArgs (top 108), defBody (top 108), defScope (top 108), [], []⟩
def d_raw_net : He.DefD := ⟨("raw_net", none), "raw_net", "raw_net", defArgs (top 109), defBody (top 109), defScope (top 109), [], []⟩
def d_net_form : He.DefD := ⟨("net_form", none), "net_form", "net_form", defArgs (top 110), defBody (top 110), defScope (top 110), [], []⟩
def d_raw_gross : He.DefD := ⟨("raw_gross", none), "raw_gross", "raw_gross", defArgs (top 111), defBody (top 111), defScope (top 111), [], []⟩
def d_gross_for : He.DefD := ⟨("gross_for", none), "gross_for", "gross_for", defArgs (top 112), defBody (top 112), defScope (top 112), [], []⟩
def d_net_set : He.DefD := ⟨("net_set", none), "net_set", "net_set", defArgs (top 113), defBody (top 113), defScope (top 113), [], []⟩
def d__law_hand : He.DefD := ⟨("_law_hand", none), "_law_hand", "_law_hand", defArgs (top 115), defBody (top 115), defScope (top 115), [], []⟩
def d__law_draw : He.DefD := ⟨("_law_draw", none), "_law_draw", "_law_draw", defArgs (top 116), defBody (top 116), defScope (top 116), [], []⟩
def d__law_any : He.DefD := ⟨("_law_any", none), "_law_any", "_law_any", defArgs (top 117), defBody (top 117), defScope (top 117), [], []⟩
def d__law_tax : He.DefD := ⟨("_law_tax", none), "_law_tax", "_law_tax", defArgs (top 118), defBody (top 118), defScope (top 118), [], []⟩
def d__law_due : He.DefD := ⟨("_law_due", none), "_law_due", "_law_due", defArgs (top 119), defBody (top 119), defScope (top 119), [], []⟩
def d__law_word : He.DefD := ⟨("_law_word", none), "_law_word", "_law_word", defArgs (top 120), defBody (top 120), defScope (top 120), [], []⟩
def d__law_are_nets_right : He.DefD := ⟨("_law_are_nets_right", none), "_law_are_nets_right", "_law_are_nets_right", defArgs (top 121), defBody (top 121), defScope (top 121), [], []⟩
def d_law : He.DefD := ⟨("law", none), "law", "law", defArgs (top 122), defBody (top 122), defScope (top 122), [], []⟩
def fn : List He.DefD := [d_is_integer, d_is_within, d_is_number, d_is_flag, d_is_sized, d_common_part, d_common_round, d_up_by, d_is_form, d_check_form, d_check_two, d_check_number, d_check_width, d_raw_price, d_price_at, d_does_repeat, d_raw_least, d_made, d_is_least, d_rise_in, d_raw_added, d_raw_lessened, d_lessened, d_won_from, d_raw_greater, d_turned, d_raw_lesser, d_raw_scaled, d_raw_shared, d_raw_left, d_raw_moved, d_raw_packed, d_raw_unpacked, d_raw_change, d_running, d_raw_highest, d_raw_lowest, d_raw_within, d_split_from, d_split_at, d_raw_split, d_is_listed, d_is_node, d_raw_parts, d_raw_is_rule, d_check_rule, d_raw_nodes, d_are_bands, d_raw_band, d_raw_bands_form, d_is_set, d_check_set, d_raw_has, d_has, d_raw_least_set, d_least_set, d_made_set, d_signed_from, d_raw_where_less, d_raw_most, d_least_in, d_flat, d_raw_falls, d_never_falls, d_leaf_form, d_raw_into, d_joined_by, d_counted_by, d_form_by, d_raw_forms, d_raw_form, d_form_of, d_check_tax, d_raw_tax, d_tax_form, d_raw_net, d_net_form, d_raw_gross, d_gross_for, d_net_set, d__law_hand, d__law_draw, d__law_any, d__law_tax, d__law_due, d__law_word, d__law_are_nets_right, d_law]
def tf : List He.Defn := [("raw_added", none), ("raw_lessened", none), ("raw_greater", none), ("raw_scaled", none), ("raw_shared", none), ("raw_left", none), ("raw_moved", none), ("raw_packed", none), ("raw_unpacked", none), ("raw_change", none), ("raw_highest", none), ("raw_within", none), ("raw_split", none), ("raw_bands_form", none), ("raw_where_less", none), ("raw_into", none), ("raw_tax", none), ("net_set", none), ("law", none)]
def names0 : List PySem.Str := [PySem.Str.ofString "is_integer", PySem.Str.ofString "is_within", PySem.Str.ofString "is_number", PySem.Str.ofString "is_flag", PySem.Str.ofString "is_sized", PySem.Str.ofString "common_part", PySem.Str.ofString "common_round", PySem.Str.ofString "up_by", PySem.Str.ofString "PriceError", PySem.Str.ofString "NoForm", PySem.Str.ofString "NoNumber", PySem.Str.ofString "NoRule", PySem.Str.ofString "NoSet", PySem.Str.ofString "NoTax", PySem.Str.ofString "TooMany", PySem.Str.ofString "MOST_FORM", PySem.Str.ofString "is_form", PySem.Str.ofString "check_form", PySem.Str.ofString "check_two", PySem.Str.ofString "check_number", PySem.Str.ofString "check_width", PySem.Str.ofString "raw_price", PySem.Str.ofString "price_at", PySem.Str.ofString "does_repeat", PySem.Str.ofString "raw_least", PySem.Str.ofString "made", PySem.Str.ofString "is_least", PySem.Str.ofString "rise_in", PySem.Str.ofString "raw_added", PySem.Str.ofString "raw_lessened", PySem.Str.ofString "lessened", PySem.Str.ofString "won_from", PySem.Str.ofString "raw_greater", PySem.Str.ofString "turned", PySem.Str.ofString "raw_lesser", PySem.Str.ofString "raw_scaled", PySem.Str.ofString "raw_shared", PySem.Str.ofString "raw_left", PySem.Str.ofString "raw_moved", PySem.Str.ofString "raw_packed"]
def names1 : List PySem.Str := [PySem.Str.ofString "raw_unpacked", PySem.Str.ofString "raw_change", PySem.Str.ofString "running", PySem.Str.ofString "raw_highest", PySem.Str.ofString "raw_lowest", PySem.Str.ofString "raw_within", PySem.Str.ofString "split_from", PySem.Str.ofString "split_at", PySem.Str.ofString "raw_split", PySem.Str.ofString "MOST_RULES", PySem.Str.ofString "MOST_DEEP", PySem.Str.ofString "MOST_SIZE", PySem.Str.ofString "MOST_STEP", PySem.Str.ofString "MOST_LISTED", PySem.Str.ofString "SPOTS", PySem.Str.ofString "SIZES", PySem.Str.ofString "LOWS", PySem.Str.ofString "HIGHS", PySem.Str.ofString "is_listed", PySem.Str.ofString "is_node", PySem.Str.ofString "raw_parts", PySem.Str.ofString "raw_is_rule", PySem.Str.ofString "check_rule", PySem.Str.ofString "raw_nodes", PySem.Str.ofString "MOST_BANDS", PySem.Str.ofString "MOST_FROM", PySem.Str.ofString "MOST_EACH_bands", PySem.Str.ofString "are_bands", PySem.Str.ofString "raw_band", PySem.Str.ofString "raw_bands_form", PySem.Str.ofString "is_set", PySem.Str.ofString "check_set", PySem.Str.ofString "raw_has", PySem.Str.ofString "has", PySem.Str.ofString "raw_least_set", PySem.Str.ofString "least_set", PySem.Str.ofString "made_set", PySem.Str.ofString "signed_from", PySem.Str.ofString "raw_where_less", PySem.Str.ofString "raw_most"]
def names2 : List PySem.Str := [PySem.Str.ofString "least_in", PySem.Str.ofString "flat", PySem.Str.ofString "raw_falls", PySem.Str.ofString "never_falls", PySem.Str.ofString "leaf_form", PySem.Str.ofString "raw_into", PySem.Str.ofString "joined_by", PySem.Str.ofString "counted_by", PySem.Str.ofString "form_by", PySem.Str.ofString "raw_forms", PySem.Str.ofString "raw_form", PySem.Str.ofString "form_of", PySem.Str.ofString "MOST_EACH_taxes", PySem.Str.ofString "HUNDRED", PySem.Str.ofString "ALL", PySem.Str.ofString "check_tax", PySem.Str.ofString "raw_tax", PySem.Str.ofString "tax_form", PySem.Str.ofString "raw_net", PySem.Str.ofString "net_form", PySem.Str.ofString "raw_gross", PySem.Str.ofString "gross_for", PySem.Str.ofString "net_set", PySem.Str.ofString "_law_hand", PySem.Str.ofString "_law_draw", PySem.Str.ofString "_law_any", PySem.Str.ofString "_law_tax", PySem.Str.ofString "_law_due", PySem.Str.ofString "_law_word", PySem.Str.ofString "_law_are_nets_right"]
def names : List PySem.Str := names0 ++ names1 ++ names2
abbrev R : PySem.W.OpenRow := PySem.W.OpenLaw.row PySem.Challenge.rw_pricesforever_k76_whole_taxes_gross_and
def ex (K : PySem.W.Frag) : Bool := modB G0 CT0 tf K
abbrev hk : PySem.W.Hook := hookL (asL 1000) fn ts tf ex
def ob (s : PySem.W.SharedT) : He.AlX := obsL (asL 1000) fn ts tf ex (HandSHeadRun.getT s)
theorem ob_eq (s : PySem.W.SharedT) : ob s = hk.obs s.abs := obsL_eq (HandSHeadRun.getT_eq s)
theorem run1 (w : World) : HandSHeadRun.RunEq R (PySem.W.view R.prog [122]) hk ob 20000 names (fxW true w) := by
  intro os
  kernel_rfl
theorem run0 (w : World) : HandSHeadRun.RunEq R (PySem.W.view R.prog [122]) hk ob 20000 names (fxW false w) := by
  intro os
  kernel_rfl
theorem run (w : World) : HandSHeadRun.RunEq R (PySem.W.view R.prog [122]) hk ob 20000 names w := run_both run1 run0 w
end Pf.LW
open PySem PySem.W PySem.Calls PyProof.Rows
theorem Pf.LW.holds_of (hq : Pf.LawEq Pf.LW.Pg 60 87 63) : PySem.Challenge.rw_pricesforever_k76_whole_taxes_gross_and.Holds := by
  w_on; o_law
  refine HandSHeadRun.head_any (r := OpenLaw.row PySem.Challenge.rw_pricesforever_k76_whole_taxes_gross_and) (q := view (OpenLaw.row PySem.Challenge.rw_pricesforever_k76_whole_taxes_gross_and).prog [122]) (H := Pf.LW.hk) (ob := Pf.LW.ob) (M := 20000) (loose := Pf.LW.names) (d := HandSHeadRun.topDef (OpenLaw.row PySem.Challenge.rw_pricesforever_k76_whole_taxes_gross_and).prog 122) (kwd := []) Pf.LW.ob_eq
    (by kernel_rfl) (fun s => by kernel_rfl) Pf.LW.run (by kernel_rfl) (by kernel_rfl) (by kernel_rfl) (by rfl) (by first | assumption | decide +kernel) (by decide +kernel) ⟨rfl, rfl, rfl, rfl, rfl, by decide +kernel⟩ ?hw ?hc
  case hw => w_witness2
  case hc =>
    refine Pf.walk_G (l := PySem.Challenge.rw_pricesforever_k76_whole_taxes_gross_and) (n := 63) (k := 60) (x := "script") rfl (by decide) (by kernel_rfl) ⟨rfl, by decide, by decide⟩ ?F
    intro w mg fa h Y G hmg0
    obtain ⟨K, KX, c⟩ := Y
    have hmg : mg ("law" : PySem.Str) = some (.ref fa) := by
      have e : (HandSHeadRun.topDef (OpenLaw.row PySem.Challenge.rw_pricesforever_k76_whole_taxes_gross_and).prog 122).name = ("law" : PySem.Str) := by kernel_rfl
      rw [← e]
      exact hmg0
    have hfa : mg ("law" : PySem.Str) = some (.ref (He.fAd K (PySem.Str.ofString "law", none))) := by
      have hmod := c.more
      unfold Pf.LW.ex Pf.modB at hmod
      simp only [Bool.and_eq_true] at hmod
      exact PySem.W.mg_of KX G (He.eqO_ok (List.all_eq_true.mp hmod.1.1 (PySem.Str.ofString "law", Pf.GI.fn 87 1) (Pf.lookup_mem' (by kernel_rfl))))
    have efa : fa = He.fAd K (PySem.Str.ofString "law", none) := by
      rw [hmg] at hfa
      cases hfa
      rfl
    rw [efa]
    exact ⟨K, KX, Pf.law_at (dl := ⟨PySem.Str.ofString "law", PySem.Str.ofString "law", Pf.LW.top 122, Pf.LW.N_law, [PySem.Str.ofString "script"], true, Pf.LW.b_law⟩) Pf.LW.good rfl (Pf.fnGB_by (by kernel_rfl)) (Pf.tabGB_by (by kernel_rfl)) (Pf.hGd_by (by kernel_rfl)) (Pf.hlam_by (by kernel_rfl)) rfl rfl KX G c hq⟩
-- BAD raw_within a lambda with cells
end

section
set_option Elab.async false
set_option linter.all false
set_option maxRecDepth 20000
/-! E1: how a reading is computed. -/
namespace Pf
open PySem PySem.Spec PyProof.Rows L2
/-- a body's end -/
def fin : SO → R D
  | .nx _ S1 => .ok .non S1
  | .rt d S1 => .ok d S1
  | .ex c _ S1 => .exc c S1
  | _ => .bad
theorem runB_e (b : St) (nN np : Nat) (args : List D) (S : Store) (h : args.length = np) : runB b nN np args S = fin (b (args.map some ++ List.replicate (nN - args.length) none) S) := by
  unfold runB
  rw [if_pos h]
  generalize b (args.map some ++ List.replicate (nN - args.length) none) S = o
  cases o <;> rfl
/-! ### the store after a call -/
theorem gc_same {d : D} {S : Store} (h : isD d = true) : gcR S (.ok d S) = .ok d S := by simp [gcR, h]
theorem keepOk_app (S X : Store) : keepOk S (S ++ X) := by
  intro n o hn h
  rw [List.getElem?_append_left hn] at h
  exact .inl h
mutual
theorem isD_of_wf {n : Nat} : ∀ (d : D), wfD n d = true → isD d = true
  | .tup _ ds, h => by simp only [wfD, isD] at h ⊢; exact isDs_of_wfs ds h
  | .rol ds, h => by simp only [wfD, isD] at h ⊢; exact isDs_of_wfs ds h
  | .non, _ => rfl
  | .bl _, _ => rfl
  | .int _, _ => rfl
  | .str _, _ => rfl
  | .ref _, _ => rfl
  | .clo _ _, h => by simp [wfD] at h
  | .exn _, h => by simp [wfD] at h
theorem isDs_of_wfs {n : Nat} : ∀ (ds : List D), wfDs n ds = true → isDs ds = true
  | [], _ => rfl
  | d :: r, h => by
    simp only [wfDs, isDs, Bool.and_eq_true] at h ⊢
    exact ⟨isD_of_wf d h.1, isDs_of_wfs r h.2⟩
end
theorem gc_junk {d : D} {S X : Store} (h : wfD S.length d = true) : gcR S (.ok d (S ++ X)) = .ok d S := by
  have h1 := isD_of_wf d h
  by_cases e : X = []
  · subst e
    rw [List.append_nil, gc_same h1]
  · have : ¬ (S ++ X).length ≤ S.length := by
      have : 0 < X.length := List.length_pos_iff.mpr e
      rw [List.length_append]; omega
    simp only [gcR, h1, this, if_true, if_false]
    rw [if_pos ⟨h, keepOk_app S X⟩, List.take_left]
theorem gc_exc {c : PySem.Str} {S X : Store} : gcR S (.exc c (S ++ X)) = .exc c S := by
  by_cases e : X = []
  · subst e; simp [gcR]
  · have : ¬ (S ++ X).length ≤ S.length := by
      have : 0 < X.length := List.length_pos_iff.mpr e
      rw [List.length_append]; omega
    simp only [gcR, this, if_false]
    rw [if_pos (keepOk_app S X), List.take_left]
theorem gc_exc0 {c : PySem.Str} {S : Store} : gcR S (.exc c S) = .exc c S := by simp [gcR]
/-! ### equations -/
def tvD : D → Store → R Bool
  | .bl c, S => .ok c S
  | _, _ => .bad
def inD' : D → Store → R Int
  | .int c, S => .ok c S
  | _, _ => .bad
def rg1 (j : Int) (S : Store) : R (List D × Gd) := if rgSmall j then .ok (rgD 0 j.toNat, []) S else .bad
def rg2 (i j : Int) (S : Store) : R (List D × Gd) := if rgSmall i ∧ rgSmall j then .ok (rgD i (j - i).toNat, []) S else .bad
def rgd (i j : Int) (S : Store) : R (List D × Gd) := if rgSmall i ∧ rgSmall j then .ok (rgDown i (i - j).toNat, []) S else .bad
def rgl (i j : Int) (S : Store) : R (List D) := if rgSmall i ∧ rgSmall j ∧ (j - i).toNat ≤ 2 ^ 24 then .ok (rgD i (j - i).toNat) S else .bad
section
variable {S : Store}
@[simp] theorem tvD_e (c : Bool) : tvD (.bl c) S = .ok c S := (rfl)
@[simp] theorem inD'_e (c : Int) : inD' (.int c) S = .ok c S := (rfl)
theorem sm62 {i : Int} (h1 : -4611686018427387904 ≤ i) (h2 : i < 4611686018427387904) : rgSmall i := by
  unfold rgSmall; omega
theorem sL : sizeLine = 16777216 := (rfl)
theorem rg1_e {j : Int} (h1 : -4611686018427387904 ≤ j) (h2 : j < 4611686018427387904) : rg1 j S = .ok (rgD 0 j.toNat, []) S := by
  unfold rg1; rw [if_pos (sm62 h1 h2)]
theorem rg2_e {i j : Int} (h1 : -4611686018427387904 ≤ i) (h2 : i < 4611686018427387904) (h3 : -4611686018427387904 ≤ j) (h4 : j < 4611686018427387904) : rg2 i j S = .ok (rgD i (j - i).toNat, []) S := by
  unfold rg2; rw [if_pos ⟨sm62 h1 h2, sm62 h3 h4⟩]
theorem rgd_e {i j : Int} (h1 : -4611686018427387904 ≤ i) (h2 : i < 4611686018427387904) (h3 : -4611686018427387904 ≤ j) (h4 : j < 4611686018427387904) : rgd i j S = .ok (rgDown i (i - j).toNat, []) S := by
  unfold rgd; rw [if_pos ⟨sm62 h1 h2, sm62 h3 h4⟩]
theorem rgl_e {i j : Int} (h1 : -4611686018427387904 ≤ i) (h2 : i < 4611686018427387904) (h3 : -4611686018427387904 ≤ j) (h4 : j < 4611686018427387904) (h5 : j - i ≤ 16777216) : rgl i j S = .ok (rgD i (j - i).toNat) S := by
  unfold rgl; rw [if_pos ⟨sm62 h1 h2, sm62 h3 h4, by omega⟩]
end
section
variable {α β : Type} {ρ : Env} {S : Store}
@[simp] theorem bind_ok (a : α) (f : α → Store → R β) : (R.ok a S).bind f = f a S := (rfl)
@[simp] theorem bind_exc (c : PySem.Str) (f : α → Store → R β) : (R.exc c S : R α).bind f = .exc c S := (rfl)
@[simp] theorem bind_bad (f : α → Store → R β) : (R.bad : R α).bind f = .bad := (rfl)
@[simp] theorem sX_ok (a : α) (f : α → Store → SO) : sX (.ok a S) ρ f = f a S := (rfl)
@[simp] theorem sX_exc (c : PySem.Str) (f : α → Store → SO) : sX (.exc c S : R α) ρ f = .ex c ρ S := (rfl)
@[simp] theorem slot_0 (d : Option D) (r : Env) : slot (d :: r) 0 = d := (rfl)
@[simp] theorem slot_s (d : Option D) (r : Env) (n : Nat) : slot (d :: r) (n + 1) = slot r n := (rfl)
@[simp] theorem slot_nil (n : Nat) : slot [] n = none := by cases n <;> rfl
@[simp] theorem cD_e (d : D) : cD d ρ S = .ok d S := (rfl)
theorem cV_e (i : Nat) {d : D} (h : slot ρ i = some d) : cV i ρ S = .ok d S := by simp [cV, h]
@[simp] theorem cV_0 (d : D) (r : Env) : cV 0 (some d :: r) S = .ok d S := (rfl)
@[simp] theorem cV_s (o : Option D) (r : Env) (n : Nat) : cV (n + 1) (o :: r) S = cV n r S := (rfl)
@[simp] theorem c1_e (op : D → Store → R D) (a : Ex) : c1 op a ρ S = (a ρ S).bind fun x S1 => op x S1 := (rfl)
@[simp] theorem c2_e (op : D → D → Store → R D) (a b : Ex) : c2 op a b ρ S = (a ρ S).bind fun x S1 => (b ρ S1).bind fun y S2 => op x y S2 := (rfl)
@[simp] theorem aNil_e : aNil ρ S = .ok [] S := (rfl)
@[simp] theorem aCons_e (a : Ex) (as : Ar) : aCons a as ρ S = (a ρ S).bind fun x S1 => (as ρ S1).bind fun xs S2 => .ok (x :: xs) S2 := (rfl)
@[simp] theorem cN_e (op : List D → Store → R D) (as : Ar) : cN op as ρ S = (as ρ S).bind fun xs S1 => op xs S1 := (rfl)
@[simp] theorem cK_e (op : List D → Store → R D) (as : Ar) : cK op as ρ S = (as ρ S).bind fun xs S1 => op xs S1 := (rfl)
@[simp] theorem cNew_e (as : Ar) : cNew as ρ S = (as ρ S).bind fun xs S1 => oLst xs S1 := (rfl)
@[simp] theorem cCall_e (C : Calls) (i : Nat) (as : Ar) : cCall C i as ρ S = (as ρ S).bind fun xs S1 => C.f i xs S1 := (rfl)
@[simp] theorem tV_e (a : Ex) : tV a ρ S = (a ρ S).bind tvD := by unfold tV; congr 1; funext x S1; cases x <;> rfl
@[simp] theorem tNot_e (t : Ts) : tNot t ρ S = (t ρ S).bind fun c S1 => .ok (!c) S1 := (rfl)
@[simp] theorem tAnd_e (t u : Ts) : tAnd t u ρ S = (t ρ S).bind fun c S1 => if c = true then u ρ S1 else .ok false S1 := (rfl)
@[simp] theorem tOr_e (t u : Ts) : tOr t u ρ S = (t ρ S).bind fun c S1 => if c = true then .ok true S1 else u ρ S1 := (rfl)
@[simp] theorem tYes_e : tYes ρ S = .ok true S := (rfl)
@[simp] theorem cIf_e (t : Ts) (a b : Ex) : cIf t a b ρ S = (t ρ S).bind fun c S1 => if c = true then a ρ S1 else b ρ S1 := (rfl)
@[simp] theorem cAnd_e (a b : Ex) : cAnd a b ρ S = (a ρ S).bind fun x S1 => (tvD x S1).bind fun c S2 => if c = true then b ρ S2 else .ok (.bl false) S2 := by unfold cAnd; congr 1; funext x S1; cases x <;> rfl
@[simp] theorem cOr_e (a b : Ex) : cOr a b ρ S = (a ρ S).bind fun x S1 => (tvD x S1).bind fun c S2 => if c = true then .ok (.bl true) S2 else b ρ S2 := by unfold cOr; congr 1; funext x S1; cases x <;> rfl
@[simp] theorem cChain_e (op op' : D → D → Store → R D) (a b c : Ex) : cChain op op' a b c ρ S = (a ρ S).bind fun x S1 => (b ρ S1).bind fun y S2 => (op x y S2).bind fun z S3 => (tvD z S3).bind fun k S3 => if k = true then (c ρ S3).bind fun w S4 => op' y w S4 else .ok (.bl false) S3 := by
  unfold cChain; congr 1; funext x S1; congr 1; funext y S2; congr 1; funext z S3; cases z <;> rfl
@[simp] theorem pNo_e : pNo ρ S = .ok none S := (rfl)
@[simp] theorem pSome_e (a : Ex) : pSome a ρ S = (a ρ S).bind fun x S1 => (inD' x S1).bind fun i S2 => .ok (some i) S2 := by unfold pSome; congr 1; funext x S1; cases x <;> rfl
@[simp] theorem cCut_e (a : Ex) (lo hi : Pt) : cCut a lo hi ρ S = (a ρ S).bind fun x S1 => (lo ρ S1).bind fun l S2 => (hi ρ S2).bind fun h S3 => oCut x l h S3 := (rfl)
@[simp] theorem aDisp_e (as : Ar) : aDisp as ρ S = (as ρ S).bind fun xs S1 => if xs.length ≤ sizeLine then .ok xs S1 else .bad := (rfl)
@[simp] theorem iA_e (a : Ar) : iA a ρ S = (a ρ S).bind fun ds S1 => .ok (ds, []) S1 := (rfl)
@[simp] theorem iE_e (a : Ex) : iE a ρ S = (a ρ S).bind seqL := (rfl)
@[simp] theorem iL_e (a : Ex) : iL a ρ S = (a ρ S).bind refL := (rfl)
@[simp] theorem iR1_e (b : Ex) : iR1 b ρ S = (b ρ S).bind fun y S2 => (inD' y S2).bind fun j S2 => rg1 j S2 := by unfold iR1; congr 1; funext x S1; cases x <;> rfl
@[simp] theorem iR_e (a b : Ex) : iR a b ρ S = (a ρ S).bind fun x S1 => (b ρ S1).bind fun y S2 => (inD' x S2).bind fun i S2 => (inD' y S2).bind fun j S2 => rg2 i j S2 := by unfold iR; congr 1; funext x S1; congr 1; funext y S2; cases x <;> first | rfl | (cases y <;> rfl)
@[simp] theorem iRdn_e (a b : Ex) : iRdn a b ρ S = (a ρ S).bind fun x S1 => (b ρ S1).bind fun y S2 => (inD' x S2).bind fun i S2 => (inD' y S2).bind fun j S2 => rgd i j S2 := by unfold iRdn; congr 1; funext x S1; congr 1; funext y S2; cases x <;> first | rfl | (cases y <;> rfl)
@[simp] theorem aRg_e (a b : Ex) : aRg a b ρ S = (a ρ S).bind fun x S1 => (b ρ S1).bind fun y S2 => (inD' x S2).bind fun i S2 => (inD' y S2).bind fun j S2 => rgl i j S2 := by unfold aRg; congr 1; funext x S1; congr 1; funext y S2; cases x <;> first | rfl | (cases y <;> rfl)
@[simp] theorem sSeq_e (a b : St) : sSeq a b ρ S = match a ρ S with
  | .nx ρ1 S1 => b ρ1 S1
  | o => o := (rfl)
theorem sSeq_nx {a b : St} {ρ1 : Env} {S1 : Store} (h : a ρ S = .nx ρ1 S1) : sSeq a b ρ S = b ρ1 S1 := by simp [sSeq, h]
theorem sSeq_rt {a b : St} {d : D} {S1 : Store} (h : a ρ S = .rt d S1) : sSeq a b ρ S = .rt d S1 := by simp [sSeq, h]
@[simp] theorem sNx_e : sNx ρ S = .nx ρ S := (rfl)
@[simp] theorem sSet_e (tg : Tg) (a : Ex) : sSet tg a ρ S = sX (a ρ S) ρ fun d S1 => match tg d ρ with
  | some ρ1 => .nx ρ1 S1
  | none => .bad := (rfl)
@[simp] theorem sPar_e (tg : Tgs) (a : Ar) : sPar tg a ρ S = sX (a ρ S) ρ fun d S1 => match tg d ρ with
  | some ρ1 => .nx ρ1 S1
  | none => .bad := (rfl)
@[simp] theorem sDrop_e (a : Ex) : sDrop a ρ S = sX (a ρ S) ρ fun _ S1 => .nx ρ S1 := (rfl)
@[simp] theorem sRet_e (a : Ex) : sRet a ρ S = sX (a ρ S) ρ fun d S1 => .rt d S1 := (rfl)
@[simp] theorem sIf_e (t : Ts) (a b : St) : sIf t a b ρ S = sX (t ρ S) ρ fun c S1 => if c = true then a ρ S1 else b ρ S1 := (rfl)
@[simp] theorem sRaise_e (c : PySem.Str) : sRaise c ρ S = .ex c ρ S := (rfl)
@[simp] theorem gV_e (i : Nat) (d : D) : gV i d ρ = some (ρ.set i (some d)) := (rfl)
@[simp] theorem gNil_e : gNil [] ρ = some ρ := (rfl)
@[simp] theorem gCons_e (g : Tg) (gs : Tgs) (d : D) (r : List D) : gCons g gs (d :: r) ρ = (g d ρ).bind fun ρ1 => gs r ρ1 := (rfl)
@[simp] theorem gTup_e (gs : Tgs) (f : TF) (ds : List D) : gTup gs (.tup f ds) ρ = gs ds ρ := (rfl)
@[simp] theorem aComp_e (own : List Nat) (it : It) (tg : Tg) (t : Ts) (e : Ex) : aComp own it tg t e ρ S = (it ρ S).bind fun p S1 => compF p.2 tg t e (wipeD ρ own) p.1 [] S1 := (rfl)
@[simp] theorem sFor_e (it : It) (tg : Tg) (b : St) : sFor it tg b ρ S = sX (it ρ S) ρ fun p S1 => forF p.2 tg b p.1 ρ S1 := (rfl)
@[simp] theorem sWhile_e (t : Ts) (b : St) : sWhile t b ρ S = whileF t b fuel ρ S := (rfl)
@[simp] theorem wipe_nil : wipeD ρ [] = ρ := (rfl)
@[simp] theorem wipe_cons (v : Nat) (vs : List Nat) : wipeD ρ (v :: vs) = (wipeD ρ vs).set v none := (rfl)
@[simp] theorem seqL_tup (f : TF) (ds : List D) : seqL (.tup f ds) S = .ok (ds, []) S := (rfl)
theorem seqL_ref {n : Nat} {ds : List D} (h : S[n]? = some (.lst ds)) : seqL (.ref n) S = .ok (ds, [(n, ds)]) S := by simp [seqL, h]
@[simp] theorem cCallV_e (C : Calls) (i : Nat) (as : Ar) : cCallV C i as ρ S = match slot ρ i with
  | some (.clo j caps) => (as ρ S).bind fun xs S1 => C.l j caps xs S1
  | _ => .bad := (rfl)
@[simp] theorem cCallL_e (C : Calls) (i : Nat) (as : Ar) (li : LamI) (js : List Nat) : cCallL C i as li js ρ S = (as ρ S).bind fun xs S1 => match capsOf ρ js with
  | some caps => if isDs caps = true then noX (C.f i (xs ++ [.clo li caps]) S1) else .bad
  | none => .bad := (rfl)
@[simp] theorem capsOf_nil : capsOf ρ [] = some [] := (rfl)
@[simp] theorem capsOf_cons (i : Nat) (is : List Nat) : capsOf ρ (i :: is) = match slot ρ i with
    | some d => (capsOf ρ is).map (d :: ·)
    | none => none := (rfl)
@[simp] theorem oTup_e (xs : List D) (h : xs.length ≤ 16777216) : oTup xs S = .ok (.tup .any xs) S := by unfold oTup; rw [sL, if_pos h]
@[simp] theorem kTup_e (xs : List D) : kTup xs S = .ok (.tup .hard xs) S := (rfl)
@[simp] theorem kLen_e (xs : List D) : kLen xs S = .ok (.int xs.length) S := (rfl)
theorem oLst_e {xs : List D} (h : isDs xs = true) (h2 : xs.length ≤ 16777216) : oLst xs S = .ok (.ref S.length) (S ++ [.lst xs]) := by unfold oLst; rw [sL, if_pos ⟨h, h2⟩]
@[simp] theorem oLen_tup (f : TF) (ds : List D) : oLen [.tup f ds] S = .ok (.int ds.length) S := (rfl)
theorem noX_ok {d : D} (h : isD d = true) : noX (.ok d S) = .ok d S := by simp [noX, h]
theorem okR_ok {d : D} (h : isD d = true) : okR (.ok d S) = .ok d S := by simp [okR, h]
end
@[simp] theorem gd_nil (S : Store) : gdOk [] S := trivial
/-! ### operators -/
section
variable {S : Store}
@[simp] theorem oSub_e (i j : Int) : oSub (.int i) (.int j) S = .ok (.int (i - j)) S := (rfl)
@[simp] theorem oAddA_e (i j : Int) : oAddA (.int i) (.int j) S = .ok (.int (i + j)) S := (rfl)
@[simp] theorem oNeg_e (i : Int) : oNeg (.int i) S = .ok (.int (-i)) S := (rfl)
@[simp] theorem oLt_e (i j : Int) : oLt (.int i) (.int j) S = .ok (.bl (decide (i < j))) S := (rfl)
@[simp] theorem oLe_e (i j : Int) : oLe (.int i) (.int j) S = .ok (.bl (decide (i ≤ j))) S := (rfl)
@[simp] theorem oGt_e (i j : Int) : oGt (.int i) (.int j) S = .ok (.bl (decide (j < i))) S := (rfl)
@[simp] theorem oGe_e (i j : Int) : oGe (.int i) (.int j) S = .ok (.bl (decide (j ≤ i))) S := (rfl)
@[simp] theorem oNot_e (c : Bool) : oNot (.bl c) S = .ok (.bl (!c)) S := (rfl)
@[simp] theorem oMod_e (i j : Int) (h : 0 < j) : oMod (.int i) (.int j) S = .ok (.int (i % j)) S := by simp [oMod, h]
/-- a number that the model's bounds are far from -/
def Sm (i : Int) : Prop := i.natAbs < 2 ^ 4000
theorem log2_sm {i : Int} (h : Sm i) : i.natAbs.log2 < 4000 := by
  by_cases e : i.natAbs = 0
  · rw [e]; decide
  · exact (Nat.log2_lt e).mpr h
theorem oMulA_e {i j : Int} (hi : Sm i) (hj : Sm j) : oMulA (.int i) (.int j) S = .ok (.int (i * j)) S := by
  have h1 := log2_sm hi
  have h2 := log2_sm hj
  show (if i.natAbs.log2 + j.natAbs.log2 < 1000000 then R.ok (D.int (i * j)) S else .bad) = _
  rw [if_pos (by omega)]
theorem oDiv_e {i j : Int} (h : 0 < j) (hj : Sm j) : oDiv (.int i) (.int j) S = .ok (.int (i / j)) S := by
  have h2 := log2_sm hj
  show (if 0 < j ∧ j.natAbs.log2 < 9000 then R.ok (D.int (i / j)) S else .bad) = _
  rw [if_pos ⟨h, by omega⟩]
theorem eqD_int (i j : Int) : eqD (.int i) (.int j) = decide (i = j) := by
  show decide (i = j) = _
  rfl
@[simp] theorem oEq_int (i j : Int) : oEq (.int i) (.int j) S = .ok (.bl (decide (i = j))) S := by
  simp [oEq, drf, okD, eqD_int]
@[simp] theorem oNe_int (i j : Int) : oNe (.int i) (.int j) S = .ok (.bl (!decide (i = j))) S := by
  simp [oNe, drf, okD, eqD_int]
@[simp] theorem oMax2_e (i j : Int) : oMax2 [.int i, .int j] S = .ok (.int (max i j)) S := by
  have : (if j > i then j else i) = max i j := by omega
  simp [oMax2, this]
@[simp] theorem oMin2_e (i j : Int) : oMin2 [.int i, .int j] S = .ok (.int (min i j)) S := by
  have : (if j < i then j else i) = min i j := by omega
  simp [oMin2, this]
theorem atI_nat {α : Type} (xs : List α) (n : Nat) (h : n < xs.length) : atI xs (n : Int) = xs[n]? := by
  have : ixN xs.length (n : Int) = some n := by
    unfold ixN
    rw [if_pos (by omega), if_pos (by omega)]
    simp
  simp [atI, this]
theorem oIx_tup {f : TF} {ds : List D} {i : Int} {d : D} (h : atI ds i = some d) : oIx (.tup f ds) (.int i) S = .ok d S := by simp [oIx, itemsOf, h]
theorem oIx_ref {n : Nat} {ds : List D} {i : Int} {d : D} (hn : S[n]? = some (.lst ds)) (h : atI ds i = some d) : oIx (.ref n) (.int i) S = .ok d S := by simp [oIx, itemsOf, hn, h]
@[simp] theorem oIx_0 (f : TF) (d0 : D) (ds : List D) : oIx (.tup f (d0 :: ds)) (.int 0) S = .ok d0 S := oIx_tup (atI_nat (d0 :: ds) 0 (by simp))
@[simp] theorem oIx_1 (f : TF) (d0 d1 : D) (ds : List D) : oIx (.tup f (d0 :: d1 :: ds)) (.int 1) S = .ok d1 S := oIx_tup (atI_nat (d0 :: d1 :: ds) 1 (by simp))
@[simp] theorem oIx_2 (f : TF) (d0 d1 d2 : D) (ds : List D) : oIx (.tup f (d0 :: d1 :: d2 :: ds)) (.int 2) S = .ok d2 S := oIx_tup (atI_nat (d0 :: d1 :: d2 :: ds) 2 (by simp))
@[simp] theorem oIx_3 (f : TF) (d0 d1 d2 d3 : D) (ds : List D) : oIx (.tup f (d0 :: d1 :: d2 :: d3 :: ds)) (.int 3) S = .ok d3 S := oIx_tup (atI_nat (d0 :: d1 :: d2 :: d3 :: ds) 3 (by simp))
theorem atI_last {α : Type} (xs : List α) (x : α) : atI (xs ++ [x]) (-1) = some x := by
  have : ixN (xs ++ [x]).length (-1) = some xs.length := by
    unfold ixN
    rw [if_neg (by omega), if_pos (by simp; omega)]
    simp
    omega
  unfold atI
  rw [this]
  simp
theorem oIx_m1 (f : TF) (ds : List D) (d : D) : oIx (.tup f (ds ++ [d])) (.int (-1)) S = .ok d S := oIx_tup (atI_last ds d)
theorem oIx_m1r {n : Nat} {ds : List D} {d : D} (h : S[n]? = some (.lst (ds ++ [d]))) : oIx (.ref n) (.int (-1)) S = .ok d S := oIx_ref h (atI_last ds d)
/-- the row of numbers of a function -/
def row (N : Nat) (f : Nat → Int) : List D := (List.range N).map fun n => .int (f n)
@[simp] theorem row_len (N : Nat) (f : Nat → Int) : (row N f).length = N := by simp [row]
theorem row_get {N : Nat} {f : Nat → Int} {n : Nat} (h : n < N) : (row N f)[n]? = some (.int (f n)) := by simp [row, h]
theorem atI_row {N : Nat} {f : Nat → Int} {i : Int} (h0 : 0 ≤ i) (h : i < N) : atI (row N f) i = some (.int (f i.toNat)) := by
  obtain ⟨n, rfl⟩ := Int.eq_ofNat_of_zero_le h0
  rw [atI_nat _ _ (by simp; omega), row_get (by omega)]
  simp
end
/-! ### comprehensions -/
theorem compF_map {g : Gd} {tg : Tg} {e : Ex} {ρ0 : Env} {S : Store} (hg : gdOk g S) (f : D → D) : ∀ (ds acc : List D), acc.length + ds.length ≤ sizeLine → (∀ d ∈ ds, ∃ ρ1, tg d ρ0 = some ρ1 ∧ e ρ1 S = .ok (f d) S) → compF g tg tYes e ρ0 ds acc S = .ok (acc ++ ds.map f) S
  | [], acc, _, _ => by simp [compF, hg]
  | d :: r, acc, hl, h => by
    obtain ⟨ρ1, h1, h2⟩ := h d (by simp)
    have hlt : acc.length < sizeLine := by simp at hl; omega
    have ih := compF_map hg f r (acc ++ [f d]) (by simp at hl ⊢; omega) (fun x hx => h x (by simp [hx]))
    simp only [compF, hg, h1, h2, tYes_e, if_true, hlt, ih]
    simp
theorem compF_fil {g : Gd} {tg : Tg} {t : Ts} {e : Ex} {ρ0 : Env} {S : Store} (hg : gdOk g S) (p : D → Bool) (f : D → D) : ∀ (ds acc : List D), acc.length + ds.length ≤ sizeLine → (∀ d ∈ ds, ∃ ρ1, tg d ρ0 = some ρ1 ∧ t ρ1 S = .ok (p d) S ∧ (p d = true → e ρ1 S = .ok (f d) S)) → compF g tg t e ρ0 ds acc S = .ok (acc ++ (ds.filter p).map f) S
  | [], acc, _, _ => by simp [compF, hg]
  | d :: r, acc, hl, h => by
    obtain ⟨ρ1, h1, ht, h2⟩ := h d (by simp)
    have hlt : acc.length < sizeLine := by simp at hl; omega
    cases hp : p d with
    | true =>
      have ih := compF_fil hg p f r (acc ++ [f d]) (by simp at hl ⊢; omega) (fun x hx => h x (by simp [hx]))
      simp only [compF, hg, h1, ht, hp, h2 hp, if_true, hlt, ih, List.filter_cons]
      simp
    | false =>
      have ih := compF_fil hg p f r acc (by simp at hl ⊢; omega) (fun x hx => h x (by simp [hx]))
      simp only [compF, hg, h1, ht, hp, if_true, ih, List.filter_cons]
      simp
theorem rgD_map {lo : Int} {n : Nat} {β : Type} (f : D → β) : (rgD lo n).map f = (List.range n).map fun i => f (.int (lo + (i : Nat))) := by simp [rgD, List.map_map, Function.comp_def]
@[simp] theorem rgD_len (lo : Int) (n : Nat) : (rgD lo n).length = n := by simp [rgD]
theorem mem_rgD {lo : Int} {n : Nat} {d : D} (h : d ∈ rgD lo n) : ∃ i : Nat, i < n ∧ d = .int (lo + (i : Nat)) := by
  simp only [rgD, List.mem_map, List.mem_range] at h
  obtain ⟨i, hi, e⟩ := h
  exact ⟨i, hi, e.symm⟩
theorem blsOf_map {α : Type} (f : α → Bool) : ∀ (xs : List α), blsOf (xs.map fun x => .bl (f x)) = some (xs.map f)
  | [] => rfl
  | x :: r => by simp [blsOf, blsOf_map f r]
theorem intsOf_map {α : Type} (f : α → Int) : ∀ (xs : List α), intsOf (xs.map fun x => .int (f x)) = some (xs.map f)
  | [] => rfl
  | x :: r => by simp [intsOf, intsOf_map f r]
theorem kAll_map {α : Type} (f : α → Bool) (xs : List α) (S : Store) : kAll (xs.map fun x => .bl (f x)) S = .ok (.bl (xs.all f)) S := by simp [kAll, blsOf_map, List.all_map, Function.comp_def]
theorem compF_ran {g : Gd} {tg : Tg} {e : Ex} {ρ0 : Env} {S : Store} (hg : gdOk g S) (h f : Nat → D) {N : Nat} (hN : N ≤ 16777216) (hs : ∀ n, n < N → ∃ ρ1, tg (h n) ρ0 = some ρ1 ∧ e ρ1 S = .ok (f n) S) : compF g tg tYes e ρ0 ((List.range N).map h) [] S = .ok ((List.range N).map f) S := by
  have key : ∀ (xs : List Nat) (acc : List D), acc.length + xs.length ≤ sizeLine → (∀ n ∈ xs, n < N) → compF g tg tYes e ρ0 (xs.map h) acc S = .ok (acc ++ xs.map f) S := by
    intro xs
    induction xs with
    | nil => intro acc _ _; simp [compF, hg]
    | cons x r ih =>
      intro acc hl hm
      obtain ⟨ρ1, h1, h2⟩ := hs x (hm x (by simp))
      have hlt : acc.length < sizeLine := by simp at hl; omega
      have ih2 := ih (acc ++ [f x]) (by simp at hl ⊢; omega) (fun y hy => hm y (by simp [hy]))
      simp only [List.map_cons, compF, hg, h1, h2, tYes_e, if_true, hlt, ih2]
      simp
  have := key (List.range N) [] (by simp [sL]; omega) (by simp)
  simpa using this
/-! ### loops -/
theorem forF_inv {g : Gd} {tg : Tg} {b : St} (P : Nat → Env → Store → Prop) : ∀ (ds : List D) (k : Nat) (ρ : Env) (S : Store), P k ρ S →
    (∀ i d, ds[i]? = some d → ∀ ρ S, P (k + i) ρ S → gdOk g S ∧ ∃ ρ1, tg d ρ = some ρ1 ∧ ∃ ρ2 S2, b ρ1 S = .nx ρ2 S2 ∧ P (k + i + 1) ρ2 S2) → (∀ ρ S, P (k + ds.length) ρ S → gdOk g S) →
    ∃ ρ' S', forF g tg b ds ρ S = .nx ρ' S' ∧ P (k + ds.length) ρ' S'
  | [], k, ρ, S, h, _, he => ⟨ρ, S, by simp [forF, he ρ S h], h⟩
  | d :: r, k, ρ, S, h, hs, he => by
    obtain ⟨hg, ρ1, h1, ρ2, S2, h2, h3⟩ := hs 0 d rfl ρ S h
    obtain ⟨ρ', S', h4, h5⟩ := forF_inv P r (k + 1) ρ2 S2 (by simpa using h3) (fun i d' hi ρ S hp => by
      have := hs (i + 1) d' (by simpa using hi) ρ S (by rw [show k + (i + 1) = k + 1 + i by omega]; exact hp)
      rw [show k + (i + 1) + 1 = k + 1 + i + 1 by omega] at this
      exact this) (fun ρ S hp => he ρ S (by rw [List.length_cons, show k + (r.length + 1) = k + 1 + r.length by omega]; exact hp))
    refine ⟨ρ', S', ?_, ?_⟩
    · simp only [forF, hg, h1, h2, if_true]
      exact h4
    · rw [List.length_cons, show k + (r.length + 1) = k + 1 + r.length by omega]
      exact h5
theorem sm_nat {n : Nat} (h : n < 2 ^ 62) : Sm (n : Int) := by
  unfold Sm
  rw [Int.natAbs_natCast]
  exact Nat.lt_of_lt_of_le h (Nat.pow_le_pow_right (by omega) (by omega))
theorem sm_abs {i : Int} (h : i.natAbs < 4611686018427387904) : Sm i := Nat.lt_of_lt_of_le h (by
  have : (4611686018427387904 : Nat) = 2 ^ 62 := by decide
  rw [this]
  exact Nat.pow_le_pow_right (by omega) (by omega))
theorem whileF_inv {t : Ts} {b : St} {α : Type} (E : α → Env) (Sx : α → Store) (c : α → Bool) (nxt : α → α) (m : α → Nat) (Inv : α → Prop) (ht : ∀ a, Inv a → t (E a) (Sx a) = .ok (c a) (Sx a)) (hb : ∀ a, Inv a → c a = true → b (E a) (Sx a) = .nx (E (nxt a)) (Sx (nxt a)) ∧ Inv (nxt a) ∧ m (nxt a) < m a) :
    ∀ (n : Nat) (a : α), Inv a → m a < n → ∃ a', Inv a' ∧ c a' = false ∧ whileF t b n (E a) (Sx a) = .nx (E a') (Sx a')
  | 0, a, _, h => by omega
  | n + 1, a, hi, hm => by
    cases hc : c a with
    | false => exact ⟨a, hi, hc, by simp [whileF, ht a hi, hc]⟩
    | true =>
      obtain ⟨h1, h2, h3⟩ := hb a hi hc
      obtain ⟨a', g1, g2, g3⟩ := whileF_inv E Sx c nxt m Inv ht hb n (nxt a) h2 (by omega)
      exact ⟨a', g1, g2, by simp only [whileF, ht a hi, hc, sX_ok, if_true, h1, g3]⟩
theorem fuel_eq : fuel = 2 ^ 200 := by unfold fuel; rfl
end Pf
namespace Pf
open PySem PySem.Spec PyProof.Rows L2
theorem compF_filR {α : Type} {g : Gd} {tg : Tg} {t : Ts} {e : Ex} {ρ0 : Env} {S : Store} (hg : gdOk g S) (h : α → D) (p : α → Bool) (f : α → D) (xs : List α) (hN : xs.length ≤ 16777216) (hs : ∀ x ∈ xs, ∃ ρ1, tg (h x) ρ0 = some ρ1 ∧ t ρ1 S = .ok (p x) S ∧ (p x = true → e ρ1 S = .ok (f x) S)) : compF g tg t e ρ0 (xs.map h) [] S = .ok ((xs.filter p).map f) S := by
  have key : ∀ (xs : List α) (acc : List D), acc.length + xs.length ≤ sizeLine → (∀ x ∈ xs, ∃ ρ1, tg (h x) ρ0 = some ρ1 ∧ t ρ1 S = .ok (p x) S ∧ (p x = true → e ρ1 S = .ok (f x) S)) → compF g tg t e ρ0 (xs.map h) acc S = .ok (acc ++ (xs.filter p).map f) S := by
    intro xs
    induction xs with
    | nil => intro acc _ _; simp [compF, hg]
    | cons x r ih =>
      intro acc hl hm
      obtain ⟨ρ1, h1, ht, h2⟩ := hm x (by simp)
      have hlt : acc.length < sizeLine := by simp at hl; omega
      cases hp : p x with
      | true =>
        have ih2 := ih (acc ++ [f x]) (by simp at hl ⊢; omega) (fun y hy => hm y (by simp [hy]))
        simp only [List.map_cons, compF, hg, h1, ht, hp, h2 hp, if_true, hlt, ih2, List.filter_cons]
        simp
      | false =>
        have ih2 := ih acc (by simp at hl ⊢; omega) (fun y hy => hm y (by simp [hy]))
        simp only [List.map_cons, compF, hg, h1, ht, hp, if_true, ih2, List.filter_cons]
        simp
  have := key xs [] (by simp [sL]; omega) hs
  simpa using this
theorem compF_mapR {α : Type} {g : Gd} {tg : Tg} {e : Ex} {ρ0 : Env} {S : Store} (hg : gdOk g S) (h : α → D) (f : α → D) (xs : List α) (hN : xs.length ≤ 16777216) (hs : ∀ x ∈ xs, ∃ ρ1, tg (h x) ρ0 = some ρ1 ∧ e ρ1 S = .ok (f x) S) : compF g tg tYes e ρ0 (xs.map h) [] S = .ok (xs.map f) S := by
  have := compF_filR (t := tYes) hg h (fun _ => true) f xs hN (fun x hx => by
    obtain ⟨ρ1, h1, h2⟩ := hs x hx
    exact ⟨ρ1, h1, rfl, fun _ => h2⟩)
  rw [List.filter_eq_self.mpr (by simp)] at this
  exact this
theorem mem_zipD : ∀ {as bs : List D} {d : D}, d ∈ zipD as bs → ∃ (i : Nat) (a b : D), as[i]? = some a ∧ bs[i]? = some b ∧ d = .tup .any [a, b]
  | [], bs, d, h => by simp [zipD] at h
  | a :: as, [], d, h => by simp [zipD] at h
  | a :: as, b :: bs, d, h => by
    simp only [zipD, List.mem_cons] at h
    rcases h with rfl | h
    · exact ⟨0, a, b, rfl, rfl, rfl⟩
    · obtain ⟨i, x, y, h1, h2, h3⟩ := mem_zipD h
      exact ⟨i + 1, x, y, by simpa using h1, by simpa using h2, h3⟩
theorem zipD_len : ∀ (as bs : List D), (zipD as bs).length ≤ as.length
  | [], _ => by simp [zipD]
  | a :: as, [] => by simp [zipD]
  | a :: as, b :: bs => by
    have := zipD_len as bs
    simp [zipD]
    omega
theorem kAll_all {ds : List D} (h : ∀ d ∈ ds, d = .bl true) (S : Store) : kAll ds S = .ok (.bl true) S := by
  have e : ds = (List.replicate ds.length ()).map fun _ => D.bl true := by
    induction ds with
    | nil => rfl
    | cons x r ih =>
      rw [h x (by simp)]
      have := ih (fun d hd => h d (by simp [hd]))
      simp only [List.length_cons, List.replicate_succ, List.map_cons]
      rw [← this]
  rw [e, kAll_map (fun _ => true)]
  simp
theorem set_last {S : Store} {x y : MO} : (S ++ [x]).set S.length y = S ++ [y] := by
  rw [List.set_append_right _ _ (Nat.le_refl _)]
  simp
theorem get_last {S : Store} {x : MO} : (S ++ [x])[S.length]? = some x := by simp
theorem cutD_1 (xs : List D) : cutD xs (some 1) none = xs.drop 1 := by
  unfold cutD HT.sIx
  cases xs with
  | nil => rfl
  | cons a r => simp
end Pf
end

section
set_option Elab.async false
set_option linter.all false
/-! M1: rows of prices that go on for ever: least forms. Plain Lean. -/
namespace Pf.M
/-- from b on, f grows by s each r -/
def Qp (f : Nat → Int) (b r : Nat) (s : Int) : Prop := 0 < r ∧ ∀ n, b ≤ n → f (n + r) = f n + s
theorem Qp.mul {f : Nat → Int} {b r : Nat} {s : Int} (h : Qp f b r s) : ∀ (m n : Nat), b ≤ n → f (n + m * r) = f n + m * s
  | 0, n, _ => by simp
  | m + 1, n, hn => by
    have e : n + (m + 1) * r = (n + m * r) + r := by rw [Nat.succ_mul]; omega
    rw [e, h.2 _ (by omega), Qp.mul h m n hn, Int.natCast_succ, Int.add_mul]
    omega
theorem Qp.mono {f : Nat → Int} {b b' r : Nat} {s : Int} (h : Qp f b r s) (hb : b ≤ b') : Qp f b' r s := ⟨h.1, fun n hn => h.2 n (by omega)⟩
theorem Qp.times {f : Nat → Int} {b r : Nat} {s : Int} (h : Qp f b r s) {m : Nat} (hm : 0 < m) : Qp f b (m * r) (m * s) := ⟨Nat.mul_pos hm h.1, fun n hn => h.mul m n hn⟩
/-- two steps of one row agree -/
theorem Qp.step_eq {f : Nat → Int} {b b' r : Nat} {s s' : Int} (h : Qp f b r s) (h' : Qp f b' r s') : s = s' := by
  have e1 := h.2 (b + b') (by omega)
  have e2 := h'.2 (b + b') (by omega)
  omega
/-- rises are in proportion -/
theorem Qp.prop {f : Nat → Int} {b b' r r' : Nat} {s s' : Int} (h : Qp f b r s) (h' : Qp f b' r' s') : (r' : Int) * s = (r : Int) * s' := by
  have e1 := h.mul r' (b + b') (by omega)
  have e2 := h'.mul r (b + b') (by omega)
  rw [Nat.mul_comm r r'] at e2
  omega
/-- the difference of two rounds is a round -/
theorem Qp.sub {f : Nat → Int} {b b' r r' : Nat} {s s' : Int} (h : Qp f b r s) (h' : Qp f b' r' s') (hl : r < r') : Qp f (b + b') (r' - r) (s' - s) := by
  refine ⟨by omega, fun n hn => ?_⟩
  have e1 := h.2 (n + (r' - r)) (by omega)
  have e2 := h'.2 n (by omega)
  have e3 : n + (r' - r) + r = n + r' := by omega
  rw [e3] at e1
  omega
/-- the remainder of two rounds -/
theorem Qp.mod {f : Nat → Int} {b b' r r' : Nat} {s s' : Int} (h : Qp f b r s) (h' : Qp f b' r' s') : r' % r = 0 ∨ ∃ s'', Qp f (b + b') (r' % r) s'' := by
  have hr := h.1
  by_cases hz : r' % r = 0
  · exact .inl hz
  · right
    by_cases hq : r' / r = 0
    · have e : r' % r = r' := by
        have := Nat.div_add_mod r' r
        rw [hq] at this
        omega
      rw [e]
      exact ⟨s', h'.mono (by omega)⟩
    · have hm : 0 < r' / r := Nat.pos_of_ne_zero hq
      have h2 := h.times hm
      have e := Nat.div_add_mod r' r
      have e' : r' / r * r + r' % r = r' := by rw [Nat.mul_comm]; exact e
      have hlt : r' / r * r < r' := by omega
      have q := h2.sub h' hlt
      have er : r' - r' / r * r = r' % r := by omega
      rw [er] at q
      exact ⟨_, q⟩
/-- the least form of f -/
structure Least (f : Nat → Int) (b r : Nat) (s : Int) : Prop where
  qp : Qp f b r s
  round : ∀ b' r' s', Qp f b' r' s' → r ≤ r'
  begin_ : b = 0 ∨ f (b - 1 + r) ≠ f (b - 1) + s
theorem Least.dvd {f : Nat → Int} {b r b' r' : Nat} {s s' : Int} (h : Least f b r s) (h' : Qp f b' r' s') : r' % r = 0 := by
  rcases h.qp.mod h' with z | ⟨s'', q⟩
  · exact z
  · have h1 := h.round _ _ _ q
    have h2 := Nat.mod_lt r' h.qp.1
    omega
theorem Least.uniq {f : Nat → Int} {b r b' r' : Nat} {s s' : Int} (h : Least f b r s) (h' : Least f b' r' s') : b = b' ∧ r = r' ∧ s = s' := by
  have hr : r = r' := Nat.le_antisymm (h.round _ _ _ h'.qp) (h'.round _ _ _ h.qp)
  subst hr
  have hs := h.qp.step_eq h'.qp
  subst hs
  refine ⟨?_, rfl, rfl⟩
  rcases Nat.lt_trichotomy b b' with z | z | z
  · rcases h'.begin_ with e | e
    · omega
    · exact absurd (h.qp.2 (b' - 1) (by omega)) e
  · exact z
  · rcases h.begin_ with e | e
    · omega
    · exact absurd (h'.qp.2 (b - 1) (by omega)) e
/-- a round that holds somewhere far holds from the begin of any other -/
theorem Qp.back {f : Nat → Int} {b b' r r' : Nat} {s s' : Int} (h : Qp f b r s) (h' : Qp f b' r' s') : Qp f b r' s' := by
  refine ⟨h'.1, fun n hn => ?_⟩
  have e1 := h.mul b' n hn
  have e2 := h.mul b' (n + r') (by omega)
  have hb : b' ≤ n + b' * r := by
    have : b' * 1 ≤ b' * r := Nat.mul_le_mul_left _ h.1
    omega
  have e3 := h'.2 (n + b' * r) hb
  have e4 : n + b' * r + r' = n + r' + b' * r := by omega
  rw [e4] at e3
  omega
/-- there is a least form -/
theorem Qp.least_round {f : Nat → Int} : ∀ (k : Nat) {b r : Nat} {s : Int}, r ≤ k → Qp f b r s → ∃ r0 s0, Qp f b r0 s0 ∧ ∀ b' r' s', Qp f b' r' s' → r0 ≤ r'
  | 0, b, r, s, hk, h => by have := h.1; omega
  | k + 1, b, r, s, hk, h => by
    by_cases hz : ∃ b' r' s', Qp f b' r' s' ∧ r' < r
    · obtain ⟨b', r', s', h', hl⟩ := hz
      exact Qp.least_round k (by omega) (h.back h')
    · refine ⟨r, s, h, fun b' r' s' h' => ?_⟩
      refine Classical.byContradiction fun hn => hz ⟨b', r', s', h', by omega⟩
theorem Qp.least {f : Nat → Int} {b r : Nat} {s : Int} (h : Qp f b r s) : ∃ b0 r0 s0, Least f b0 r0 s0 ∧ b0 ≤ b ∧ r % r0 = 0 := by
  obtain ⟨r0, s0, h0, hm⟩ := Qp.least_round r (Nat.le_refl _) h
  have key : ∀ k b, b ≤ k → Qp f b r0 s0 → ∃ b0, b0 ≤ b ∧ Least f b0 r0 s0 := by
    intro k
    induction k with
    | zero => intro b hb hq; exact ⟨b, Nat.le_refl _, hq, hm, .inl (by omega)⟩
    | succ k ih =>
      intro b hb hq
      by_cases hz : b = 0 ∨ f (b - 1 + r0) ≠ f (b - 1) + s0
      · exact ⟨b, Nat.le_refl _, hq, hm, hz⟩
      · have hz1 : b ≠ 0 := fun e => hz (.inl e)
        have hz2 : f (b - 1 + r0) = f (b - 1) + s0 := Classical.byContradiction fun e => hz (.inr e)
        have hq' : Qp f (b - 1) r0 s0 := ⟨hq.1, fun n hn => by
          by_cases e : n = b - 1
          · rw [e]; exact hz2
          · exact hq.2 n (by omega)⟩
        obtain ⟨b0, h1, h2⟩ := ih (b - 1) (by omega) hq'
        exact ⟨b0, by omega, h2⟩
  obtain ⟨b0, h1, h2⟩ := key b b (Nat.le_refl _) h0
  exact ⟨b0, r0, s0, h2, h1, h2.dvd h⟩
/-- what the program's price says -/
def pr (b r : Nat) (s : Int) (f : Nat → Int) (n : Nat) : Int := if n < b + r then f n else f (b + (n - b) % r) + ((n - b) / r : Nat) * s
theorem pr_eq {f : Nat → Int} {b r : Nat} {s : Int} (h : Qp f b r s) (n : Nat) : pr b r s f n = f n := by
  unfold pr
  split
  · rfl
  · have e := h.mul ((n - b) / r) (b + (n - b) % r) (by omega)
    have e2 : b + (n - b) % r + (n - b) / r * r = n := by
      have := Nat.mod_add_div (n - b) r
      rw [Nat.mul_comm] at this
      omega
    rw [e2] at e
    rw [e]
/-- any row told up to b + r goes on -/
theorem pr_qp {f : Nat → Int} {b r : Nat} {s : Int} (hr : 0 < r) : Qp (pr b r s f) b r s := by
  refine ⟨hr, fun n hn => ?_⟩
  unfold pr
  have e1 : ¬ n + r < b + r := by omega
  rw [if_neg e1]
  have e2 : n + r - b = (n - b) + r := by omega
  rw [e2, Nat.add_mod_right, Nat.add_div_right _ hr]
  split
  · rename_i hlt
    have e3 : n - b < r := by omega
    rw [Nat.mod_eq_of_lt e3, Nat.div_eq_of_lt e3]
    have e4 : b + (n - b) = n := by omega
    rw [e4]
    simp
  · rw [Int.natCast_succ, Int.add_mul]
    omega
theorem pr_low {f : Nat → Int} {b r : Nat} {s : Int} {n : Nat} (h : n < b + r) : pr b r s f n = f n := by
  unfold pr
  rw [if_pos h]
/-- rows that are like up to b + r, both going on so, are like -/
theorem Qp.ext {f g : Nat → Int} {b r : Nat} {s : Int} (h : Qp f b r s) (h' : Qp g b r s) (e : ∀ n, n < b + r → f n = g n) : f = g := by
  funext n
  rw [← pr_eq h n, ← pr_eq h' n]
  unfold pr
  split
  · rename_i hl; exact e n hl
  · rw [e _ (by have := Nat.mod_lt (n - b) h.1; omega)]
end Pf.M
end

section
set_option Elab.async false
set_option linter.all false
set_option maxRecDepth 20000
set_option maxHeartbeats 0
/-! E2: basics, forms. -/
namespace Pf
open PySem PySem.Spec PyProof.Rows L2
section
variable {S : Store} {ρ : Env}
@[simp] theorem fin_rt (d : D) : fin (.rt d S) = .ok d S := (rfl)
@[simp] theorem fin_nx : fin (.nx ρ S) = .ok .non S := (rfl)
@[simp] theorem fin_ex (c : PySem.Str) : fin (.ex c ρ S) = .exc c S := (rfl)
@[simp] theorem gc_bl (b : Bool) : gcR S (.ok (.bl b) S) = .ok (.bl b) S := gc_same rfl
@[simp] theorem gc_int (b : Int) : gcR S (.ok (.int b) S) = .ok (.int b) S := gc_same rfl
@[simp] theorem gc_non : gcR S (.ok .non S) = .ok .non S := gc_same rfl
@[simp] theorem gc_exc_ (c : PySem.Str) : gcR S (.exc c S) = .exc c S := gc_exc0
theorem oIx_row {fl : TF} {N : Nat} {f : Nat → Int} {i : Int} (h0 : 0 ≤ i) (h : i < N) : oIx (.tup fl (row N f)) (.int i) S = .ok (.int (f i.toNat)) S := oIx_tup (atI_row h0 h)
theorem oMod_p {i j : Int} (h : 0 < j) : oMod (.int i) (.int j) S = .ok (.int (i % j)) S := oMod_e i j h
end
/-- a form -/
def fD (fl : TF) (b r : Nat) (s : Int) (f : Nat → Int) : D := .tup .any [.int b, .int r, .int s, .tup fl (row (b + r) f)]
theorem row_isDs (N : Nat) (f : Nat → Int) : isDs (row N f) = true := by
  unfold row
  induction List.range N with
  | nil => rfl
  | cons x r ih => simp [isDs, isD, ih]
theorem row_wf (N : Nat) (f : Nat → Int) (n : Nat) : wfDs n (row N f) = true := by
  unfold row
  induction List.range N with
  | nil => rfl
  | cons x r ih => simp [wfDs, wfD, ih]
@[simp] theorem fD_isD (fl : TF) (b r : Nat) (s : Int) (f : Nat → Int) : isD (fD fl b r s f) = true := by simp [fD, isD, isDs, row_isDs]
@[simp] theorem fD_wf (fl : TF) (b r : Nat) (s : Int) (f : Nat → Int) (n : Nat) : wfD n (fD fl b r s f) = true := by simp [fD, wfD, wfDs, row_wf]
namespace LW
variable {k : Nat} {S : Store}
theorem ev_is_integer (i : Int) : (Cs Pg (k + 1)).f i_is_integer [.int i] S = .ok (.bl true) S := by
  rw [fe_is_integer, runB_e _ _ _ _ _ (by rfl)]
  simp [b_is_integer, oIsI, tyD, isTy]
theorem ev_is_integer_non : (Cs Pg (k + 1)).f i_is_integer [.non] S = .ok (.bl false) S := by
  rw [fe_is_integer, runB_e _ _ _ _ _ (by rfl)]
  simp [b_is_integer, oIsI, tyD, isTy]
theorem ev_is_integer_bl (b : Bool) : (Cs Pg (k + 1)).f i_is_integer [.bl b] S = .ok (.bl false) S := by
  rw [fe_is_integer, runB_e _ _ _ _ _ (by rfl)]
  simp [b_is_integer, oIsI, tyD, isTy]
theorem ev_is_within (i lo hi : Int) : (Cs Pg (k + 2)).f i_is_within [.int i, .int lo, .int hi] S = .ok (.bl (decide (lo ≤ i ∧ i ≤ hi))) S := by
  rw [fe_is_within, runB_e _ _ _ _ _ (by rfl)]
  simp only [b_is_within]
  simp [ev_is_integer]
  by_cases h : lo ≤ i <;> simp [h]
theorem ev_is_within_non (lo hi : Int) : (Cs Pg (k + 2)).f i_is_within [.non, .int lo, .int hi] S = .ok (.bl false) S := by
  rw [fe_is_within, runB_e _ _ _ _ _ (by rfl)]
  simp [b_is_within, ev_is_integer_non]
theorem ev_is_within_bl (b : Bool) (lo hi : Int) : (Cs Pg (k + 2)).f i_is_within [.bl b, .int lo, .int hi] S = .ok (.bl false) S := by
  rw [fe_is_within, runB_e _ _ _ _ _ (by rfl)]
  simp [b_is_within, ev_is_integer_bl]
theorem ev_is_number (i : Int) : (Cs Pg (k + 2)).f i_is_number [.int i] S = .ok (.bl (decide (0 ≤ i))) S := by
  rw [fe_is_number, runB_e _ _ _ _ _ (by rfl)]
  simp [b_is_number, ev_is_integer]
theorem ev_is_number_non : (Cs Pg (k + 2)).f i_is_number [.non] S = .ok (.bl false) S := by
  rw [fe_is_number, runB_e _ _ _ _ _ (by rfl)]
  simp [b_is_number, ev_is_integer_non]
theorem ev_is_number_bl (b : Bool) : (Cs Pg (k + 2)).f i_is_number [.bl b] S = .ok (.bl false) S := by
  rw [fe_is_number, runB_e _ _ _ _ _ (by rfl)]
  simp [b_is_number, ev_is_integer_bl]
theorem ev_is_sized (fl : TF) (ds : List D) (lo hi : Int) : (Cs Pg (k + 1)).f i_is_sized [.tup fl ds, .int lo, .int hi] S = .ok (.bl (decide (lo ≤ ds.length ∧ (ds.length : Int) ≤ hi))) S := by
  rw [fe_is_sized, runB_e _ _ _ _ _ (by rfl)]
  simp [b_is_sized, oIsI, tyD, isTy]
  by_cases h : lo ≤ ds.length <;> simp [h]
theorem ev_is_sized_non (lo hi : Int) : (Cs Pg (k + 1)).f i_is_sized [.non, .int lo, .int hi] S = .ok (.bl false) S := by
  rw [fe_is_sized, runB_e _ _ _ _ _ (by rfl)]
  simp [b_is_sized, oIsI, tyD, isTy]
theorem ev_is_sized_ref {n : Nat} {ds : List D} (h : S[n]? = some (.lst ds)) (lo hi : Int) : (Cs Pg (k + 1)).f i_is_sized [.ref n, .int lo, .int hi] S = .ok (.bl false) S := by
  rw [fe_is_sized, runB_e _ _ _ _ _ (by rfl)]
  simp [b_is_sized, oIsI, tyD, isTy, h]

theorem wh_gcd {t : Ts} {b : St} (ht : ∀ x y : Nat, t [some (.int x), some (.int y)] S = .ok (decide (0 < y)) S) (hb : ∀ x y : Nat, 0 < y → b [some (.int x), some (.int y)] S = .nx [some (.int y), some (.int ((x % y : Nat) : Int))] S) :
    ∀ (n x y : Nat), y < n → whileF t b n [some (.int x), some (.int y)] S = .nx [some (.int (Nat.gcd x y : Nat)), some (.int 0)] S
  | 0, _, _, h => by omega
  | n + 1, x, y, h => by
    by_cases hy : 0 < y
    · simp only [whileF, ht, hy, decide_true, sX_ok, if_true, hb x y hy]
      rw [wh_gcd ht hb n y (x % y) (by have := Nat.mod_lt x hy; omega), Nat.gcd_comm x y, Nat.gcd_rec y x, Nat.gcd_comm]
    · have : y = 0 := by omega
      subst this
      have h0 := ht x 0
      simp only [Int.natCast_zero] at h0 ⊢
      simp [whileF, h0]
theorem ev_common_part (x y : Nat) (h : y < 2 ^ 200) : (Cs Pg (k + 1)).f i_common_part [.int x, .int y] S = .ok (.int (Nat.gcd x y : Nat)) S := by
  rw [fe_common_part, runB_e _ _ _ _ _ (by rfl)]
  simp only [b_common_part, sSeq_e, sWhile_e, List.map_cons, List.map_nil, List.length_cons, List.length_nil, Nat.sub_self, List.replicate, List.append_nil]
  rw [wh_gcd (fun x y => by simp) (fun x y hy => by simp [gPar, oMod_p (show (0 : Int) < y by omega)]) _ _ _ (by rw [fuel_eq]; exact h)]
  simp
theorem ev_common_round (x y : Nat) (hx : 0 < x) (hy : 0 < y) (h1 : x < 2 ^ 62) (h2 : y < 2 ^ 62) : (Cs Pg (k + 2)).f i_common_round [.int x, .int y] S = .ok (.int (Nat.lcm x y : Nat)) S := by
  have hg : 0 < Nat.gcd x y := Nat.gcd_pos_of_pos_left _ hx
  have hd : Nat.gcd x y ∣ x := Nat.gcd_dvd_left x y
  have hl : Nat.gcd x y ≤ x := Nat.le_of_dvd hx hd
  have hq : x / Nat.gcd x y ≤ x := Nat.div_le_self _ _
  rw [fe_common_round, runB_e _ _ _ _ _ (by rfl)]
  have e : (x : Int) / (Nat.gcd x y : Nat) = ((x / Nat.gcd x y : Nat) : Int) := (Int.natCast_ediv _ _).symm
  simp [b_common_round, ev_common_part x y (Nat.lt_of_lt_of_le h2 (by decide))]
  rw [oDiv_e (by omega) (sm_nat (by omega))]
  simp only [bind_ok]
  rw [e, oMulA_e (sm_nat (by omega)) (sm_nat h2)]
  simp
  rw [Nat.lcm, ← Int.natCast_ediv, ← Int.natCast_mul, Nat.div_mul_right_comm hd]
/-- the least n with n * part ≥ number -/
def upBy (a b : Int) : Int := 0 - (0 - a) / b
theorem ev_up_by (a b : Int) (hb : 0 < b) (h2 : Sm b) : (Cs Pg (k + 1)).f i_up_by [.int a, .int b] S = .ok (.int (upBy a b)) S := by
  rw [fe_up_by, runB_e _ _ _ _ _ (by rfl)]
  simp [b_up_by, oDiv_e hb h2, upBy]
theorem ev_is_form {fl : TF} {b r : Nat} {s : Int} {f : Nat → Int} (hr : 0 < r) (hw : b + r ≤ 5000) : (Cs Pg (k + 3)).f i_is_form [fD fl b r s f] S = .ok (.bl true) S := by
  rw [fe_is_form, runB_e _ _ _ _ _ (by rfl)]
  have h1 : (1 : Int) ≤ r ∧ (r : Int) ≤ 5000 := by omega
  have h2 : (0 : Int) ≤ b ∧ (b : Int) ≤ 5000 := by omega
  have h3 : ¬ (5000 : Int) < (b : Int) + r := by omega
  simp [b_is_form, fD, ev_is_sized, ev_is_within, ev_is_integer, h1, h2, h3]
  unfold row
  rw [compF_ran (gd_nil _) _ (fun _ => .bl true) (by omega) (fun n hn => ⟨_, rfl, by simp [ev_is_integer]⟩)]
  simp [kAll_map (fun _ => true)]
theorem ev_check_form {fl : TF} {b r : Nat} {s : Int} {f : Nat → Int} (hr : 0 < r) (hw : b + r ≤ 5000) : (Cs Pg (k + 4)).f i_check_form [fD fl b r s f] S = .ok .non S := by
  rw [fe_check_form, runB_e _ _ _ _ _ (by rfl)]
  simp [b_check_form, ev_is_form hr hw]
theorem ev_check_two {fl fl' : TF} {b r b' r' : Nat} {s s' : Int} {f f' : Nat → Int} (hr : 0 < r) (hw : b + r ≤ 5000) (hr' : 0 < r') (hw' : b' + r' ≤ 5000) : (Cs Pg (k + 5)).f i_check_two [fD fl b r s f, fD fl' b' r' s' f'] S = .ok .non S := by
  rw [fe_check_two, runB_e _ _ _ _ _ (by rfl)]
  simp [b_check_two, ev_check_form hr hw, ev_check_form hr' hw']
theorem ev_check_number (n : Nat) : (Cs Pg (k + 3)).f i_check_number [.int n] S = .ok .non S := by
  rw [fe_check_number, runB_e _ _ _ _ _ (by rfl)]
  simp [b_check_number, ev_is_number]
theorem ev_check_width (b r : Nat) (hw : b + r ≤ 5000) : (Cs Pg (k + 1)).f i_check_width [.int b, .int r] S = .ok .non S := by
  rw [fe_check_width, runB_e _ _ _ _ _ (by rfl)]
  have h3 : ¬ (5000 : Int) < (b : Int) + r := by omega
  simp [b_check_width, h3]
theorem ev_raw_price0 {fl : TF} {b r : Nat} {s : Int} {f : Nat → Int} {n : Nat} (hr : 0 < r) (hr2 : r < 2 ^ 62) (hs : Sm s) (hn : n < 2 ^ 62) : (Cs Pg (k + 1)).f i_raw_price [fD fl b r s f, .int n] S = .ok (.int (M.pr b r s f n)) S := by
  rw [fe_raw_price, runB_e _ _ _ _ _ (by rfl)]
  by_cases h : n < b + r
  · have h' : (n : Int) < (b : Int) + r := by omega
    have h2 : (n : Int) < ((b + r : Nat) : Int) := by omega
    simp only [M.pr, if_pos h]
    simp [b_raw_price, fD, gTupN, h', oIx_row (i := (n : Int)) (by omega) h2]
  · obtain ⟨m, rfl⟩ : ∃ m, n = b + m := ⟨n - b, by omega⟩
    have h' : ¬ ((b + m : Nat) : Int) < (b : Int) + r := by omega
    have e1 : ((b + m : Nat) : Int) - (b : Int) = (m : Int) := by omega
    have e2 : (b : Int) + (m : Int) % (r : Int) = ((b + m % r : Nat) : Int) := by rw [Int.natCast_add, Int.natCast_emod]
    have e3 : (m : Int) / (r : Int) = ((m / r : Nat) : Int) := (Int.natCast_ediv _ _).symm
    have hm := Nat.mod_lt m hr
    have hq : m / r ≤ m := Nat.div_le_self _ _
    simp only [M.pr, if_neg h]
    simp only [b_raw_price, fD, gTupN, h', e1, if_true, sSeq_e, sSet_e, List.map_cons, List.map_nil, List.length_cons, List.length_nil, List.replicate, List.append_nil, List.cons_append, List.nil_append, cV_0, cV_s, sX_ok, gTup_e, gCons_e, gNil_e, gV_e, Option.bind_some, List.set, sIf_e, tV_e, c2_e, bind_ok, oAddA_e, oLt_e, decide_false, tvD_e, if_false, Bool.false_eq_true, sNx_e, sRet_e, oSub_e, oMod_p (show (0 : Int) < r by omega), oDiv_e (show (0 : Int) < r by omega) (sm_nat hr2), Nat.reduceSub, Nat.reduceAdd, List.length_cons]
    rw [e2, oIx_row (by omega) (by omega), e3, Int.toNat_natCast]
    simp only [bind_ok]
    rw [oMulA_e (sm_nat (show m / r < 2 ^ 62 by omega)) hs]
    simp

theorem ev_raw_price {fl : TF} {b r : Nat} {s : Int} {f : Nat → Int} {n : Nat} (hq : M.Qp f b r s) (hr2 : r < 2 ^ 62) (hs : Sm s) (hn : n < 2 ^ 62) : (Cs Pg (k + 1)).f i_raw_price [fD fl b r s f, .int n] S = .ok (.int (f n)) S := by
  rw [ev_raw_price0 hq.1 hr2 hs hn, M.pr_eq hq]
theorem ev_price_at {fl : TF} {b r : Nat} {s : Int} {f : Nat → Int} {n : Nat} (hq : M.Qp f b r s) (hw : b + r ≤ 5000) (hs : Sm s) (hn : n < 2 ^ 62) : (Cs Pg (k + 5)).f i_price_at [fD fl b r s f, .int n] S = .ok (.int (f n)) S := by
  rw [fe_price_at, runB_e _ _ _ _ _ (by rfl)]
  simp [b_price_at, ev_check_form hq.1 hw, ev_check_number, ev_raw_price hq (show r < 2 ^ 62 by omega) hs hn]
/-- does it repeat -/
def Rep (f : Nat → Int) (b R r : Nat) (s : Int) : Bool := (List.range R).all fun i => decide (f (b + i + r) = f (b + i) + s)
theorem ev_does_repeat {fl : TF} {b r b' r' : Nat} {s s' : Int} {f : Nat → Int} (hq : M.Qp f b r s) (hw : b + r ≤ 5000) (hs : Sm s) (hb : b' ≤ 5000) (hr : r' ≤ 5000) : (Cs Pg (k + 2)).f i_does_repeat [fD fl b r s f, .int b', .int r', .int s'] S = .ok (.bl (Rep f b' r r' s')) S := by
  rw [fe_does_repeat, runB_e _ _ _ _ _ (by rfl)]
  have e1 : ((b' : Int) + (r : Int) - (b' : Int)).toNat = r := by omega
  have hd : isDs (rgD (b' : Int) r) = true := by
    unfold rgD
    induction List.range r with
    | nil => rfl
    | cons x l ih => simp [isDs, isD, ih]
  have hf : ∀ n : Nat, n ≤ 15000 → ∀ S, (Cs Pg (k + 1)).f i_raw_price [fD fl b r s f, .int n] S = .ok (.int (f n)) S := fun n hn S => ev_raw_price hq (by omega) hs (by omega)
  simp only [fD] at hf ⊢
  simp [b_does_repeat, rgl_e (show -4611686018427387904 ≤ (b' : Int) by omega) (show (b' : Int) < 4611686018427387904 by omega) (show -4611686018427387904 ≤ (b' : Int) + r by omega) (show (b' : Int) + r < 4611686018427387904 by omega) (by omega), e1, oLst_e hd (by simp; omega), seqL]
  rw [show rgD (b' : Int) r = (List.range r).map (fun i => .int ((b' : Int) + (i : Nat))) from rfl, compF_ran (by simp [gdOk]) _ (fun i => .bl (decide (f (b' + i + r') = f (b' + i) + s'))) (by omega) (fun n hn => ⟨_, rfl, by
    have e2 : (b' : Int) + (n : Int) = ((b' + n : Nat) : Int) := by omega
    have e3 : ((b' + n : Nat) : Int) + (r' : Int) = ((b' + n + r' : Nat) : Int) := by omega
    simp only [e2]
    simp only [c2_e, cCall_e, aCons_e, aNil_e, cV_0, cV_s, bind_ok, List.set, oAddA_e, e3, hf _ (show b' + n + r' ≤ 15000 by omega), hf _ (show b' + n ≤ 15000 by omega), oEq_int]⟩)]
  simp only [bind_ok, kAll_map (fun i => decide (f (b' + i + r') = f (b' + i) + s')), sX_ok, fin_rt]
  rw [gc_junk rfl]
  rfl
end LW
end Pf
end

section
set_option Elab.async false
set_option linter.all false
set_option maxRecDepth 20000
set_option maxHeartbeats 0
/-! E3: least forms computed. -/
namespace Pf
open PySem PySem.Spec PyProof.Rows L2
namespace LW
variable {k : Nat} {S : Store}

theorem sSeq_nx' {ρ ρ1 : Env} {S S1 : Store} {a b : St} (h : a ρ S = .nx ρ1 S1) : sSeq a b ρ S = b ρ1 S1 := sSeq_nx h
theorem rep_iff {f : Nat → Int} {b R r : Nat} {s : Int} : Rep f b R r s = true ↔ ∀ i, i < R → f (b + i + r) = f (b + i) + s := by
  simp [Rep]
theorem rep_qp {f : Nat → Int} {b r : Nat} {s : Int} (hq : M.Qp f b r s) {l : Nat} {s' : Int} (hl : 0 < l) : Rep f b r l s' = true ↔ M.Qp f b l s' := by
  rw [rep_iff]
  constructor
  · intro h
    refine ⟨hl, fun n hn => ?_⟩
    have hm := Nat.mod_lt (n - b) hq.1
    have e : n = b + (n - b) % r + (n - b) / r * r := by
      have := Nat.mod_add_div (n - b) r
      rw [Nat.mul_comm] at this
      omega
    have e1 := hq.mul ((n - b) / r) (b + (n - b) % r) (by omega)
    have e2 := hq.mul ((n - b) / r) (b + (n - b) % r + l) (by omega)
    have e3 := h ((n - b) % r) hm
    rw [← e] at e1
    have e4 : b + (n - b) % r + l + (n - b) / r * r = n + l := by omega
    rw [e4] at e2
    omega
  · intro h i _
    exact h.2 _ (by omega)
/-- a round that the program takes -/
def Good (f : Nat → Int) (b r : Nat) (s : Int) (l : Nat) : Prop := (r : Int) % l = 0 ∧ (s * l) % r = 0 ∧ Rep f b r l (s * l / r) = true
theorem good_qp {f : Nat → Int} {b r : Nat} {s : Int} (hq : M.Qp f b r s) {l : Nat} (hl : 0 < l) (h : Good f b r s l) : M.Qp f b l (s * l / r) := (rep_qp hq hl).mp h.2.2
theorem good_self {f : Nat → Int} {b r : Nat} {s : Int} (hq : M.Qp f b r s) : Good f b r s r := by
  have hr := hq.1
  refine ⟨Int.emod_self, Int.mul_emod_left _ _, ?_⟩
  rw [Int.mul_ediv_cancel _ (by omega)]
  exact (rep_qp hq hr).mpr hq
theorem good_least {f : Nat → Int} {b r b0 r0 : Nat} {s s0 : Int} (hq : M.Qp f b r s) (h : M.Least f b0 r0 s0) : Good f b r s r0 ∧ s * r0 / r = s0 ∧ r0 ≤ r := by
  have hr := hq.1
  have hd := h.dvd hq
  have hp := h.qp.prop hq
  have e : s * (r0 : Int) = s0 * (r : Int) := by rw [Int.mul_comm, ← hp, Int.mul_comm]
  have e2 : s * (r0 : Int) / r = s0 := by rw [e]; exact Int.mul_ediv_cancel _ (by omega)
  refine ⟨⟨by rw [← Int.natCast_emod, hd]; rfl, by rw [e]; exact Int.mul_emod_left _ _, ?_⟩, e2, h.round _ _ _ hq⟩
  rw [e2]
  exact (rep_qp hq h.qp.1).mpr (hq.back h.qp)
theorem good_min {f : Nat → Int} {b r b0 r0 l : Nat} {s s0 : Int} (hq : M.Qp f b r s) (h : M.Least f b0 r0 s0) (hl : 0 < l) (hg : Good f b r s l) (hm : ∀ l', 0 < l' → l' ≤ r → Good f b r s l' → l ≤ l') : l = r0 := by
  obtain ⟨h1, _, h2⟩ := good_least hq h
  exact Nat.le_antisymm (hm _ h.qp.1 h2 h1) (h.round _ _ _ (good_qp hq hl hg))
section
variable {fl : TF} {b r : Nat} {s : Int} {f : Nat → Int}
/-- raw_least's names -/
def EL (fl : TF) (b r : Nat) (s : Int) (f : Nat → Int) (bg best : Nat) (o o' : Option D) : Env := [some (fD fl b r s f), some (.int bg), some (.int r), some (.int s), some (.tup fl (row (b + r) f)), some (.int best), o, o', none]
theorem least_body (hq : M.Qp f b r s) (hw : b + r ≤ 5000) (hs : Sm s) {best l : Nat} {o : Option D} (hl : 0 < l) (hlr : l ≤ r) :
    (sIf (tAnd (tV (c2 oEq (c2 oMod (cV 2) (cV 6)) (cD (.int 0)))) (tV (c2 oEq (c2 oMod (c2 oMulA (cV 3) (cV 6)) (cV 2)) (cD (.int 0))))) (sIf (tV (cCall (Cs Pg (k + 2)) i_does_repeat (aCons (cV 0) (aCons (cV 1) (aCons (cV 6) (aCons (c2 oDiv (c2 oMulA (cV 3) (cV 6)) (cV 2)) aNil)))))) (sSet (gV 5) (cV 6)) sNx) sNx) (EL fl b r s f b best (some (.int l)) none) S
      = .nx (EL fl b r s f b (open Classical in if Good f b r s l then l else best) (some (.int l)) none) S := by
  have hm : oMulA (.int s) (.int (l : Int)) S = .ok (.int (s * l)) S := oMulA_e hs (sm_nat (by omega))
  have hd : oDiv (.int (s * l)) (.int (r : Int)) S = .ok (.int (s * l / r)) S := oDiv_e (by omega) (sm_nat (by omega))
  have hrep := ev_does_repeat (k := k) (fl := fl) (S := S) (s' := s * l / r) hq hw hs (show b ≤ 5000 by omega) (show l ≤ 5000 by omega)
  simp only [EL, sIf_e, tAnd_e, tV_e, c2_e, cV_0, cV_s, bind_ok, cD_e, oMod_p (show (0 : Int) < l by omega), oEq_int, tvD_e, hm, oMod_p (show (0 : Int) < r by omega), sX_ok, cCall_e, aCons_e, aNil_e, hd, hrep, sSet_e, gV_e, List.set, sNx_e]
  by_cases h1 : (r : Int) % l = 0
  · by_cases h2 : (s * l) % r = 0
    · cases h3 : Rep f b r l (s * l / r) with
      | true => simp [h1, h2, h3, Good, hm, hd, hrep]
      | false => simp [h1, h2, h3, Good, hm, hd, hrep]
    · simp [h1, h2, Good]
  · simp [h1, Good]
theorem least_for (hq : M.Qp f b r s) (hw : b + r ≤ 5000) (hs : Sm s) {b0 r0 : Nat} {s0 : Int} (hL : M.Least f b0 r0 s0) :
    ∃ o, (sFor (iRdn (cV 2) (cD (.int 0))) (gV 6) (sIf (tAnd (tV (c2 oEq (c2 oMod (cV 2) (cV 6)) (cD (.int 0)))) (tV (c2 oEq (c2 oMod (c2 oMulA (cV 3) (cV 6)) (cV 2)) (cD (.int 0))))) (sIf (tV (cCall (Cs Pg (k + 2)) i_does_repeat (aCons (cV 0) (aCons (cV 1) (aCons (cV 6) (aCons (c2 oDiv (c2 oMulA (cV 3) (cV 6)) (cV 2)) aNil)))))) (sSet (gV 5) (cV 6)) sNx) sNx)) (EL fl b r s f b r none none) S
      = .nx (EL fl b r s f b r0 o none) S := by
  have e0 : ((r : Int) - 0).toNat = r := by omega
  rw [sFor_e, iRdn_e]
  simp only [EL, cV_0, cV_s, bind_ok, cD_e, inD'_e]
  rw [rgd_e (by omega) (by omega) (by omega) (by omega), e0]
  simp only [sX_ok]
  obtain ⟨ρ', S', h1, h2⟩ := forF_inv (g := []) (tg := gV 6) (b := (sIf (tAnd (tV (c2 oEq (c2 oMod (cV 2) (cV 6)) (cD (.int 0)))) (tV (c2 oEq (c2 oMod (c2 oMulA (cV 3) (cV 6)) (cV 2)) (cD (.int 0))))) (sIf (tV (cCall (Cs Pg (k + 2)) i_does_repeat (aCons (cV 0) (aCons (cV 1) (aCons (cV 6) (aCons (c2 oDiv (c2 oMulA (cV 3) (cV 6)) (cV 2)) aNil)))))) (sSet (gV 5) (cV 6)) sNx) sNx))
    (fun i ρ S' => S' = S ∧ ∃ best o, ρ = EL fl b r s f b best o none ∧ Good f b r s best ∧ 0 < best ∧ ∀ l, r - i < l → l ≤ r → Good f b r s l → best ≤ l) (rgDown (r : Int) r) 0 (EL fl b r s f b r none none) S
    ⟨rfl, r, none, rfl, good_self hq, hq.1, fun l h1 h2 _ => by omega⟩
    (fun i d hi ρ S' hp => by
      obtain ⟨rfl, best, o, rfl, hg, hb, hm⟩ := hp
      refine ⟨trivial, ?_⟩
      have hir : i < r := by
        have := (List.getElem?_eq_some_iff.mp hi).1
        simpa [rgDown] using this
      have ed : d = .int ((r - i : Nat) : Int) := by
        simp only [rgDown, List.getElem?_map, List.getElem?_range hir, Option.map_some, Option.some.injEq] at hi
        rw [← hi]
        congr 1
        omega
      subst ed
      refine ⟨_, rfl, _, _, least_body hq hw hs (o := o) (show 0 < r - i by omega) (by omega), rfl, _, _, rfl, ?_, ?_, ?_⟩
      · split
        · assumption
        · exact hg
      · split <;> omega
      · intro l h1 h2 h3
        split
        · omega
        · rename_i hn
          by_cases e : l = r - i
          · subst e; exact absurd h3 hn
          · exact hm l (by omega) h2 h3) (fun _ _ _ => trivial)
  obtain ⟨rfl, best, o, rfl, hg, hb, hm⟩ := h2
  have e : best = r0 := good_min hq hL hb hg (fun l' h1 h2 h3 => hm l' (by simp [rgDown]; omega) h2 h3)
  subst e
  exact ⟨o, h1⟩

theorem least_while (hq : M.Qp f b r s) (hw : b + r ≤ 5000) (hs : Sm s) {b0 r0 : Nat} {s0 : Int} (hL : M.Least f b0 r0 s0) (hr0 : r0 ≤ r) (o : Option D) :
    ∀ (n m : Nat), m < n → b0 ≤ m → m ≤ b → whileF (tAnd (tV (c2 oGt (cV 1) (cD (.int 0)))) (tV (c2 oEq (cCall (Cs Pg (k + 1)) i_raw_price (aCons (cV 0) (aCons (c2 oAddA (c2 oSub (cV 1) (cD (.int 1))) (cV 5)) aNil))) (c2 oAddA (c2 oIx (cV 4) (c2 oSub (cV 1) (cD (.int 1)))) (cV 7))))) (sSet (gV 1) (c2 oSub (cV 1) (cD (.int 1)))) n (EL fl b r s f m r0 o (some (.int s0))) S
      = .nx (EL fl b r s f b0 r0 o (some (.int s0))) S
  | 0, m, h, _, _ => by omega
  | n + 1, 0, h, h1, h2 => by
    have : b0 = 0 := by omega
    subst this
    simp [whileF, EL]
  | n + 1, m + 1, h, h1, h2 => by
    have hp : (Cs Pg (k + 1)).f i_raw_price [fD fl b r s f, .int ((m + r0 : Nat) : Int)] S = .ok (.int (f (m + r0))) S := ev_raw_price hq (by omega) hs (by omega)
    have e1 : ((m + 1 : Nat) : Int) - 1 = (m : Int) := by omega
    have e2 : (m : Int) + (r0 : Int) = ((m + r0 : Nat) : Int) := by omega
    have e3 : (0 : Int) < ((m + 1 : Nat) : Int) := by omega
    have hx : oIx (.tup fl (row (b + r) f)) (.int (m : Int)) S = .ok (.int (f m)) S := by
      rw [oIx_row (by omega) (by omega), Int.toNat_natCast]
    have ht : (tAnd (tV (c2 oGt (cV 1) (cD (.int 0)))) (tV (c2 oEq (cCall (Cs Pg (k + 1)) i_raw_price (aCons (cV 0) (aCons (c2 oAddA (c2 oSub (cV 1) (cD (.int 1))) (cV 5)) aNil))) (c2 oAddA (c2 oIx (cV 4) (c2 oSub (cV 1) (cD (.int 1)))) (cV 7))))) (EL fl b r s f (m + 1) r0 o (some (.int s0))) S = .ok (decide (f (m + r0) = f m + s0)) S := by
      simp only [EL, tAnd_e, tV_e, c2_e, cV_0, cV_s, bind_ok, cD_e, oGt_e, e3, decide_true, tvD_e, if_true, cCall_e, aCons_e, aNil_e, oSub_e, e1, oAddA_e, e2, hp, hx, oEq_int]
    by_cases hb : m + 1 = b0
    · have hn : ¬ f (m + r0) = f m + s0 := by
        rcases hL.begin_ with z | z
        · omega
        · have : b0 - 1 = m := by omega
          rw [this] at z
          exact z
      simp only [whileF, ht, hn, decide_false, sX_ok, Bool.false_eq_true, if_false]
      rw [hb]
    · have hy : f (m + r0) = f m + s0 := hL.qp.2 m (by omega)
      simp only [whileF, ht, hy, decide_true, sX_ok, if_true]
      have hbd : (sSet (gV 1) (c2 oSub (cV 1) (cD (.int 1)))) (EL fl b r s f (m + 1) r0 o (some (.int s0))) S = .nx (EL fl b r s f m r0 o (some (.int s0))) S := by
        simp only [EL, sSet_e, c2_e, cV_0, cV_s, bind_ok, cD_e, oSub_e, e1, sX_ok, gV_e, List.set]
      rw [hbd]
      exact least_while hq hw hs hL hr0 o n m (by omega) (by omega) (by omega)
theorem ev_raw_least (hq : M.Qp f b r s) (hw : b + r ≤ 5000) (hs : Sm s) {b0 r0 : Nat} {s0 : Int} (hL : M.Least f b0 r0 s0) (hb0 : b0 ≤ b) : (Cs Pg (k + 3)).f i_raw_least [fD fl b r s f] S = .ok (fD .hard b0 r0 s0 f) S := by
  obtain ⟨o, hfor⟩ := least_for (k := k) (S := S) (fl := fl) hq hw hs hL
  obtain ⟨_, e2, hr0⟩ := good_least hq hL
  have hm : oMulA (.int s) (.int (r0 : Int)) S = .ok (.int (s * r0)) S := oMulA_e hs (sm_nat (by omega))
  have hd : oDiv (.int (s * r0)) (.int (r : Int)) S = .ok (.int (s * r0 / r)) S := oDiv_e (by have := hq.1; omega) (sm_nat (by omega))
  have hwh := least_while (k := k + 1) (S := S) (fl := fl) hq hw hs hL hr0 o fuel b (by rw [fuel_eq]; exact Nat.lt_of_le_of_lt (show b ≤ 5000 by omega) (by decide)) hb0 (Nat.le_refl _)
  have hf : ∀ n : Nat, n ≤ 15000 → (Cs Pg (k + 2)).f i_raw_price [fD fl b r s f, .int n] S = .ok (.int (f n)) S := fun n hn => ev_raw_price hq (by omega) hs (by omega)
  rw [fe_raw_least, runB_e _ _ _ _ _ (by rfl)]
  simp only [b_raw_least]
  have h1 : (sSet (gTupN 4 (gCons (gV 1) (gCons (gV 2) (gCons (gV 3) (gCons (gV 4) gNil))))) (cV 0)) ([fD fl b r s f].map some ++ List.replicate (9 - [fD fl b r s f].length) none) S = .nx [some (fD fl b r s f), some (.int b), some (.int r), some (.int s), some (.tup fl (row (b + r) f)), none, none, none, none] S := by
    simp [fD, gTupN]
  rw [sSeq_nx h1, sSeq_nx (ρ1 := EL fl b r s f b r none none) (S1 := S) (by simp [EL]), sSeq_nx hfor, sSeq_nx (ρ1 := EL fl b r s f b r0 o (some (.int s0))) (S1 := S) (by simp [EL, hm, hd, e2]), sSeq_nx (by rw [sWhile_e]; exact hwh)]
  have er : rg1 ((b0 : Int) + (r0 : Int)) S = .ok ((List.range (b0 + r0)).map fun (n : Nat) => D.int (n : Int), []) S := by
    rw [rg1_e (by omega) (by omega), show ((b0 : Int) + (r0 : Int)).toNat = b0 + r0 by omega]
    simp [rgD]
  simp only [sRet_e, cN_e, aCons_e, aNil_e, cK_e, aComp_e, iR1_e, c2_e, EL, cV_0, cV_s, bind_ok, oAddA_e, inD'_e, er, wipe_cons, wipe_nil, List.set]
  rw [compF_ran (gd_nil _) _ (fun n => .int (f n)) (by omega) (fun n hn => ⟨_, rfl, by simp only [cCall_e, aCons_e, aNil_e, cV_0, cV_s, bind_ok, List.set, hf n (by omega)]⟩)]
  simp only [bind_ok, kTup_e]
  rw [oTup_e _ (by simp)]
  simp only [sX_ok, fin_rt]
  exact gc_same (fD_isD .hard b0 r0 s0 f)
/-- the least form of f, as data -/
noncomputable def LF (f : Nat → Int) : D := open Classical in if h : ∃ p : Nat × Nat × Int, M.Least f p.1 p.2.1 p.2.2 then fD .hard (Classical.choose h).1 (Classical.choose h).2.1 (Classical.choose h).2.2 f else .non
theorem LF_eq {f : Nat → Int} {b0 r0 : Nat} {s0 : Int} (hL : M.Least f b0 r0 s0) : LF f = fD .hard b0 r0 s0 f := by
  have h : ∃ p : Nat × Nat × Int, M.Least f p.1 p.2.1 p.2.2 := ⟨(b0, r0, s0), hL⟩
  unfold LF
  rw [dif_pos h]
  obtain ⟨e1, e2, e3⟩ := (Classical.choose_spec h).uniq hL
  rw [e1, e2, e3]
theorem ev_raw_least' (hq : M.Qp f b r s) (hw : b + r ≤ 5000) (hs : Sm s) : (Cs Pg (k + 3)).f i_raw_least [fD fl b r s f] S = .ok (LF f) S := by
  obtain ⟨b0, r0, s0, hL, hb, _⟩ := hq.least
  rw [LF_eq hL]
  exact ev_raw_least hq hw hs hL hb
theorem ev_made (hq : M.Qp f b r s) (hw : b + r ≤ 5000) (hs : Sm s) {li : LamI} {caps : List D} (hc : ∀ n : Nat, n < b + r → (Cs Pg (k + 3)).l li caps [.int n] S = .ok (.int (f n)) S) : (Cs Pg (k + 4)).f i_made [.int b, .int r, .int s, .clo li caps] S = .ok (LF f) S := by
  obtain ⟨b0, r0, s0, hL, hb, _⟩ := hq.least
  have hlst := ev_raw_least' (k := k) (S := S) (fl := .hard) hq hw hs
  rw [LF_eq hL] at hlst ⊢
  rw [fe_made, runB_e _ _ _ _ _ (by rfl)]
  simp only [b_made]
  have er : rg1 ((b : Int) + (r : Int)) S = .ok ((List.range (b + r)).map fun (n : Nat) => D.int (n : Int), []) S := by
    rw [rg1_e (by omega) (by omega), show ((b : Int) + (r : Int)).toNat = b + r by omega]
    simp [rgD]
  rw [sSeq_nx (ρ1 := [some (.int b), some (.int r), some (.int s), some (.clo li caps), none]) (S1 := S) (by simp [ev_check_width b r hw])]
  simp only [sRet_e, cCall_e, cN_e, aCons_e, aNil_e, cK_e, aComp_e, iR1_e, c2_e, cV_0, cV_s, bind_ok, oAddA_e, inD'_e, er, wipe_cons, wipe_nil, List.set]
  rw [compF_ran (gd_nil _) _ (fun n => .int (f n)) (by omega) (fun n hn => ⟨_, rfl, by simp [hc n hn]⟩)]
  simp only [bind_ok, kTup_e]
  rw [oTup_e _ (by simp)]
  simp only [bind_ok]
  have hlst' : (Cs Pg (k + 3)).f i_raw_least [.tup .any [.int b, .int r, .int s, .tup .hard ((List.range (b + r)).map fun n => .int (f n))]] S = .ok (fD .hard b0 r0 s0 f) S := hlst
  rw [hlst']
  simp only [sX_ok, fin_rt]
  exact gc_same (fD_isD .hard b0 r0 s0 f)
end
end LW
end Pf
end

section
set_option Elab.async false
set_option linter.all false
set_option maxRecDepth 20000
set_option maxHeartbeats 0
/-! E4: forms added, lessened. -/
namespace Pf
open PySem PySem.Spec PyProof.Rows L2
theorem cutD_nat (xs : List D) (b : Nat) (h : b ≤ xs.length) : cutD xs (some (b : Int)) none = xs.drop b := by
  unfold cutD
  rw [HT.sIx_nat, HT.sIx_none, Nat.min_eq_left h, List.take_of_length_le (by simp)]
/-- d is a form of f -/
structure Fm (d : D) (b r : Nat) (s : Int) (f : Nat → Int) : Prop where
  eq : ∃ fl, d = fD fl b r s f
  qp : M.Qp f b r s
  wid : b + r ≤ 5000
  sm : s.natAbs ≤ 1000000000
theorem Fm.isD {d : D} {b r : Nat} {s : Int} {f : Nat → Int} (h : Fm d b r s f) : isD d = true := by
  obtain ⟨fl, rfl⟩ := h.eq
  simp
theorem Fm.sms {d : D} {b r : Nat} {s : Int} {f : Nat → Int} (h : Fm d b r s f) : Sm s := sm_abs (by have := h.sm; omega)
theorem eqvAll_ints : ∀ a b : List Int, PyData.eqvAll (toPys (a.map D.int)) (toPys (b.map D.int)) = decide (a = b)
  | [], [] => rfl
  | [], _ :: _ => rfl
  | _ :: _, [] => rfl
  | x :: a, y :: b => by
    show (x == y && PyData.eqvAll (toPys (a.map D.int)) (toPys (b.map D.int))) = _
    rw [eqvAll_ints a b]
    by_cases h1 : x = y <;> by_cases h2 : a = b <;> simp [h1, h2]
theorem row_ints (N : Nat) (f : Nat → Int) : row N f = ((List.range N).map f).map D.int := by simp [row, Function.comp_def]
theorem okDs_row (n N : Nat) (f : Nat → Int) : okDs n (row N f) = true := by
  unfold row
  induction List.range N with
  | nil => cases n <;> rfl
  | cons x r ih => cases n <;> simpa [okDs, okD] using ih
theorem okD_fD (fl : TF) (b r : Nat) (s : Int) (f : Nat → Int) (n : Nat) : okD (n + 2) (fD fl b r s f) = true := by
  simp [fD, okD, okDs, okDs_row]
theorem eqD_fD (fl fl' : TF) (b r b' r' : Nat) (s s' : Int) (f g : Nat → Int) : eqD (fD fl b r s f) (fD fl' b' r' s' g) = decide (b = b' ∧ r = r' ∧ s = s' ∧ (List.range (b + r)).map f = (List.range (b' + r')).map g) := by
  show (((b : Int) == b') && (((r : Int) == r') && ((s == s') && (PyData.eqvAll (toPys (row (b + r) f)) (toPys (row (b' + r') g)) && true)))) = _
  rw [row_ints, row_ints, eqvAll_ints, Bool.and_true, Bool.decide_and, Bool.decide_and, Bool.decide_and]
  congr 1
  · by_cases e : b = b'
    · simp [e]
    · have : ¬ (b : Int) = b' := by omega
      simp [e, this]
  · congr 1
    by_cases e : r = r'
    · simp [e]
    · have : ¬ (r : Int) = r' := by omega
      simp [e, this]
namespace LW
variable {k : Nat} {S : Store} {d d' : D} {b r b' r' : Nat} {s s' : Int} {f f' : Nat → Int}
theorem step_le (hq : M.Qp f b r s) {b0 r0 : Nat} {s0 : Int} (h : M.Least f b0 r0 s0) : s0.natAbs ≤ s.natAbs := by
  have hp := congrArg Int.natAbs (h.qp.prop hq)
  rw [Int.natAbs_mul, Int.natAbs_mul, Int.natAbs_natCast, Int.natAbs_natCast] at hp
  have hle := h.round _ _ _ hq
  have hr := hq.1
  have h1 : r0 * s.natAbs ≤ r * s.natAbs := Nat.mul_le_mul_right _ hle
  rw [← hp] at h1
  exact Nat.le_of_mul_le_mul_left h1 hr
theorem Fm_made (hq : M.Qp f b r s) (hw : b + r ≤ 5000) (hs : s.natAbs ≤ 1000000000) : ∃ b0 r0 s0, Fm (LF f) b0 r0 s0 f ∧ b0 ≤ b ∧ r % r0 = 0 ∧ M.Least f b0 r0 s0 := by
  obtain ⟨b0, r0, s0, hL, hb, hr⟩ := hq.least
  have h1 := step_le hq hL
  have h2 := hL.round _ _ _ hq
  exact ⟨b0, r0, s0, ⟨⟨.hard, LF_eq hL⟩, hL.qp, by omega, by omega⟩, hb, hr, hL⟩
theorem ev_price (h : Fm d b r s f) {n : Nat} (hn : n < 4611686018427387904) : (Cs Pg (k + 1)).f i_raw_price [d, .int n] S = .ok (.int (f n)) S := by
  obtain ⟨fl, rfl⟩ := h.eq
  exact ev_raw_price h.qp (by have := h.wid; omega) h.sms (by omega)
theorem ev_form_ok (h : Fm d b r s f) : (Cs Pg (k + 4)).f i_check_form [d] S = .ok .non S := by
  obtain ⟨fl, rfl⟩ := h.eq
  exact ev_check_form h.qp.1 h.wid
theorem ev_two_ok (h : Fm d b r s f) (h' : Fm d' b' r' s' f') : (Cs Pg (k + 5)).f i_check_two [d, d'] S = .ok .non S := by
  obtain ⟨fl, rfl⟩ := h.eq
  obtain ⟨fl', rfl⟩ := h'.eq
  exact ev_check_two h.qp.1 h.wid h'.qp.1 h'.wid
theorem ix_form (h : Fm d b r s f) : oIx d (.int 0) S = .ok (.int b) S ∧ oIx d (.int 1) S = .ok (.int r) S ∧ oIx d (.int 2) S = .ok (.int s) S := by
  obtain ⟨fl, rfl⟩ := h.eq
  simp [fD]
theorem ev_at (h : Fm d b r s f) {n : Nat} (hn : n < 4611686018427387904) : (Cs Pg (k + 5)).f i_price_at [d, .int n] S = .ok (.int (f n)) S := by
  obtain ⟨fl, rfl⟩ := h.eq
  exact ev_price_at h.qp h.wid h.sms (by omega)
theorem ev_rise_in (h : Fm d b r s f) {R : Nat} (hR : R ≤ 100000) : (Cs Pg (k + 1)).f i_rise_in [d, .int R] S = .ok (.int (s * (R / r : Nat))) S := by
  obtain ⟨h0, h1, h2⟩ := ix_form (S := S) h
  have hr := h.qp.1
  have hw := h.wid
  have hq : R / r ≤ R := Nat.div_le_self _ _
  rw [fe_rise_in, runB_e _ _ _ _ _ (by rfl)]
  simp only [b_rise_in, sRet_e, c2_e, List.map_cons, List.map_nil, List.length_cons, List.length_nil, Nat.reduceAdd, Nat.reduceSub, List.replicate, List.append_nil, cV_0, cV_s, cD_e, bind_ok, h1, h2]
  rw [oDiv_e (by omega) (sm_nat (by omega)), ← Int.natCast_ediv]
  simp only [bind_ok]
  rw [oMulA_e h.sms (sm_nat (by omega))]
  simp
theorem dvd_qp (h : M.Qp f b r s) {R : Nat} (hR : 0 < R) (hd : r ∣ R) : M.Qp f b R (s * (R / r : Nat)) := by
  obtain ⟨m, rfl⟩ := hd
  have hr := h.1
  have hm : 0 < m := by
    rcases Nat.eq_zero_or_pos m with z | z
    · subst z; simp at hR
    · exact z
  rw [Nat.mul_div_cancel_left _ hr, Int.mul_comm, Nat.mul_comm]
  exact h.times hm
theorem qp_add (h : M.Qp f b r s) (h' : M.Qp f' b' r s') : M.Qp (fun n => f n + f' n) (max b b') r (s + s') := ⟨h.1, fun n hn => by
  have e1 := h.2 n (by omega)
  have e2 := h'.2 n (by omega)
  simp only [e1, e2]
  omega⟩
theorem qp_sub (h : M.Qp f b r s) (h' : M.Qp f' b' r s') : M.Qp (fun n => f n - f' n) (max b b') r (s - s') := ⟨h.1, fun n hn => by
  have e1 := h.2 n (by omega)
  have e2 := h'.2 n (by omega)
  simp only [e1, e2]
  omega⟩
theorem rise_abs {R r : Nat} {s : Int} (hR : R ≤ 5000) : (s * (R / r : Nat)).natAbs ≤ s.natAbs * 5000 := by
  have hq : R / r ≤ R := Nat.div_le_self _ _
  rw [Int.natAbs_mul, Int.natAbs_natCast]
  exact Nat.mul_le_mul_left _ (by omega)
theorem ev_raw_added (h : Fm d b r s f) (h' : Fm d' b' r' s' f') (hw : max b b' + Nat.lcm r r' ≤ 5000) : (Cs Pg (k + 5)).f i_raw_added [d, d'] S = .ok (LF fun n => f n + f' n) S := by
  have hr := h.qp.1
  have hr' := h'.qp.1
  have hw1 := h.wid
  have hw2 := h'.wid
  have hR : 0 < Nat.lcm r r' := Nat.lcm_pos hr hr'
  obtain ⟨h0, h1, h2⟩ := ix_form (S := S) h
  obtain ⟨h0', h1', h2'⟩ := ix_form (S := S) h'
  have hq := qp_add (dvd_qp h.qp hR (Nat.dvd_lcm_left r r')) (dvd_qp h'.qp hR (Nat.dvd_lcm_right r r'))
  have hs1 := rise_abs (r := r) (s := s) (R := Nat.lcm r r') (by omega)
  have hs2 := rise_abs (r := r') (s := s') (R := Nat.lcm r r') (by omega)
  have hsm := h.sm
  have hsm' := h'.sm
  have hmade := ev_made (k := k) (S := S) hq hw (sm_abs (by omega)) (li := li_raw_added_0) (caps := [d, d']) (fun n hn => by
    rw [le_raw_added_0 _ _ _ _ (by simp [isDs, h.isD, h'.isD]) rfl (by rw [lp_raw_added_0]; rfl)]
    unfold lamStart; rw [lN_raw_added_0]
    simp only [lc_raw_added_0, c2_e, cCall_e, aCons_e, aNil_e, List.map_cons, List.map_nil, List.cons_append, List.nil_append, cV_0, cV_s, bind_ok, ev_price h (show n < 4611686018427387904 by omega), ev_price h' (show n < 4611686018427387904 by omega), oAddA_e]
    rfl)
  obtain ⟨b0, r0, s0, hL, _, _⟩ := hq.least
  rw [LF_eq hL] at hmade ⊢
  rw [fe_raw_added, runB_e _ _ _ _ _ (by rfl)]
  have e1 : max (b : Int) (b' : Int) = ((max b b' : Nat) : Int) := by omega
  simp only [b_raw_added, sSeq_e, sSet_e, cCall_e, aCons_e, aNil_e, c2_e, cN_e, List.map_cons, List.map_nil, List.length_cons, List.length_nil, Nat.reduceAdd, Nat.reduceSub, List.replicate, List.cons_append, List.nil_append, cV_0, cV_s, cD_e, bind_ok, h0, h1, h0', h1', ev_common_round r r' hr hr' (show r < 2 ^ 62 by omega) (show r' < 2 ^ 62 by omega), sX_ok, gV_e, List.set, ev_rise_in h (show Nat.lcm r r' ≤ 100000 by omega), ev_rise_in h' (show Nat.lcm r r' ≤ 100000 by omega), oAddA_e, sRet_e, cCallL_e, capsOf_cons, capsOf_nil, slot_0, slot_s, Option.map_some, oMax2_e, e1]
  rw [if_pos (by simp [isDs, h.isD, h'.isD]), hmade, noX_ok (fD_isD _ _ _ _ _)]
  simp only [sX_ok, fin_rt]
  exact gc_same (fD_isD .hard b0 r0 s0 _)
theorem ev_raw_lessened (h : Fm d b r s f) (h' : Fm d' b' r' s' f') (hw : max b b' + Nat.lcm r r' ≤ 5000) : (Cs Pg (k + 5)).f i_raw_lessened [d, d'] S = .ok (LF fun n => f n - f' n) S := by
  have hr := h.qp.1
  have hr' := h'.qp.1
  have hw1 := h.wid
  have hw2 := h'.wid
  have hR : 0 < Nat.lcm r r' := Nat.lcm_pos hr hr'
  obtain ⟨h0, h1, h2⟩ := ix_form (S := S) h
  obtain ⟨h0', h1', h2'⟩ := ix_form (S := S) h'
  have hq := qp_sub (dvd_qp h.qp hR (Nat.dvd_lcm_left r r')) (dvd_qp h'.qp hR (Nat.dvd_lcm_right r r'))
  have hs1 := rise_abs (r := r) (s := s) (R := Nat.lcm r r') (by omega)
  have hs2 := rise_abs (r := r') (s := s') (R := Nat.lcm r r') (by omega)
  have hsm := h.sm
  have hsm' := h'.sm
  have hmade := ev_made (k := k) (S := S) hq hw (sm_abs (by omega)) (li := li_raw_lessened_0) (caps := [d, d']) (fun n hn => by
    rw [le_raw_lessened_0 _ _ _ _ (by simp [isDs, h.isD, h'.isD]) rfl (by rw [lp_raw_lessened_0]; rfl)]
    unfold lamStart; rw [lN_raw_lessened_0]
    simp only [lc_raw_lessened_0, c2_e, cCall_e, aCons_e, aNil_e, List.map_cons, List.map_nil, List.cons_append, List.nil_append, cV_0, cV_s, bind_ok, ev_price h (show n < 4611686018427387904 by omega), ev_price h' (show n < 4611686018427387904 by omega), oSub_e]
    rfl)
  obtain ⟨b0, r0, s0, hL, _, _⟩ := hq.least
  rw [LF_eq hL] at hmade ⊢
  rw [fe_raw_lessened, runB_e _ _ _ _ _ (by rfl)]
  have e1 : max (b : Int) (b' : Int) = ((max b b' : Nat) : Int) := by omega
  simp only [b_raw_lessened, sSeq_e, sSet_e, cCall_e, aCons_e, aNil_e, c2_e, cN_e, List.map_cons, List.map_nil, List.length_cons, List.length_nil, Nat.reduceAdd, Nat.reduceSub, List.replicate, List.cons_append, List.nil_append, cV_0, cV_s, cD_e, bind_ok, h0, h1, h0', h1', ev_common_round r r' hr hr' (show r < 2 ^ 62 by omega) (show r' < 2 ^ 62 by omega), sX_ok, gV_e, List.set, ev_rise_in h (show Nat.lcm r r' ≤ 100000 by omega), ev_rise_in h' (show Nat.lcm r r' ≤ 100000 by omega), oSub_e, sRet_e, cCallL_e, capsOf_cons, capsOf_nil, slot_0, slot_s, Option.map_some, oMax2_e, e1]
  rw [if_pos (by simp [isDs, h.isD, h'.isD]), hmade, noX_ok (fD_isD _ _ _ _ _)]
  simp only [sX_ok, fin_rt]
  exact gc_same (fD_isD .hard b0 r0 s0 _)
theorem LF_eqs (hq : M.Qp f b r s) (hq' : M.Qp f' b' r' s') : ∃ c : Bool, oEq (LF f) (LF f') S = .ok (.bl c) S ∧ oNe (LF f) (LF f') S = .ok (.bl (!c)) S ∧ (c = true ↔ f = f') := by
  obtain ⟨b0, r0, s0, hL, _, _⟩ := hq.least
  obtain ⟨b1, r1, s1, hL', _, _⟩ := hq'.least
  rw [LF_eq hL, LF_eq hL']
  have e : ∀ (b r : Nat) (s : Int) (f : Nat → Int), drf S (fD .hard b r s f) = fD .hard b r s f := fun _ _ _ _ => rfl
  refine ⟨eqD (fD .hard b0 r0 s0 f) (fD .hard b1 r1 s1 f'), by simp only [oEq, e, okD_fD, Bool.and_self, if_true], by simp only [oNe, e, okD_fD, Bool.and_self, if_true], ?_⟩
  rw [eqD_fD, decide_eq_true_iff]
  constructor
  · rintro ⟨rfl, rfl, rfl, e⟩
    refine hL.qp.ext hL'.qp (fun n hn => ?_)
    have := congrArg (fun l => l[n]?) e
    simpa [hn] using this
  · rintro rfl
    obtain ⟨rfl, rfl, rfl⟩ := hL.uniq hL'
    exact ⟨rfl, rfl, rfl, rfl⟩
theorem LF_isD (hq : M.Qp f b r s) : isD (LF f) = true := by
  obtain ⟨b0, r0, s0, hL, _, _⟩ := hq.least
  rw [LF_eq hL]
  exact fD_isD _ _ _ _ _
theorem ev_is_least (hq : M.Qp f b r s) (hw : b + r ≤ 5000) (hs : s.natAbs ≤ 1000000000) : (Cs Pg (k + 5)).f i_is_least [LF f] S = .ok (.bl true) S := by
  obtain ⟨b0, r0, s0, h, _, _, hL⟩ := Fm_made hq hw hs
  have e := LF_eq hL
  have h1 : (Cs Pg (k + 4)).f i_raw_least [LF f] S = .ok (LF f) S := by
    have := ev_raw_least' (k := k + 1) (S := S) (fl := .hard) h.qp h.wid h.sms
    rw [← e] at this
    exact this
  rw [fe_is_least, runB_e _ _ _ _ _ (by rfl)]
  obtain ⟨c, hc, _, hc2⟩ := LF_eqs (S := S) hq hq
  have hc3 : c = true := hc2.mpr rfl
  subst hc3
  simp [b_is_least, ev_form_ok h, h1, hc]
end LW
end Pf
end

section
set_option Elab.async false
set_option linter.all false
set_option maxRecDepth 20000
set_option maxHeartbeats 0
set_option autoImplicit false
/-! E4m: the most that a budget pays. -/
namespace Pf
open PySem PySem.Spec PyProof.Rows L2
namespace LW
variable {k : Nat} {S : Store} {d : D} {b r : Nat} {s : Int} {f : Nat → Int}
theorem mono_le (hm : ∀ n, f n ≤ f (n + 1)) : ∀ {m n : Nat}, m ≤ n → f m ≤ f n := by
  intro m n h
  induction h with
  | refl => exact Int.le_refl _
  | step _ ih => exact Int.le_trans ih (hm _)
theorem most_while (h : Fm d b r s f) (hm : ∀ n, f n ≤ f (n + 1)) {B : Int} {N : Nat} (hN : B < f N) (hN2 : N ≤ 4000000000000000000) (x : List (Option D)) (hx : x.length = 6) :
    ∀ (m n : Nat), N - n < m → n < N → f n ≤ B → ∃ n', n' < N ∧ f n' ≤ B ∧ B < f (n' + 1) ∧ whileF (tV (c2 oLe (cCall (Cs Pg (k + 1)) i_raw_price (aCons (cV 0) (aCons (c2 oAddA (cV 8) (cD (.int 1))) aNil))) (cV 1))) (sSet (gV 8) (c2 oAddA (cV 8) (cD (.int 1)))) m (some d :: some (.int B) :: (x ++ [some (.int (n : Nat))])) S
      = .nx (some d :: some (.int B) :: (x ++ [some (.int (n' : Nat))])) S
  | 0, n, h1, _, _ => by omega
  | m + 1, n, h1, h2, h3 => by
    have e1 : (n : Int) + 1 = ((n + 1 : Nat) : Int) := by omega
    match x, hx with
    | [x2, x3, x4, x5, x6, x7], _ =>
    have hp := ev_price (k := k) (S := S) h (show n + 1 < 4611686018427387904 by omega)
    have ht : (tV (c2 oLe (cCall (Cs Pg (k + 1)) i_raw_price (aCons (cV 0) (aCons (c2 oAddA (cV 8) (cD (.int 1))) aNil))) (cV 1))) [some d, some (.int B), x2, x3, x4, x5, x6, x7, some (.int (n : Nat))] S = .ok (decide (f (n + 1) ≤ B)) S := by
      simp only [tV_e, c2_e, cCall_e, aCons_e, aNil_e, cV_0, cV_s, cD_e, bind_ok, oAddA_e, e1, hp, oLe_e, tvD_e]
    by_cases hc : f (n + 1) ≤ B
    · have hlt : n + 1 < N := by
        rcases Nat.lt_or_ge (n + 1) N with z | z
        · exact z
        · have : f N ≤ f (n + 1) := mono_le hm z
          omega
      obtain ⟨n', g1, g2, g3, g4⟩ := most_while h hm hN hN2 [x2, x3, x4, x5, x6, x7] rfl m (n + 1) (by omega) hlt hc
      refine ⟨n', g1, g2, g3, ?_⟩
      have hb : (sSet (gV 8) (c2 oAddA (cV 8) (cD (.int 1)))) [some d, some (.int B), x2, x3, x4, x5, x6, x7, some (.int (n : Nat))] S = .nx [some d, some (.int B), x2, x3, x4, x5, x6, x7, some (.int ((n + 1 : Nat) : Int))] S := by
        simp only [sSet_e, c2_e, cV_0, cV_s, cD_e, bind_ok, oAddA_e, e1, sX_ok, gV_e, List.set]
      simp only [List.cons_append, List.nil_append] at g4 ⊢
      simp only [whileF, ht, hc, decide_true, sX_ok, if_true, hb]
      exact g4
    · refine ⟨n, h2, h3, by omega, ?_⟩
      simp only [List.cons_append, List.nil_append]
      simp only [whileF, ht, hc, decide_false, sX_ok, Bool.false_eq_true, if_false]
theorem ev_raw_most (h : Fm d b r s f) (hs : 0 < s) (hm : ∀ n, f n ≤ f (n + 1)) {B : Int} {N : Nat} (h0 : f 0 ≤ B) (hN : B < f N) (hN2 : N ≤ 4000000000000000000) :
    ∃ n, n < N ∧ f n ≤ B ∧ B < f (n + 1) ∧ (Cs Pg (k + 2)).f i_raw_most [d, .int B] S = .ok (.int (n : Nat)) S := by
  have hr := h.qp.1
  have hw := h.wid
  obtain ⟨fl, rfl⟩ := h.eq
  have hd := h
  -- where it begins
  obtain ⟨lo, t, hlo, hlo2, hev⟩ : ∃ (lo : Nat) (t : Int), lo < N ∧ f lo ≤ B ∧ ∀ (k : Nat) (S : Store), (sSeq (sSet (gV 6) (cN oMax2 (aCons (cD (.int 0)) (aCons (c2 oDiv (c2 oSub (cV 1) (c2 oIx (cV 5) (cV 2))) (cV 4)) aNil)))) (sSet (gV 7) (cIf (tV (c2 oGe (cV 1) (c2 oIx (cV 5) (cV 2)))) (c2 oAddA (cV 2) (c2 oMulA (cV 6) (cV 3))) (cD (.int 0))))) [some (fD fl b r s f), some (.int B), some (.int b), some (.int r), some (.int s), some (.tup fl (row (b + r) f)), none, none, none] S
      = .nx [some (fD fl b r s f), some (.int B), some (.int b), some (.int r), some (.int s), some (.tup fl (row (b + r) f)), some (.int t), some (.int (lo : Nat)), none] S := by
    have hx : ∀ S, oIx (.tup fl (row (b + r) f)) (.int (b : Int)) S = .ok (.int (f b)) S := fun S => by rw [oIx_row (by omega) (by omega), Int.toNat_natCast]
    have hdv : ∀ S, oDiv (.int (B - f b)) (.int s) S = .ok (.int ((B - f b) / s)) S := fun S => oDiv_e hs h.sms
    by_cases hc : f b ≤ B
    · have ht0 : 0 ≤ (B - f b) / s := Int.ediv_nonneg (by omega) (by omega)
      obtain ⟨t, ht⟩ := Int.eq_ofNat_of_zero_le ht0
      have e := h.qp.mul t b (Nat.le_refl _)
      have hle : (t : Int) * s ≤ B - f b := by rw [← ht]; exact Int.ediv_mul_le _ (by omega)
      have hfl : f (b + t * r) ≤ B := by rw [e]; omega
      have hlt : b + t * r < N := by
        rcases Nat.lt_or_ge (b + t * r) N with z | z
        · exact z
        · have : f N ≤ f (b + t * r) := mono_le hm z
          omega
      have ht2 : t ≤ t * r := Nat.le_mul_of_pos_right _ hr
      have hmu : ∀ S, oMulA (.int (t : Int)) (.int (r : Int)) S = .ok (.int ((t * r : Nat) : Int)) S := fun S => by
        rw [oMulA_e (sm_abs (by omega)) (sm_abs (by omega)), Int.natCast_mul]
      have emx : max (0 : Int) ((B - f b) / s) = (t : Int) := by rw [ht]; omega
      refine ⟨b + t * r, t, hlt, hfl, fun k S => ?_⟩
      have e2 : (b : Int) + ((t * r : Nat) : Int) = ((b + t * r : Nat) : Int) := by omega
      simp only [sSeq_e, sSet_e, cN_e, aCons_e, aNil_e, c2_e, cV_0, cV_s, cD_e, bind_ok, hx, oSub_e, hdv, oMax2_e, emx, sX_ok, gV_e, List.set, cIf_e, tV_e, oGe_e, hc, decide_true, tvD_e, if_true, hmu, oAddA_e, e2]
    · refine ⟨0, max 0 ((B - f b) / s), ?_, h0, fun k S => ?_⟩
      · rcases Nat.eq_zero_or_pos N with z | z
        · rw [z] at hN; omega
        · exact z
      · simp only [sSeq_e, sSet_e, cN_e, aCons_e, aNil_e, c2_e, cV_0, cV_s, cD_e, bind_ok, hx, oSub_e, hdv, oMax2_e, sX_ok, gV_e, List.set, cIf_e, tV_e, oGe_e, hc, decide_false, tvD_e, Bool.false_eq_true, if_false]
        rfl
  have hfuel : 4000000000000000001 ≤ fuel := by rw [fuel_eq]; decide
  obtain ⟨n, g1, g2, g3, g4⟩ := most_while (k := k) (S := S) hd hm hN hN2 [some (.int b), some (.int r), some (.int s), some (.tup fl (row (b + r) f)), some (.int t), some (.int (lo : Nat))] rfl fuel lo (by omega) hlo hlo2
  refine ⟨n, g1, g2, g3, ?_⟩
  have hp0 : (Cs Pg (k + 1)).f i_raw_price [fD fl b r s f, .int 0] S = .ok (.int (f 0)) S := ev_price (k := k) (S := S) hd (show 0 < 4611686018427387904 by omega)
  have hn : ¬ B < f 0 := by omega
  rw [fe_raw_most, runB_e _ _ _ _ _ (by rfl)]
  simp only [b_raw_most]
  rw [sSeq_nx (ρ1 := [some (fD fl b r s f), some (.int B), none, none, none, none, none, none, none]) (S1 := S) (by
    simp only [sIf_e, tV_e, c2_e, cCall_e, aCons_e, aNil_e, List.map_cons, List.map_nil, List.length_cons, List.length_nil, Nat.reduceAdd, Nat.reduceSub, List.replicate, List.cons_append, List.nil_append, cV_0, cV_s, cD_e, bind_ok, hp0, oGt_e, hn, decide_false, tvD_e, Bool.false_eq_true, if_false, sX_ok, sNx_e])]
  rw [sSeq_nx (ρ1 := [some (fD fl b r s f), some (.int B), some (.int b), some (.int r), some (.int s), some (.tup fl (row (b + r) f)), none, none, none]) (S1 := S) (by simp [fD, gTupN])]
  have hev' := hev k S
  have assoc : ∀ (a c e : St) (ρ ρ' : Env) (S S' : Store), sSeq a c ρ S = .nx ρ' S' → sSeq a (sSeq c e) ρ S = e ρ' S' := by
    intro a c e ρ ρ' S S' h
    simp only [sSeq_e] at h ⊢
    cases ha : a ρ S with
    | nx ρ1 S1 =>
      rw [ha] at h
      simp only at h ⊢
      rw [h]
    | rt _ _ => rw [ha] at h; cases h
    | ex _ _ _ => rw [ha] at h; cases h
    | bk _ _ => rw [ha] at h; cases h
    | ct _ _ => rw [ha] at h; cases h
    | bad => rw [ha] at h; cases h
  rw [assoc _ _ _ _ _ _ _ hev']
  rw [sSeq_nx (ρ1 := [some (fD fl b r s f), some (.int B), some (.int b), some (.int r), some (.int s), some (.tup fl (row (b + r) f)), some (.int t), some (.int (lo : Nat)), some (.int (lo : Nat))]) (S1 := S) (by
    simp only [sSet_e, cV_0, cV_s, sX_ok, gV_e, List.set])]
  rw [sSeq_nx (ρ1 := [some (fD fl b r s f), some (.int B), some (.int b), some (.int r), some (.int s), some (.tup fl (row (b + r) f)), some (.int t), some (.int (lo : Nat)), some (.int (n : Nat))]) (S1 := S) (by
    rw [sWhile_e]
    exact g4)]
  simp only [sRet_e, cV_0, cV_s, sX_ok, fin_rt, gc_int]
/-- the least number that pays so much -/
theorem ev_raw_gross (h : Fm d b r s f) (hs : 0 < s) (hm : ∀ n, f n ≤ f (n + 1)) (h0 : f 0 = 0) {B : Int} {N : Nat} (hB : 0 ≤ B) (hN : B ≤ f N) (hN2 : N ≤ 4000000000000000000) :
    ∃ n, n ≤ N ∧ B ≤ f n ∧ (∀ m, m < n → f m < B) ∧ (Cs Pg (k + 3)).f i_raw_gross [d, .int B] S = .ok (.int (n : Nat)) S := by
  by_cases hc : 0 < B
  · obtain ⟨n, g1, g2, g3, g4⟩ := ev_raw_most (k := k) (S := S) h hs hm (B := B - 1) (N := N) (by omega) (by omega) hN2
    have e1 : (n : Int) + 1 = ((n + 1 : Nat) : Int) := by omega
    refine ⟨n + 1, g1, by omega, fun m hmn => ?_, ?_⟩
    · have := mono_le hm (show m ≤ n by omega)
      omega
    · rw [fe_raw_gross, runB_e _ _ _ _ _ (by rfl)]
      simp only [b_raw_gross, sRet_e, cIf_e, tV_e, c2_e, cCall_e, aCons_e, aNil_e, List.map_cons, List.map_nil, List.length_cons, List.length_nil, Nat.reduceAdd, Nat.reduceSub, List.replicate, List.append_nil, cV_0, cV_s, cD_e, bind_ok, oGt_e, hc, decide_true, tvD_e, if_true, oSub_e, g4, oAddA_e, e1, sX_ok, fin_rt, gc_int]
  · refine ⟨0, Nat.zero_le _, by omega, fun m hmn => by omega, ?_⟩
    rw [fe_raw_gross, runB_e _ _ _ _ _ (by rfl)]
    simp only [b_raw_gross, sRet_e, cIf_e, tV_e, c2_e, cCall_e, aCons_e, aNil_e, List.map_cons, List.map_nil, List.length_cons, List.length_nil, Nat.reduceAdd, Nat.reduceSub, List.replicate, List.append_nil, cV_0, cV_s, cD_e, bind_ok, oGt_e, hc, decide_false, tvD_e, Bool.false_eq_true, if_false, sX_ok, fin_rt, gc_int]
    rfl
end LW
end Pf
end

section
set_option Elab.async false
set_option linter.all false
set_option maxRecDepth 20000
set_option maxHeartbeats 0
/-! E5: bands. -/
namespace Pf
open PySem PySem.Spec PyProof.Rows L2
/-- one band -/
def bnD (p : Nat × Int) : D := .tup .any [.int p.1, .int p.2]
def bD (fl : TF) (bs : List (Nat × Int)) : D := .tup fl (bs.map bnD)
structure Bands (bs : List (Nat × Int)) : Prop where
  len : bs.length ≤ 12
  zero : ∃ e r, bs = (0, e) :: r
  inc : bs.Pairwise fun p q => p.1 < q.1
  far : ∀ p ∈ bs, p.1 ≤ 200
  each : ∀ p ∈ bs, -999 ≤ p.2 ∧ p.2 ≤ 999
def bcnt (bs : List (Nat × Int)) (n : Nat) : Nat := (bs.filter fun p => decide (p.1 ≤ n)).length
/-- what the nth holds -/
def eachAt (bs : List (Nat × Int)) (n : Nat) : Int := (bs[bcnt bs n - 1]?.map (·.2)).getD 0
/-- the sum of the first n -/
def tot (bs : List (Nat × Int)) : Nat → Int
  | 0 => 0
  | n + 1 => tot bs n + eachAt bs n
theorem Bands.ne {bs : List (Nat × Int)} (h : Bands bs) : bs ≠ [] := by
  obtain ⟨e, r, rfl⟩ := h.zero
  simp
theorem Bands.cnt {bs : List (Nat × Int)} (h : Bands bs) (n : Nat) : 1 ≤ bcnt bs n ∧ bcnt bs n ≤ bs.length := by
  refine ⟨?_, List.length_filter_le _ _⟩
  obtain ⟨e, r, rfl⟩ := h.zero
  simp [bcnt, List.filter_cons]
theorem bnD_isD (p : Nat × Int) : isD (bnD p) = true := by simp [bnD, isD, isDs]
theorem bnDs_isD (bs : List (Nat × Int)) : isDs (bs.map bnD) = true := by
  induction bs with
  | nil => rfl
  | cons x r ih => simp [isDs, bnD_isD, ih]
theorem bD_isD (fl : TF) (bs : List (Nat × Int)) : isD (bD fl bs) = true := by simp [bD, isD, bnDs_isD]
theorem bD_ix {fl : TF} {bs : List (Nat × Int)} {i : Nat} {p : Nat × Int} {S : Store} (h : bs[i]? = some p) : oIx (bD fl bs) (.int i) S = .ok (bnD p) S := by
  have hi : i < bs.length := (List.getElem?_eq_some_iff.mp h).1
  refine oIx_tup ?_
  rw [atI_nat _ _ (by simpa using hi), List.getElem?_map, h]
  rfl
theorem bD_last {fl : TF} {bs : List (Nat × Int)} {p : Nat × Int} {S : Store} : oIx (bD fl (bs ++ [p])) (.int (-1)) S = .ok (bnD p) S := by
  simp only [bD, List.map_append, List.map_cons, List.map_nil]
  exact oIx_m1 _ _ _
/-- the last band -/
def lastB (bs : List (Nat × Int)) : Nat × Int := bs.getLast?.getD (0, 0)
theorem last_split {bs : List (Nat × Int)} (h : bs ≠ []) : ∃ r, bs = r ++ [lastB bs] := by
  refine ⟨bs.dropLast, ?_⟩
  have := (List.dropLast_concat_getLast h).symm
  rw [lastB, List.getLast?_eq_some_getLast h]
  exact this
theorem Bands.le_last {bs : List (Nat × Int)} (h : Bands bs) {p : Nat × Int} (hp : p ∈ bs) : p.1 ≤ (lastB bs).1 := by
  obtain ⟨r, e⟩ := last_split h.ne
  have hi := h.inc
  rw [e] at hp hi
  rcases List.mem_append.mp hp with z | z
  · have := (List.pairwise_append.mp hi).2.2 p z (lastB bs) (by simp)
    omega
  · simp at z
    rw [z]
    exact Nat.le_refl _
theorem Bands.last_mem {bs : List (Nat × Int)} (h : Bands bs) : lastB bs ∈ bs := by
  obtain ⟨r, e⟩ := last_split h.ne
  rw [e]
  have : lastB (r ++ [lastB bs]) = lastB bs := by simp [lastB]
  rw [this]
  simp
theorem Bands.each_last {bs : List (Nat × Int)} (h : Bands bs) {n : Nat} (hn : (lastB bs).1 ≤ n) : eachAt bs n = (lastB bs).2 := by
  have e : bcnt bs n = bs.length := by
    unfold bcnt
    rw [List.filter_eq_self.mpr (fun p hp => by have := h.le_last hp; simp; omega)]
  unfold eachAt
  rw [e]
  obtain ⟨r, e2⟩ := last_split h.ne
  have : bs[bs.length - 1]? = some (lastB bs) := by
    conv => lhs; rw [e2]
    simp
  rw [this]
  rfl
theorem Bands.each_mem {bs : List (Nat × Int)} (h : Bands bs) (n : Nat) : ∃ p ∈ bs, bs[bcnt bs n - 1]? = some p ∧ eachAt bs n = p.2 := by
  obtain ⟨h1, h2⟩ := h.cnt n
  have hl : bcnt bs n - 1 < bs.length := by omega
  refine ⟨bs[bcnt bs n - 1], List.getElem_mem hl, by simp [hl], ?_⟩
  simp [eachAt, hl]
theorem Bands.tot_qp {bs : List (Nat × Int)} (h : Bands bs) : M.Qp (tot bs) (lastB bs).1 1 (lastB bs).2 := ⟨by decide, fun n hn => by
  show tot bs n + eachAt bs n = _
  rw [h.each_last hn]⟩
namespace LW
variable {k : Nat} {S : Store} {fl : TF} {bs : List (Nat × Int)}
theorem ev_raw_band (h : Bands bs) (n : Nat) : (Cs Pg (k + 1)).f i_raw_band [bD fl bs, .int n] S = .ok (.int ((bcnt bs n - 1 : Nat) : Int)) S := by
  have hl := h.len
  obtain ⟨h1, _⟩ := h.cnt n
  rw [fe_raw_band, runB_e _ _ _ _ _ (by rfl)]
  simp only [b_raw_band, sRet_e, c2_e, cK_e, aComp_e, iE_e, bD, List.map_cons, List.map_nil, List.length_cons, List.length_nil, Nat.reduceAdd, Nat.reduceSub, List.replicate, List.cons_append, List.nil_append, cV_0, cV_s, cD_e, bind_ok, seqL_tup, wipe_cons, wipe_nil, List.set]
  rw [compF_filR (gd_nil _) bnD (fun p => decide (p.1 ≤ n)) bnD bs (by omega) (fun p hp => ⟨_, rfl, by simp [bnD], fun _ => by simp⟩)]
  have e : (((bs.filter fun p => decide (p.1 ≤ n)).map bnD).length : Int) - 1 = ((bcnt bs n - 1 : Nat) : Int) := by
    rw [List.length_map]
    unfold bcnt at h1 ⊢
    omega
  simp only [bind_ok, kLen_e, oSub_e, e, sX_ok, fin_rt, gc_int]
theorem ev_are_bands (h : Bands bs) : (Cs Pg (k + 3)).f i_are_bands [bD fl bs] S = .ok (.bl true) S := by
  have hl := h.len
  obtain ⟨e0, r0, hz⟩ := h.zero
  have h1 : (1 : Int) ≤ ((bs.map bnD).length : Nat) ∧ (((bs.map bnD).length : Nat) : Int) ≤ 12 := by
    rw [List.length_map, hz]
    rw [hz] at hl
    simp only [List.length_cons] at hl ⊢
    omega
  have hx0 : oIx (.tup fl (bs.map bnD)) (.int 0) S = .ok (.tup .any [.int 0, .int e0]) S := by
    rw [hz]
    simp [bnD]
  rw [fe_are_bands, runB_e _ _ _ _ _ (by rfl)]
  simp only [b_are_bands, sSeq_e, sIf_e, tOr_e, tNot_e, tV_e, cCall_e, sRet_e, c2_e, cK_e, aComp_e, iE_e, bD, List.map_cons, List.map_nil, List.length_cons, List.length_nil, Nat.reduceAdd, Nat.reduceSub, List.replicate, List.cons_append, List.nil_append, cV_0, cV_s, cD_e, bind_ok, seqL_tup, wipe_cons, wipe_nil, List.set, aCons_e, aNil_e, ge_MOST_BANDS, ev_is_sized, h1, and_self, decide_true, tvD_e, Bool.not_true, Bool.false_eq_true, if_false]
  rw [compF_mapR (gd_nil _) bnD (fun _ => .bl true) bs (by omega) (fun p hp => ⟨_, rfl, by simp [bnD, ev_is_sized]⟩)]
  simp only [bind_ok, kAll_map (fun _ => true), tvD_e, sX_ok, List.all_eq_true, implies_true, decide_true, Bool.not_true, Bool.false_eq_true, if_false]
  have hat : (bs.all fun _ => true) = true := by simp
  simp only [hat, Bool.not_true, Bool.false_eq_true, if_false, sNx_e, sIf_e, tNot_e, tV_e, cK_e, aComp_e, iE_e, cV_0, cV_s, bind_ok, seqL_tup, wipe_cons, wipe_nil, List.set]
  rw [compF_mapR (gd_nil _) bnD (fun _ => .bl true) bs (by omega) (fun p hp => ⟨_, rfl, by
    have g1 := h.far p hp
    have g2 := h.each p hp
    have g3 : (0 : Int) ≤ p.1 ∧ (p.1 : Int) ≤ 200 := by omega
    simp [bnD, ev_is_within, g2, g3]⟩)]
  simp only [bind_ok, kAll_map (fun _ => true), hat, tvD_e, sX_ok, Bool.not_true, Bool.false_eq_true, if_false, sNx_e, sRet_e, cAnd_e, c2_e, cV_0, cV_s, cD_e, hx0, oIx_0, oEq_int, decide_true, if_true, cK_e, aComp_e, List.set, wipe_cons, wipe_nil]
  have hz : iZip (cV 0) (cCut (cV 0) (pSome (cD (.int 1))) pNo) [some (.tup fl (bs.map bnD)), none, none] S = .ok (zipD (bs.map bnD) ((bs.map bnD).drop 1), []) S := by
    simp [iZip, oCut, cutD_1, isTp]
  rw [hz]
  simp only [bind_ok]
  have hlen := zipD_len (bs.map bnD) ((bs.map bnD).drop 1)
  rw [List.length_map] at hlen
  rw [compF_map (gd_nil _) (fun _ => .bl true) _ _ (by rw [sL]; simp only [List.length_nil]; omega) (fun d hd => by
    obtain ⟨i, x, y, g1, g2, rfl⟩ := mem_zipD hd
    rw [List.getElem?_drop, List.getElem?_map] at g2
    rw [List.getElem?_map] at g1
    obtain ⟨p, hp, rfl⟩ := Option.map_eq_some_iff.mp g1
    obtain ⟨q, hq, rfl⟩ := Option.map_eq_some_iff.mp g2
    have hlt : p.1 < q.1 := by
      obtain ⟨i1, e1⟩ := List.getElem?_eq_some_iff.mp hp
      obtain ⟨i2, e2⟩ := List.getElem?_eq_some_iff.mp hq
      have := List.pairwise_iff_getElem.mp h.inc i (1 + i) i1 i2 (by omega)
      rw [e1, e2] at this
      exact this
    refine ⟨_, rfl, ?_⟩
    have : (p.1 : Int) < (q.1 : Int) := by omega
    simp [bnD, this])]
  simp only [bind_ok, List.nil_append]
  rw [kAll_all (by simp)]
  simp

theorem bands_for (h : Bands bs) (b : Nat) (hb : b ≤ 200) :
    ∃ o, forF [] (gV 2) (sDrop (cM (m1 oAppend) (cV 3) (aCons (c2 oAddA (c2 oIx (cV 3) (c1 oNeg (cD (.int 1)))) (c2 oIx (c2 oIx (cV 0) (cCall (Cs Pg (k + 1)) i_raw_band (aCons (cV 0) (aCons (cV 2) aNil)))) (cD (.int 1)))) aNil))) (rgD 0 (b + 1)) [some (bD fl bs), some (.int b), none, some (.ref S.length)] (S ++ [.lst (row 1 (tot bs))])
      = .nx [some (bD fl bs), some (.int b), o, some (.ref S.length)] (S ++ [.lst (row (b + 2) (tot bs))]) := by
  obtain ⟨ρ', S', h1, h2⟩ := forF_inv (g := []) (tg := gV 2) (b := (sDrop (cM (m1 oAppend) (cV 3) (aCons (c2 oAddA (c2 oIx (cV 3) (c1 oNeg (cD (.int 1)))) (c2 oIx (c2 oIx (cV 0) (cCall (Cs Pg (k + 1)) i_raw_band (aCons (cV 0) (aCons (cV 2) aNil)))) (cD (.int 1)))) aNil))))
    (fun i ρ S' => S' = S ++ [.lst (row (i + 1) (tot bs))] ∧ ∃ o, ρ = [some (bD fl bs), some (.int b), o, some (.ref S.length)]) (rgD 0 (b + 1)) 0 [some (bD fl bs), some (.int b), none, some (.ref S.length)] (S ++ [.lst (row 1 (tot bs))])
    ⟨rfl, none, rfl⟩
    (fun i d hi ρ S' hp => by
      obtain ⟨rfl, o, rfl⟩ := hp
      refine ⟨trivial, ?_⟩
      have hir : i < b + 1 := by
        have := (List.getElem?_eq_some_iff.mp hi).1
        simpa using this
      have ed : d = .int (i : Int) := by
        simp only [rgD, List.getElem?_map, List.getElem?_range hir, Option.map_some, Option.some.injEq] at hi
        rw [← hi]
        congr 1
        omega
      subst ed
      have hrow : row (0 + i + 1) (tot bs) = row i (tot bs) ++ [.int (tot bs i)] := by
        rw [Nat.zero_add]
        simp [row, List.range_succ]
      have hrow2 : row (0 + i + 1 + 1) (tot bs) = row (0 + i + 1) (tot bs) ++ [.int (tot bs i + eachAt bs i)] := by
        rw [Nat.zero_add]
        simp [row, List.range_succ, tot]
      obtain ⟨p, hp, hp1, hp2⟩ := h.each_mem i
      refine ⟨_, rfl, [some (bD fl bs), some (.int b), some (.int i), some (.ref S.length)], S ++ [.lst (row (0 + i + 1 + 1) (tot bs))], ?_, rfl, _, rfl⟩
      have hl1 : lstOf (S ++ [.lst (row (0 + i + 1) (tot bs))]) (.ref S.length) = some (row (0 + i + 1) (tot bs)) := by simp [lstOf]
      have hx1 : oIx (.ref S.length) (.int (-1)) (S ++ [.lst (row (0 + i + 1) (tot bs))]) = .ok (.int (tot bs i)) (S ++ [.lst (row (0 + i + 1) (tot bs))]) := by
        refine oIx_m1r (ds := row i (tot bs)) ?_
        rw [get_last, hrow]
      have hx2 : oIx (bnD p) (.int 1) (S ++ [.lst (row (0 + i + 1) (tot bs))]) = .ok (.int p.2) (S ++ [.lst (row (0 + i + 1) (tot bs))]) := by simp [bnD]
      have hap : oAppend (.ref S.length) (.int (tot bs i + p.2)) (S ++ [.lst (row (0 + i + 1) (tot bs))]) = .ok .non (S ++ [.lst (row (0 + i + 1 + 1) (tot bs))]) := by
        simp only [oAppend, get_last]
        rw [if_pos ⟨by rw [row_len, sL]; omega, rfl⟩, set_last, hrow2, hp2]
      simp only [sDrop_e, cM, cV_0, cV_s, List.set, bind_ok, hl1, Option.isSome_some, if_true, aCons_e, aNil_e, c2_e, c1_e, cD_e, oNeg_e, hx1, cCall_e, ev_raw_band h i, bD_ix hp1, hx2, oAddA_e, m1, hap, sX_ok])
    (fun _ _ _ => trivial)
  obtain ⟨rfl, o, rfl⟩ := h2
  refine ⟨o, ?_⟩
  rw [h1]
  simp
theorem ev_raw_bands_form (h : Bands bs) : (Cs Pg (k + 5)).f i_raw_bands_form [bD fl bs] S = .ok (LF (tot bs)) S := by
  obtain ⟨r, hr⟩ := last_split h.ne
  have hb : (lastB bs).1 ≤ 200 := h.far _ h.last_mem
  have he := h.each _ h.last_mem
  obtain ⟨o, hfor⟩ := bands_for (k := k + 3) (S := S) (fl := fl) h (lastB bs).1 hb
  have hx : ∀ S', oIx (bD fl bs) (.int (-1)) S' = .ok (bnD (lastB bs)) S' := fun S' => by
    have := bD_last (fl := fl) (bs := r) (p := lastB bs) (S := S')
    rw [← hr] at this
    exact this
  have hx0 : ∀ S', oIx (bnD (lastB bs)) (.int 0) S' = .ok (.int (lastB bs).1) S' := fun S' => by simp [bnD]
  have hx1 : ∀ S', oIx (bnD (lastB bs)) (.int 1) S' = .ok (.int (lastB bs).2) S' := fun S' => by simp [bnD]
  have hq := h.tot_qp
  have hmade := ev_made (k := k) (S := S ++ [.lst (row ((lastB bs).1 + 2) (tot bs))]) hq (by omega) (sm_abs (by omega)) (li := li_raw_bands_form_0) (caps := [.ref S.length]) (fun n hn => by
    rw [le_raw_bands_form_0 _ _ _ _ rfl rfl (by rw [lp_raw_bands_form_0]; rfl)]
    unfold lamStart; rw [lN_raw_bands_form_0]
    have hxn : oIx (.ref S.length) (.int n) (S ++ [.lst (row ((lastB bs).1 + 2) (tot bs))]) = .ok (.int (tot bs n)) (S ++ [.lst (row ((lastB bs).1 + 2) (tot bs))]) := by
      refine oIx_ref get_last ?_
      rw [atI_row (by omega) (by omega), Int.toNat_natCast]
    simp only [lc_raw_bands_form_0, c2_e, List.map_cons, List.map_nil, List.cons_append, List.nil_append, cV_0, cV_s, bind_ok, hxn]
    rfl)
  obtain ⟨b0, r0, s0, hL, _, _⟩ := hq.least
  rw [LF_eq hL] at hmade ⊢
  rw [fe_raw_bands_form, runB_e _ _ _ _ _ (by rfl)]
  have ha : (sSet (gTupN 2 (gCons (gV 1) (gCons (gV 3) gNil))) (cN oTup (aCons (c2 oIx (c2 oIx (cV 0) (c1 oNeg (cD (.int 1)))) (cD (.int 0))) (aCons (cNew (aDisp (aCons (cD (.int 0)) aNil))) aNil)))) ([bD fl bs].map some ++ List.replicate (4 - [bD fl bs].length) none) S = .nx [some (bD fl bs), some (.int (lastB bs).1), none, some (.ref S.length)] (S ++ [.lst (row 1 (tot bs))]) := by
    simp [hx, hx0, sL, oLst_e (xs := [D.int 0]) rfl (by simp), gTupN]
    rfl
  simp only [b_raw_bands_form]
  rw [sSeq_nx ha]
  have hrg : rg1 (((lastB bs).1 : Int) + 1) (S ++ [.lst (row 1 (tot bs))]) = .ok (rgD 0 ((lastB bs).1 + 1), []) (S ++ [.lst (row 1 (tot bs))]) := by
    rw [rg1_e (by omega) (by omega), show (((lastB bs).1 : Int) + 1).toNat = (lastB bs).1 + 1 by omega]
  rw [sSeq_nx (ρ1 := [some (bD fl bs), some (.int (lastB bs).1), o, some (.ref S.length)]) (S1 := S ++ [.lst (row ((lastB bs).1 + 2) (tot bs))]) (by
    simp only [sFor_e, iR1_e, c2_e, cV_0, cV_s, cD_e, bind_ok, oAddA_e, inD'_e, hrg, sX_ok]
    exact hfor)]
  simp only [sRet_e, cCallL_e, aCons_e, aNil_e, c2_e, c1_e, cV_0, cV_s, cD_e, bind_ok, oNeg_e, hx, hx1, capsOf_cons, capsOf_nil, slot_0, slot_s, Option.map_some]
  rw [if_pos (by rfl)]
  have e1 : ([.int (lastB bs).1, .int 1, .int (lastB bs).2] ++ [.clo li_raw_bands_form_0 [.ref S.length]] : List D) = [.int (lastB bs).1, .int ((1 : Nat) : Int), .int (lastB bs).2, .clo li_raw_bands_form_0 [.ref S.length]] := rfl
  rw [e1, hmade, noX_ok (fD_isD _ _ _ _ _)]
  simp only [sX_ok, fin_rt]
  exact gc_junk (fD_wf _ _ _ _ _ _)
end LW
end Pf
end

section
set_option Elab.async false
set_option linter.all false
set_option maxRecDepth 20000
set_option maxHeartbeats 0
/-! E6: taxes. -/
namespace Pf
open PySem PySem.Spec PyProof.Rows L2
structure Tax (bs : List (Nat × Int)) : Prop where
  bands : Bands bs
  rate : ∀ p ∈ bs, 0 ≤ p.2 ∧ p.2 ≤ 99
/-- the tax on n -/
def tx (bs : List (Nat × Int)) (n : Nat) : Int := tot bs n / 100
theorem tx_qp {bs : List (Nat × Int)} {b : Nat} {s : Int} (h : M.Qp (tot bs) b 1 s) : M.Qp (tx bs) b 100 s := ⟨by decide, fun n hn => by
  have := h.mul 100 n hn
  unfold tx
  rw [show n + 100 = n + 100 * 1 from rfl, this]
  omega⟩
theorem tx_qp10 {bs : List (Nat × Int)} {b : Nat} {s : Int} (h : M.Qp (tot bs) b 1 s) (h10 : s % 10 = 0) : M.Qp (tx bs) b 10 (s / 10) := ⟨by decide, fun n hn => by
  have := h.mul 10 n hn
  unfold tx
  rw [show n + 10 = n + 10 * 1 from rfl, this]
  omega⟩
theorem tot_mono {bs : List (Nat × Int)} (h : Tax bs) (n : Nat) : tot bs n ≤ tot bs (n + 1) ∧ tot bs (n + 1) ≤ tot bs n + 99 := by
  obtain ⟨p, hp, _, e⟩ := h.bands.each_mem n
  have := h.rate p hp
  show tot bs n ≤ tot bs n + eachAt bs n ∧ tot bs n + eachAt bs n ≤ _
  omega
theorem tot_bd {bs : List (Nat × Int)} (h : Tax bs) : ∀ n : Nat, 0 ≤ tot bs n ∧ tot bs n ≤ 99 * n
  | 0 => by simp [tot]
  | n + 1 => by
    have h1 := tot_bd h n
    have h2 := tot_mono h n
    omega
theorem tx_bd {bs : List (Nat × Int)} (h : Tax bs) (n : Nat) : 0 ≤ tx bs n ∧ tx bs n ≤ n := by
  have := tot_bd h n
  unfold tx
  omega
theorem tx_mono {bs : List (Nat × Int)} (h : Tax bs) (n : Nat) : tx bs n ≤ tx bs (n + 1) ∧ tx bs (n + 1) ≤ tx bs n + 1 := by
  have := tot_mono h n
  unfold tx
  omega
namespace LW
variable {k : Nat} {S : Store} {fl : TF} {bs : List (Nat × Int)}
theorem ev_check_tax (h : Tax bs) : (Cs Pg (k + 4)).f i_check_tax [bD fl bs] S = .ok .non S := by
  have hl := h.bands.len
  have hat : (bs.all fun _ => true) = true := by simp
  rw [fe_check_tax, runB_e _ _ _ _ _ (by rfl)]
  simp only [b_check_tax, sIf_e, tOr_e, tNot_e, tV_e, cCall_e, cK_e, aComp_e, iE_e, List.map_cons, List.map_nil, List.length_cons, List.length_nil, Nat.reduceAdd, Nat.reduceSub, List.replicate, List.cons_append, List.nil_append, cV_0, cV_s, cD_e, bind_ok, aCons_e, aNil_e, ev_are_bands h.bands, tvD_e, Bool.not_true, Bool.false_eq_true, if_false, wipe_cons, wipe_nil, List.set]
  simp only [bD, seqL_tup, bind_ok]
  rw [compF_mapR (gd_nil _) bnD (fun _ => .bl true) bs (by omega) (fun p hp => ⟨_, rfl, by
    have g := h.rate p hp
    simp [ev_is_within, g]⟩)]
  simp [kAll_map (fun _ => true), hat]
theorem Fm_tot (h : Bands bs) : ∃ b, Fm (LF (tot bs)) b 1 (lastB bs).2 (tot bs) ∧ b ≤ (lastB bs).1 := by
  have hb : (lastB bs).1 ≤ 200 := h.far _ h.last_mem
  have he := h.each _ h.last_mem
  obtain ⟨b0, r0, s0, hF, h1, h2, hL⟩ := Fm_made h.tot_qp (by omega) (by omega)
  have hr : r0 = 1 := by
    have h3 := hF.qp.1
    rcases Nat.lt_or_ge 1 r0 with z | z
    · rw [Nat.mod_eq_of_lt z] at h2; omega
    · omega
  subst hr
  have := hF.qp.step_eq (r := 1) h.tot_qp
  subst this
  exact ⟨b0, hF, h1⟩
theorem ev_raw_tax (h : Bands bs) : (Cs Pg (k + 6)).f i_raw_tax [bD fl bs] S = .ok (LF (tx bs)) S := by
  obtain ⟨b, hF, hb⟩ := Fm_tot h
  have hb2 : (lastB bs).1 ≤ 200 := h.far _ h.last_mem
  have hq := tx_qp hF.qp
  obtain ⟨h0, _, _⟩ := ix_form (S := S) hF
  obtain ⟨r, hr⟩ := last_split h.ne
  have hx : ∀ S', oIx (bD fl bs) (.int (-1)) S' = .ok (bnD (lastB bs)) S' := fun S' => by
    have := bD_last (fl := fl) (bs := r) (p := lastB bs) (S := S')
    rw [← hr] at this
    exact this
  have hx1 : ∀ S', oIx (bnD (lastB bs)) (.int 1) S' = .ok (.int (lastB bs).2) S' := fun S' => by simp [bnD]
  have hmade := ev_made (k := k + 1) (S := S) hq (by omega) hF.sms (li := li_raw_tax_0) (caps := [LF (tot bs)]) (fun n hn => by
    rw [le_raw_tax_0 _ _ _ _ (by simp [isDs, hF.isD]) rfl (by rw [lp_raw_tax_0]; rfl)]
    unfold lamStart; rw [lN_raw_tax_0]
    simp only [lc_raw_tax_0, c2_e, List.map_cons, List.map_nil, List.cons_append, List.nil_append, cCall_e, aCons_e, aNil_e, cV_0, cV_s, bind_ok, ev_price hF (show n < 4611686018427387904 by omega), cD_e, ge_HUNDRED, oDiv_e (show (0 : Int) < 100 by omega) (sm_abs (show (100 : Int).natAbs < 4611686018427387904 by omega))]
    rfl)
  obtain ⟨b0, r0, s0, hL, _, _⟩ := hq.least
  rw [LF_eq hL] at hmade ⊢
  rw [fe_raw_tax, runB_e _ _ _ _ _ (by rfl)]
  simp only [b_raw_tax, sSeq_e, sSet_e, sX_ok, sRet_e, cCallL_e, cCall_e, aCons_e, aNil_e, c2_e, c1_e, List.map_cons, List.map_nil, List.length_cons, List.length_nil, Nat.reduceAdd, Nat.reduceSub, List.replicate, List.cons_append, List.nil_append, cV_0, cV_s, cD_e, bind_ok, ev_raw_bands_form h, gV_e, List.set, h0, ge_HUNDRED, oNeg_e, hx, hx1, capsOf_cons, capsOf_nil, slot_0, slot_s, Option.map_some]
  rw [if_pos (by simp [isDs, hF.isD])]
  have e1 : (100 : Int) = ((100 : Nat) : Int) := rfl
  rw [e1, hmade, noX_ok (fD_isD _ _ _ _ _)]
  simp only [sX_ok, fin_rt]
  exact gc_same (fD_isD .hard b0 r0 s0 _)
theorem tx_LF_isD (h : Bands bs) : isD (LF (tx bs)) = true := LF_isD (tx_qp h.tot_qp)
theorem ev_tax_form (h : Tax bs) : (Cs Pg (k + 7)).f i_tax_form [bD fl bs] S = .ok (LF (tx bs)) S := by
  rw [fe_tax_form, runB_e _ _ _ _ _ (by rfl)]
  simp [b_tax_form, ev_check_tax h, ev_raw_tax h.bands]
  exact gc_same (tx_LF_isD h.bands)
/-- the form of a tax -/
theorem Fm_tx (h : Tax bs) : ∃ b r s, Fm (LF (tx bs)) b r s (tx bs) ∧ b ≤ (lastB bs).1 ∧ 100 % r = 0 ∧ 0 < r ∧ r ≤ 100 ∧ s.natAbs ≤ 99 := by
  have hb : (lastB bs).1 ≤ 200 := h.bands.far _ h.bands.last_mem
  have he := h.rate _ h.bands.last_mem
  have hq := tx_qp h.bands.tot_qp
  obtain ⟨b0, r0, s0, hF, h1, h2, hL⟩ := Fm_made hq (by omega) (by omega)
  exact ⟨b0, r0, s0, hF, h1, h2, hF.qp.1, hL.round _ _ _ hq, by
    have := step_le hq hL
    omega⟩
theorem Fm_all : Fm g_ALL 0 1 1 (fun n => (n : Int)) := ⟨⟨.any, rfl⟩, ⟨by decide, fun n _ => by show ((n + 1 : Nat) : Int) = (n : Int) + 1; omega⟩, by decide, by decide⟩
/-- what is left -/
def net (bs : List (Nat × Int)) (n : Nat) : Int := n - tx bs n
theorem net_qp (h : Tax bs) : M.Qp (net bs) (lastB bs).1 100 (100 - (lastB bs).2) := by
  have hq := tx_qp h.bands.tot_qp
  refine ⟨hq.1, fun n hn => ?_⟩
  have e := hq.2 n hn
  unfold net
  rw [e]
  omega
theorem Fm_net (h : Tax bs) : ∃ b r s, Fm (LF (net bs)) b r s (net bs) ∧ b ≤ (lastB bs).1 ∧ 100 % r = 0 ∧ 0 < r ∧ r ≤ 100 ∧ 0 < s ∧ s ≤ 100 := by
  have hb : (lastB bs).1 ≤ 200 := h.bands.far _ h.bands.last_mem
  have he := h.rate _ h.bands.last_mem
  have hq := net_qp h
  obtain ⟨b0, r0, s0, hF, h1, h2, hL⟩ := Fm_made hq (by omega) (by omega)
  have hp := hF.qp.prop hq
  have h3 := hF.qp.1
  have hle := hL.round _ _ _ hq
  have h5 := step_le hq hL
  have hs : 0 < s0 := by
    have : (0 : Int) < (r0 : Int) * (100 - (lastB bs).2) := Int.mul_pos (by omega) (by omega)
    rw [← hp] at this
    rcases Int.lt_or_le 0 s0 with z | z
    · exact z
    · have : ((100 : Nat) : Int) * s0 ≤ 0 := by omega
      omega
  exact ⟨b0, r0, s0, hF, h1, h2, h3, hle, hs, by omega⟩
theorem ev_raw_net (h : Tax bs) : (Cs Pg (k + 7)).f i_raw_net [bD fl bs] S = .ok (LF (net bs)) S := by
  obtain ⟨b, r, s, hF, h1, h2, h3, h4, h5⟩ := Fm_tx h
  have hb : (lastB bs).1 ≤ 200 := h.bands.far _ h.bands.last_mem
  have el : Nat.lcm 1 r = r := Nat.lcm_one_left r
  have hle := ev_raw_lessened (k := k + 1) (S := S) Fm_all hF (by rw [el]; omega)
  rw [fe_raw_net, runB_e _ _ _ _ _ (by rfl)]
  simp only [b_raw_net, sRet_e, cCall_e, aCons_e, aNil_e, List.map_cons, List.map_nil, List.length_cons, List.length_nil, Nat.reduceAdd, Nat.reduceSub, List.replicate, List.cons_append, List.nil_append, List.append_nil, cV_0, cV_s, cD_e, bind_ok, ev_raw_tax h.bands, hle, sX_ok, fin_rt]
  exact gc_same (LF_isD (net_qp h))
theorem ev_net_form (h : Tax bs) : (Cs Pg (k + 8)).f i_net_form [bD fl bs] S = .ok (LF (net bs)) S := by
  rw [fe_net_form, runB_e _ _ _ _ _ (by rfl)]
  simp [b_net_form, ev_check_tax h, ev_raw_net h]
  exact gc_same (LF_isD (net_qp h))
end LW
end Pf
end

section
set_option Elab.async false
set_option linter.all false
set_option maxRecDepth 20000
set_option maxHeartbeats 0
/-! E6m: greatest, least, rounding up. -/
namespace Pf
open PySem PySem.Spec PyProof.Rows L2
theorem maxL_ge : ∀ {xs : List Int} {x : Int}, x ∈ xs → x ≤ maxL xs
  | [], x, h => by simp at h
  | [y], x, h => by simp at h; subst h; exact Int.le_refl _
  | y :: z :: r, x, h => by
    have ih := fun x h => maxL_ge (xs := z :: r) (x := x) h
    show x ≤ if maxL (z :: r) > y then maxL (z :: r) else y
    rcases List.mem_cons.mp h with rfl | h
    · split <;> omega
    · have := ih x h
      split <;> omega
theorem maxL_mem : ∀ {xs : List Int}, xs ≠ [] → maxL xs ∈ xs
  | [], h => absurd rfl h
  | [y], _ => by simp [maxL]
  | y :: z :: r, _ => by
    have ih := maxL_mem (xs := z :: r) (by simp)
    show (if maxL (z :: r) > y then maxL (z :: r) else y) ∈ _
    split
    · exact List.mem_cons_of_mem _ ih
    · simp
theorem minL_le : ∀ {xs : List Int} {x : Int}, x ∈ xs → minL xs ≤ x
  | [], x, h => by simp at h
  | [y], x, h => by simp at h; subst h; exact Int.le_refl _
  | y :: z :: r, x, h => by
    have ih := fun x h => minL_le (xs := z :: r) (x := x) h
    show (if minL (z :: r) < y then minL (z :: r) else y) ≤ x
    rcases List.mem_cons.mp h with rfl | h
    · split <;> omega
    · have := ih x h
      split <;> omega
theorem minL_mem : ∀ {xs : List Int}, xs ≠ [] → minL xs ∈ xs
  | [], h => absurd rfl h
  | [y], _ => by simp [minL]
  | y :: z :: r, _ => by
    have ih := minL_mem (xs := z :: r) (by simp)
    show (if minL (z :: r) < y then minL (z :: r) else y) ∈ _
    split
    · exact List.mem_cons_of_mem _ ih
    · simp
theorem sm_mul {i j : Int} (hi : i.natAbs < 4611686018427387904) (hj : j.natAbs < 4611686018427387904) : Sm (i * j) := by
  unfold Sm
  rw [Int.natAbs_mul]
  have h1 : i.natAbs * j.natAbs ≤ 4611686018427387904 * 4611686018427387904 := Nat.mul_le_mul (by omega) (by omega)
  refine Nat.lt_of_le_of_lt h1 ?_
  have e : (4611686018427387904 * 4611686018427387904 : Nat) = 2 ^ 124 := by decide
  rw [e]
  exact Nat.pow_lt_pow_right (by omega) (by omega)
namespace LW
theorem upBy_le {a b : Int} (hb : 0 < b) : a ≤ upBy a b * b := by
  unfold upBy
  have h1 := Int.mul_ediv_add_emod (0 - a) b
  have h2 := Int.emod_nonneg (0 - a) (show b ≠ 0 by omega)
  have e : (0 - (0 - a) / b) * b = - (b * ((0 - a) / b)) := by
    rw [Int.sub_mul, Int.zero_mul, Int.mul_comm b]
    omega
  rw [e]
  omega
theorem upBy_nonneg_le {a b : Int} (hb : 0 < b) : upBy a b ≤ max a 0 := by
  unfold upBy
  rcases Int.le_total a 0 with z | z
  · have : 0 ≤ (0 - a) / b := Int.ediv_nonneg (by omega) (by omega)
    omega
  · have : 0 - a ≤ (0 - a) / b := by
      rw [Int.le_ediv_iff_mul_le hb]
      have : a * 1 ≤ a * b := Int.mul_le_mul_of_nonneg_left (by omega) z
      rw [Int.sub_mul]
      omega
    omega
end LW
end Pf
end

section
set_option Elab.async false
set_option linter.all false
set_option maxRecDepth 20000
set_option maxHeartbeats 0
set_option autoImplicit false
/-! E8: sets. -/
namespace Pf
open PySem PySem.Spec PyProof.Rows L2
theorem eqvAll_bls : ∀ a b : List Bool, PyData.eqvAll (toPys (a.map D.bl)) (toPys (b.map D.bl)) = decide (a = b)
  | [], [] => rfl
  | [], _ :: _ => rfl
  | _ :: _, [] => rfl
  | x :: a, y :: b => by
    show (x == y && PyData.eqvAll (toPys (a.map D.bl)) (toPys (b.map D.bl))) = _
    rw [eqvAll_bls a b]
    by_cases h1 : x = y <;> by_cases h2 : a = b <;> simp [h1, h2]
theorem eqD_bl (a b : Bool) : eqD (.bl a) (.bl b) = (a == b) := rfl
theorem okDs_bls (n : Nat) : ∀ xs : List Bool, okDs n (xs.map D.bl) = true
  | [] => by cases n <;> rfl
  | x :: r => by
    have := okDs_bls n r
    cases n <;> simpa [okDs, okD] using this
theorem oEq_bls {S : Store} (fl fl' : TF) (a b : List Bool) : oEq (.tup fl (a.map D.bl)) (.tup fl' (b.map D.bl)) S = .ok (.bl (decide (a = b))) S := by
  have e : eqD (.tup fl (a.map D.bl)) (.tup fl' (b.map D.bl)) = decide (a = b) := eqvAll_bls a b
  simp [oEq, drf, okD, okDs_bls, e]
theorem oEq_bl {S : Store} (a b : Bool) : oEq (.bl a) (.bl b) S = .ok (.bl (a == b)) S := by
  simp [oEq, drf, okD, eqD_bl]
/-- a row of truths -/
def brow (N : Nat) (g : Nat → Bool) : List D := (List.range N).map fun n => .bl (g n)
@[simp] theorem brow_len (N : Nat) (g : Nat → Bool) : (brow N g).length = N := by simp [brow]
theorem brow_bls (N : Nat) (g : Nat → Bool) : brow N g = ((List.range N).map g).map D.bl := by simp [brow, Function.comp_def]
theorem oIx_brow {S : Store} {fl : TF} {N : Nat} {g : Nat → Bool} {n : Nat} (h : n < N) : oIx (.tup fl (brow N g)) (.int (n : Int)) S = .ok (.bl (g n)) S := by
  refine oIx_tup ?_
  rw [atI_nat _ _ (by simpa using h)]
  simp [brow, h]
/-- a set -/
def tD (b r : Nat) (g : Nat → Bool) : D := .tup .any [.int b, .int r, .tup .hard (brow (b + r) g)]
theorem bls_wf (n : Nat) : ∀ xs : List Bool, wfDs n (xs.map D.bl) = true
  | [] => rfl
  | x :: r => by simp [wfDs, wfD, bls_wf n r]
theorem tD_wf (b r n : Nat) (g : Nat → Bool) : wfD n (tD b r g) = true := by simp [tD, wfD, wfDs, brow_bls, bls_wf, -List.map_map]
theorem tD_isD (b r : Nat) (g : Nat → Bool) : isD (tD b r g) = true := isD_of_wf (n := 0) _ (tD_wf b r 0 g)
/-- from b on round by r -/
def Per (g : Nat → Bool) (b r : Nat) : Prop := 0 < r ∧ ∀ n, b ≤ n → g (n + r) = g n
theorem Per.mul {g : Nat → Bool} {b r : Nat} (h : Per g b r) : ∀ (m n : Nat), b ≤ n → g (n + m * r) = g n
  | 0, n, _ => by simp
  | m + 1, n, hn => by
    have e : n + (m + 1) * r = (n + m * r) + r := by rw [Nat.succ_mul]; omega
    rw [e, h.2 _ (by omega), Per.mul h m n hn]
theorem Per.at_ {g : Nat → Bool} {b r : Nat} (h : Per g b r) {n : Nat} (hn : b ≤ n) : g n = g (b + (n - b) % r) := by
  have en : n = b + (n - b) % r + (n - b) / r * r := by
    have := Nat.mod_add_div (n - b) r
    rw [Nat.mul_comm] at this
    omega
  have := h.mul ((n - b) / r) (b + (n - b) % r) (by omega)
  rw [← en] at this
  exact this
theorem flat_get {α : Type} (t : List α) : ∀ (q i : Nat), i < q * t.length → (List.replicate q t).flatten[i]? = t[i % t.length]?
  | 0, i, h => by omega
  | q + 1, i, h => by
    rw [List.replicate_succ, List.flatten_cons]
    by_cases hi : i < t.length
    · rw [List.getElem?_append_left hi, Nat.mod_eq_of_lt hi]
    · have hq : (q + 1) * t.length = q * t.length + t.length := Nat.succ_mul _ _
      rw [List.getElem?_append_right (by omega), flat_get t q (i - t.length) (by omega), ← Nat.mod_eq_sub_mod (by omega)]
/-- the ring test -/
def RingB (g : Nat → Bool) (b r l : Nat) : Bool := decide ((List.replicate (r / l) (((List.range r).map fun i => g (b + i)).take l)).flatten = (List.range r).map fun i => g (b + i))
theorem ring_per {g : Nat → Bool} {b r l : Nat} (h : Per g b r) (hl : 0 < l) (hd : r % l = 0) (hr : RingB g b r l = true) : Per g b l := by
  have hr0 := h.1
  have hle : l ≤ r := Nat.le_of_dvd hr0 (Nat.dvd_of_mod_eq_zero hd)
  have e := of_decide_eq_true hr
  have hlen : (((List.range r).map fun i => g (b + i)).take l).length = l := by simp; omega
  have hql : r / l * l = r := Nat.div_mul_cancel (Nat.dvd_of_mod_eq_zero hd)
  have key : ∀ i, i < r → g (b + i) = g (b + i % l) := by
    intro i hi
    have h1 := flat_get (((List.range r).map fun i => g (b + i)).take l) (r / l) i (by rw [hlen, hql]; exact hi)
    rw [e, hlen] at h1
    have h2 := Nat.mod_lt i hl
    rw [List.getElem?_take_of_lt h2] at h1
    have h3 : i % l < r := by omega
    simpa [hi, h3] using h1
  refine ⟨hl, fun n hn => ?_⟩
  have hi := Nat.mod_lt (n - b) hr0
  have hj := Nat.mod_lt (n + l - b) hr0
  rw [h.at_ hn, h.at_ (show b ≤ n + l by omega), key _ hi, key _ hj, Nat.mod_mod_of_dvd _ (Nat.dvd_of_mod_eq_zero hd), Nat.mod_mod_of_dvd _ (Nat.dvd_of_mod_eq_zero hd)]
  congr 2
  rw [show n + l - b = n - b + l by omega, Nat.add_mod_right]
theorem ring_self {g : Nat → Bool} {b r : Nat} (hr : 0 < r) : RingB g b r r = true := by
  unfold RingB
  rw [Nat.div_self hr, List.take_of_length_le (by simp)]
  simp
theorem ring_of {g : Nat → Bool} {b r l : Nat} (h : Per g b l) (hd : r % l = 0) (hr : 0 < r) : RingB g b r l = true := by
  have hle : l ≤ r := Nat.le_of_dvd hr (Nat.dvd_of_mod_eq_zero hd)
  have hlen : (((List.range r).map fun i => g (b + i)).take l).length = l := by simp; omega
  have hql : r / l * l = r := Nat.div_mul_cancel (Nat.dvd_of_mod_eq_zero hd)
  unfold RingB
  rw [decide_eq_true_iff]
  apply List.ext_getElem?
  intro i
  by_cases hi : i < r
  · have h1 := flat_get (((List.range r).map fun i => g (b + i)).take l) (r / l) i (by rw [hlen, hql]; exact hi)
    rw [h1, hlen]
    have h2 := Nat.mod_lt i h.1
    have h3 : i % l < r := by omega
    rw [List.getElem?_take_of_lt h2]
    have h4 : g (b + i) = g (b + i % l) := by
      have := h.at_ (show b ≤ b + i by omega)
      rwa [show b + i - b = i by omega] at this
    simp [hi, h3, h4]
  · have e1 : ((List.replicate (r / l) (((List.range r).map fun i => g (b + i)).take l)).flatten).length = r := by
      rw [List.length_flatten, List.map_replicate, List.sum_replicate_nat, hlen, hql]
    rw [List.getElem?_eq_none (by rw [e1]; omega), List.getElem?_eq_none (by simp; omega)]
/-- the least telling of a set -/
structure PL (g : Nat → Bool) (b r : Nat) : Prop where
  per : Per g b r
  round : ∀ b' r', Per g b' r' → r ≤ r'
  begin_ : b = 0 ∨ g (b - 1 + r) ≠ g (b - 1)
theorem PL.uniq {g : Nat → Bool} {b r b' r' : Nat} (h : PL g b r) (h' : PL g b' r') : b = b' ∧ r = r' := by
  have hr : r = r' := Nat.le_antisymm (h.round _ _ h'.per) (h'.round _ _ h.per)
  subst hr
  refine ⟨?_, rfl⟩
  rcases Nat.lt_trichotomy b b' with z | z | z
  · rcases h'.begin_ with e | e
    · omega
    · exact absurd (h.per.2 (b' - 1) (by omega)) e
  · exact z
  · rcases h.begin_ with e | e
    · omega
    · exact absurd (h'.per.2 (b - 1) (by omega)) e
def gi (g : Nat → Bool) (n : Nat) : Int := if g n = true then 1 else 0
theorem gi_inj {g : Nat → Bool} {m n : Nat} : gi g m = gi g n ↔ g m = g n := by
  unfold gi
  cases g m <;> cases g n <;> simp
theorem per_qp {g : Nat → Bool} {b r : Nat} : Per g b r ↔ M.Qp (gi g) b r 0 := by
  constructor
  · rintro ⟨h1, h2⟩
    exact ⟨h1, fun n hn => by rw [Int.add_zero]; exact gi_inj.mpr (h2 n hn)⟩
  · rintro ⟨h1, h2⟩
    exact ⟨h1, fun n hn => by have := h2 n hn; rw [Int.add_zero] at this; exact gi_inj.mp this⟩
/-- there is a least round, it parts each other one -/
theorem Per.round {g : Nat → Bool} {b r : Nat} (h : Per g b r) : ∃ r0, Per g b r0 ∧ r % r0 = 0 ∧ ∀ b' r', Per g b' r' → r0 ≤ r' := by
  obtain ⟨b0, r0, s0, hL, h1, h2⟩ := (per_qp.mp h).least
  have hs : s0 = 0 := by
    have := hL.qp.prop (per_qp.mp h)
    rw [Int.mul_zero] at this
    have hr := h.1
    rcases Int.mul_eq_zero.mp this with z | z
    · omega
    · exact z
  subst hs
  exact ⟨r0, per_qp.mpr (hL.qp.mono h1), h2, fun b' r' h' => hL.round _ _ _ (per_qp.mp h')⟩
open Classical in
/-- a set as data -/
noncomputable def LS (g : Nat → Bool) : D := if h : ∃ p : Nat × Nat, PL g p.1 p.2 then tD (Classical.choose h).1 (Classical.choose h).2 g else .non
theorem LS_eq {g : Nat → Bool} {b r : Nat} (h : PL g b r) : LS g = tD b r g := by
  have hx : ∃ p : Nat × Nat, PL g p.1 p.2 := ⟨(b, r), h⟩
  unfold LS
  rw [dif_pos hx]
  obtain ⟨e1, e2⟩ := (Classical.choose_spec hx).uniq h
  rw [e1, e2]
namespace LW
variable {k : Nat} {S : Store} {b r : Nat} {g : Nat → Bool}
theorem ev_raw_has (h : Per g b r) (hw : b + r ≤ 5000) {n : Nat} (hn : n ≤ 100000) : (Cs Pg (k + 1)).f i_raw_has [tD b r g, .int n] S = .ok (.bl (g n)) S := by
  have hr := h.1
  rw [fe_raw_has, runB_e _ _ _ _ _ (by rfl)]
  have ha : (sSet (gTupN 3 (gCons (gV 2) (gCons (gV 3) (gCons (gV 4) gNil)))) (cV 0)) ([tD b r g, .int n].map some ++ List.replicate (5 - [tD b r g, D.int n].length) none) S = .nx [some (tD b r g), some (.int n), some (.int b), some (.int r), some (.tup .hard (brow (b + r) g))] S := by
    simp [tD, gTupN]
  simp only [b_raw_has]
  rw [sSeq_nx ha]
  by_cases hlt : n < b + r
  · have h' : (n : Int) < (b : Int) + r := by omega
    simp only [sRet_e, cIf_e, tV_e, c2_e, cV_0, cV_s, bind_ok, oAddA_e, oLt_e, h', decide_true, tvD_e, if_true, oIx_brow hlt, sX_ok, fin_rt, gc_bl]
  · have h' : ¬ (n : Int) < (b : Int) + r := by omega
    have hm := Nat.mod_lt (n - b) hr
    have e1 : (n : Int) - b = ((n - b : Nat) : Int) := by omega
    have e2 : (b : Int) + ((n - b : Nat) : Int) % (r : Int) = ((b + (n - b) % r : Nat) : Int) := by rw [Int.natCast_add, Int.natCast_emod]
    simp only [sRet_e, cIf_e, tV_e, c2_e, cV_0, cV_s, bind_ok, oAddA_e, oLt_e, h', decide_false, tvD_e, Bool.false_eq_true, if_false, oSub_e, e1, oMod_p (show (0 : Int) < r by omega), e2, oIx_brow (show b + (n - b) % r < b + r by omega), sX_ok, fin_rt, gc_bl]
    rw [h.at_ (show b ≤ n by omega)]

/-- raw_least_set's names -/
def ES (b r bg best : Nat) (g : Nat → Bool) : Env := [some (tD b r g), some (.int bg), some (.int r), some (.tup .hard (brow (b + r) g)), some (.tup .any (((List.range r).map fun i => g (b + i)).map D.bl)), some (.int best), none, none]
/-- how far down it goes -/
def sb (g : Nat → Bool) (best : Nat) : Nat → Nat
  | 0 => 0
  | m + 1 => if (g (m + best) == g m) = true then sb g best m else m + 1
theorem sb_begin {best : Nat} : ∀ m : Nat, sb g best m = 0 ∨ g (sb g best m - 1 + best) ≠ g (sb g best m - 1)
  | 0 => .inl rfl
  | m + 1 => by
    unfold sb
    split
    · exact sb_begin m
    · rename_i hc
      exact .inr fun e => hc (by rw [Nat.add_sub_cancel] at e; simp [e])
theorem sb_ok {best : Nat} : ∀ m : Nat, Per g m best → sb g best m ≤ m ∧ Per g (sb g best m) best
  | 0, h => ⟨Nat.le_refl _, h⟩
  | m + 1, h => by
    unfold sb
    split
    · rename_i hc
      have hper : Per g m best := ⟨h.1, fun x hx => by
        by_cases e : x = m
        · rw [e]; exact eq_of_beq hc
        · exact h.2 x (by omega)⟩
      have := sb_ok m hper
      exact ⟨by omega, this.2⟩
    · exact ⟨Nat.le_refl _, h⟩
theorem set_while (hp : Per g b r) (hw : b + r ≤ 5000) {best : Nat} (hb : best ≤ r) :
    ∀ (n m : Nat), m < n → m ≤ b → whileF (tAnd (tV (c2 oGt (cV 1) (cD (.int 0)))) (tV (c2 oEq (cCall (Cs Pg (k + 1)) i_raw_has (aCons (cV 0) (aCons (c2 oAddA (c2 oSub (cV 1) (cD (.int 1))) (cV 5)) aNil))) (c2 oIx (cV 3) (c2 oSub (cV 1) (cD (.int 1))))))) (sSet (gV 1) (c2 oSub (cV 1) (cD (.int 1)))) n (ES b r m best g) S
      = .nx (ES b r (sb g best m) best g) S
  | 0, m, h, _ => by omega
  | n + 1, 0, h, h1 => by simp [whileF, ES, sb]
  | n + 1, m + 1, h, h1 => by
    have hh : (Cs Pg (k + 1)).f i_raw_has [tD b r g, .int ((m + best : Nat) : Int)] S = .ok (.bl (g (m + best))) S := ev_raw_has hp hw (by omega)
    have e1 : ((m + 1 : Nat) : Int) - 1 = (m : Int) := by omega
    have e2 : (m : Int) + (best : Int) = ((m + best : Nat) : Int) := by omega
    have e3 : (0 : Int) < ((m + 1 : Nat) : Int) := by omega
    have hx : oIx (.tup .hard (brow (b + r) g)) (.int (m : Int)) S = .ok (.bl (g m)) S := oIx_brow (by omega)
    have ht : (tAnd (tV (c2 oGt (cV 1) (cD (.int 0)))) (tV (c2 oEq (cCall (Cs Pg (k + 1)) i_raw_has (aCons (cV 0) (aCons (c2 oAddA (c2 oSub (cV 1) (cD (.int 1))) (cV 5)) aNil))) (c2 oIx (cV 3) (c2 oSub (cV 1) (cD (.int 1))))))) (ES b r (m + 1) best g) S = .ok (g (m + best) == g m) S := by
      simp only [ES, tAnd_e, tV_e, c2_e, cV_0, cV_s, bind_ok, cD_e, oGt_e, e3, decide_true, tvD_e, if_true, cCall_e, aCons_e, aNil_e, oSub_e, e1, oAddA_e, e2, hh, hx, oEq_bl]
    cases hc : (g (m + best) == g m) with
    | false => simp only [whileF, ht, hc, sX_ok, Bool.false_eq_true, if_false, sb]
    | true =>
      have hbd : (sSet (gV 1) (c2 oSub (cV 1) (cD (.int 1)))) (ES b r (m + 1) best g) S = .nx (ES b r m best g) S := by
        simp only [ES, sSet_e, c2_e, cV_0, cV_s, bind_ok, cD_e, oSub_e, e1, sX_ok, gV_e, List.set]
      have ih := set_while hp hw hb n m (by omega) (by omega)
      simp only [whileF, ht, hc, sX_ok, if_true, hbd, ih, sb]
theorem cutD_take (xs : List D) (l : Nat) (h : l ≤ xs.length) : cutD xs none (some (l : Int)) = xs.take l := by
  unfold cutD
  rw [HT.sIx_nat, HT.sIx_none, Nat.min_eq_left h, List.drop_zero, Nat.sub_zero]
theorem ev_raw_least_set (hp : Per g b r) (hw : b + r ≤ 5000) : ∃ b' r', PL g b' r' ∧ b' ≤ b ∧ r' ≤ r ∧ ∀ (k : Nat) (S : Store), (Cs Pg (k + 2)).f i_raw_least_set [tD b r g] S = .ok (tD b' r' g) S := by
  have hr := hp.1
  let p : Nat → Bool := fun i => decide (r % (i + 1) = 0) && RingB g b r (i + 1)
  have hmem : r - 1 ∈ (List.range r).filter p := by
    refine List.mem_filter.mpr ⟨by simp; omega, ?_⟩
    show (decide (r % (r - 1 + 1) = 0) && RingB g b r (r - 1 + 1)) = true
    rw [show r - 1 + 1 = r by omega, ring_self hr]
    simp
  obtain ⟨i0, rest, hfil⟩ : ∃ i0 rest, (List.range r).filter p = i0 :: rest := by
    cases e : (List.range r).filter p with
    | nil => rw [e] at hmem; simp at hmem
    | cons x l => exact ⟨x, l, rfl⟩
  have hi0 : i0 ∈ (List.range r).filter p := by rw [hfil]; simp
  obtain ⟨h1, h2⟩ := List.mem_filter.mp hi0
  have h1' : i0 < r := by simpa using h1
  have h2' : r % (i0 + 1) = 0 ∧ RingB g b r (i0 + 1) = true := by simpa [p] using h2
  have hbest : Per g b (i0 + 1) := ring_per hp (by omega) h2'.1 h2'.2
  obtain ⟨q1, q2⟩ := sb_ok b hbest
  obtain ⟨r0, hr0, hdv0, hmin⟩ := hp.round
  have hi0r : i0 + 1 ≤ r0 := by
    have hlt0 : r0 ≤ r := Nat.le_of_dvd hr (Nat.dvd_of_mod_eq_zero hdv0)
    have h0 := hr0.1
    have hm : r0 - 1 ∈ (List.range r).filter p := by
      refine List.mem_filter.mpr ⟨by simp; omega, ?_⟩
      show (decide (r % (r0 - 1 + 1) = 0) && RingB g b r (r0 - 1 + 1)) = true
      rw [show r0 - 1 + 1 = r0 by omega, ring_of hr0 hdv0 hr, hdv0]
      rfl
    have hsorted : ((List.range r).filter p).Pairwise (· < ·) := List.Pairwise.filter _ List.pairwise_lt_range
    rw [hfil] at hm hsorted
    rcases List.mem_cons.mp hm with e | e
    · omega
    · have := (List.pairwise_cons.mp hsorted).1 _ e
      omega
  refine ⟨sb g (i0 + 1) b, i0 + 1, ⟨q2, fun b' r' h' => Nat.le_trans hi0r (hmin b' r' h'), sb_begin b⟩, q1, by omega, fun k S => ?_⟩
  have hwh := set_while (k := k) (S := S) hp hw (show i0 + 1 ≤ r by omega) fuel b (by rw [fuel_eq]; exact Nat.lt_of_le_of_lt (show b ≤ 5000 by omega) (by decide)) (Nat.le_refl _)
  rw [fe_raw_least_set, runB_e _ _ _ _ _ (by rfl)]
  simp only [b_raw_least_set]
  have ha : (sSet (gTupN 3 (gCons (gV 1) (gCons (gV 2) (gCons (gV 3) gNil)))) (cV 0)) ([tD b r g].map some ++ List.replicate (8 - [tD b r g].length) none) S = .nx [some (tD b r g), some (.int b), some (.int r), some (.tup .hard (brow (b + r) g)), none, none, none, none] S := by
    simp [tD, gTupN]
  have hcut : cutD (brow (b + r) g) (some (b : Int)) none = ((List.range r).map fun i => g (b + i)).map D.bl := by
    rw [cutD_nat _ _ (by simp), brow, ← List.map_drop, List.range_add, List.drop_append_of_le_length (by simp), List.drop_of_length_le (by simp)]
    simp
  have hb : (sSet (gV 4) (cCut (cV 3) (pSome (cV 1)) pNo)) [some (tD b r g), some (.int b), some (.int r), some (.tup .hard (brow (b + r) g)), none, none, none, none] S = .nx [some (tD b r g), some (.int b), some (.int r), some (.tup .hard (brow (b + r) g)), some (.tup .any (((List.range r).map fun i => g (b + i)).map D.bl)), none, none, none] S := by
    simp only [sSet_e, cCut_e, cV_0, cV_s, bind_ok, pSome_e, inD'_e, pNo_e, oCut, hcut, sX_ok, gV_e, List.set]
  rw [sSeq_nx ha, sSeq_nx hb]
  have hrg : rg2 1 ((r : Int) + 1) S = .ok ((List.range r).map fun (i : Nat) => D.int (1 + (i : Int)), []) S := by
    rw [rg2_e (by omega) (by omega) (by omega) (by omega), show ((r : Int) + 1 - 1).toNat = r by omega]
    rfl
  have hc : (sSet (gV 5) (cIxL (aComp [6] (iR (cD (.int 1)) (c2 oAddA (cV 2) (cD (.int 1)))) (gV 6) (tAnd (tV (c2 oEq (c2 oMod (cV 2) (cV 6)) (cD (.int 0)))) (tV (c2 oEq (c2 oMulA (cCut (cV 4) pNo (pSome (cV 6))) (c2 oDiv (cV 2) (cV 6))) (cV 4)))) (cV 6)) (cD (.int 0)))) [some (tD b r g), some (.int b), some (.int r), some (.tup .hard (brow (b + r) g)), some (.tup .any (((List.range r).map fun i => g (b + i)).map D.bl)), none, none, none] S
      = .nx (ES b r b (i0 + 1) g) S := by
    simp only [sSet_e, cIxL, aComp_e, iR_e, cD_e, c2_e, cV_0, cV_s, bind_ok, oAddA_e, inD'_e, hrg, wipe_cons, wipe_nil, List.set]
    rw [compF_filR (gd_nil _) _ p (fun i => D.int (1 + (i : Int))) (List.range r) (by simp; omega) (fun i hi => ⟨_, rfl, by
      have hir : i < r := by simpa using hi
      have e0 : (1 : Int) + (i : Int) = ((i + 1 : Nat) : Int) := by omega
      simp only [e0]
      by_cases hz : r % (i + 1) = 0
      · have hz' : (r : Int) % ((i + 1 : Nat) : Int) = 0 := by rw [← Int.natCast_emod, hz]; rfl
        have hql : r / (i + 1) * (i + 1) = r := Nat.div_mul_cancel (Nat.dvd_of_mod_eq_zero hz)
        have hdl : r / (i + 1) ≤ r := Nat.div_le_self _ _
        have hdv : oDiv (.int r) (.int ((i + 1 : Nat) : Int)) S = .ok (.int ((r / (i + 1) : Nat) : Int)) S := by
          rw [oDiv_e (by omega) (sm_nat (by omega)), ← Int.natCast_ediv]
        have hmu : oMulA (.tup .any ((((List.range r).map fun i => g (b + i)).map D.bl).take (i + 1))) (.int ((r / (i + 1) : Nat) : Int)) S = .ok (.tup .any (((List.replicate (r / (i + 1)) (((List.range r).map fun i => g (b + i)).take (i + 1))).flatten).map D.bl)) S := by
          show oRepA _ _ S = _
          unfold oRepA
          have hln : ((((List.range r).map fun i => g (b + i)).map D.bl).take (i + 1)).length = i + 1 := by simp; omega
          rw [if_pos ⟨Int.le_trans (by decide) (Int.natCast_nonneg _), Int.le_trans (Int.ofNat_le.mpr (show r / (i + 1) ≤ 5000 by omega)) (by decide), by rw [hln, Int.toNat_natCast, Nat.mul_comm, hql]; omega⟩, Int.toNat_natCast, List.map_flatten, List.map_replicate, List.map_take]
        simp only [tAnd_e, tV_e, c2_e, cV_0, cV_s, List.set, bind_ok, oMod_p (show (0 : Int) < ((i + 1 : Nat) : Int) by omega), cD_e, oEq_int, hz', decide_true, tvD_e, if_true, cCut_e, pNo_e, pSome_e, inD'_e, oCut, cutD_take _ _ (show i + 1 ≤ (((List.range r).map fun i => g (b + i)).map D.bl).length by simp; omega), hdv, hmu, oEq_bls]
        simp [p, hz, RingB]
      · have hz' : ¬ (r : Int) % ((i + 1 : Nat) : Int) = 0 := by rw [← Int.natCast_emod]; omega
        simp only [tAnd_e, tV_e, c2_e, cV_0, cV_s, List.set, bind_ok, oMod_p (show (0 : Int) < ((i + 1 : Nat) : Int) by omega), cD_e, oEq_int, hz', decide_false, tvD_e, Bool.false_eq_true, if_false]
        simp [p, hz], fun _ => by simp only [cV_0, cV_s, List.set]⟩)]
    have e0 : (1 : Int) + (i0 : Int) = ((i0 + 1 : Nat) : Int) := by omega
    have hat : atI (((List.range r).filter p).map fun (i : Nat) => D.int (1 + (i : Int))) 0 = some (.int ((i0 + 1 : Nat) : Int)) := by
      rw [hfil]
      simp only [List.map_cons, e0]
      exact atI_nat _ 0 (by simp)
    simp only [bind_ok, hat, sX_ok, gV_e, List.set, ES]
  rw [sSeq_nx hc, sSeq_nx (by rw [sWhile_e]; exact hwh)]
  have hrg2 : rg1 ((sb g (i0 + 1) b : Int) + ((i0 + 1 : Nat) : Int)) S = .ok ((List.range (sb g (i0 + 1) b + (i0 + 1))).map fun (n : Nat) => D.int (n : Int), []) S := by
    rw [rg1_e (by omega) (by omega), show ((sb g (i0 + 1) b : Int) + ((i0 + 1 : Nat) : Int)).toNat = sb g (i0 + 1) b + (i0 + 1) by omega]
    simp [rgD]
  simp only [sRet_e, cN_e, aCons_e, aNil_e, cK_e, aComp_e, iR1_e, c2_e, ES, cV_0, cV_s, bind_ok, oAddA_e, inD'_e, hrg2, wipe_cons, wipe_nil, List.set]
  rw [compF_ran (gd_nil _) _ (fun n => .bl (g n)) (by omega) (fun n hn => ⟨_, rfl, by
    have hh : (Cs Pg (k + 1)).f i_raw_has [tD b r g, .int (n : Int)] S = .ok (.bl (g n)) S := ev_raw_has hp hw (by omega)
    simp only [cCall_e, aCons_e, aNil_e, cV_0, cV_s, bind_ok, List.set, hh]⟩)]
  simp only [bind_ok, kTup_e]
  rw [oTup_e _ (by simp)]
  simp only [sX_ok, fin_rt]
  exact gc_same (tD_isD _ _ _)
end LW
end Pf
end

section
set_option Elab.async false
set_option linter.all false
set_option maxRecDepth 20000
set_option maxHeartbeats 0
set_option autoImplicit false
/-! E8b: where two forms are alike. -/
namespace Pf
open PySem PySem.Spec PyProof.Rows L2
theorem okD_tup (n : Nat) (fl : TF) (xs : List Bool) : okD (n + 1) (.tup fl (xs.map D.bl)) = true := by simp [okD, okDs_bls]
namespace LW
variable {k : Nat} {S : Store} {b r : Nat} {g : Nat → Bool}
theorem ev_made_set (hp : Per g b r) (hw : b + r ≤ 5000) : ∃ b' r', PL g b' r' ∧ b' ≤ b ∧ r' ≤ r ∧ ∀ (k : Nat) (S : Store) (li : LamI) (caps : List D), (∀ n : Nat, n < b + r → (Cs Pg (k + 2)).l li caps [.int n] S = .ok (.bl (g n)) S) → (Cs Pg (k + 3)).f i_made_set [.int b, .int r, .clo li caps] S = .ok (tD b' r' g) S := by
  obtain ⟨b', r', h1, h2, h3, h4⟩ := ev_raw_least_set hp hw
  refine ⟨b', r', h1, h2, h3, fun k S li caps hc => ?_⟩
  rw [fe_made_set, runB_e _ _ _ _ _ (by rfl)]
  have er : rg1 ((b : Int) + (r : Int)) S = .ok ((List.range (b + r)).map fun (n : Nat) => D.int (n : Int), []) S := by
    rw [rg1_e (by omega) (by omega), show ((b : Int) + (r : Int)).toNat = b + r by omega]
    simp [rgD]
  simp only [b_made_set]
  rw [sSeq_nx (ρ1 := [some (.int b), some (.int r), some (.clo li caps), none]) (S1 := S) (by simp [ev_check_width b r hw])]
  simp only [sRet_e, cCall_e, cN_e, aCons_e, aNil_e, cK_e, aComp_e, iR1_e, c2_e, cV_0, cV_s, bind_ok, oAddA_e, inD'_e, er, wipe_cons, wipe_nil, List.set]
  rw [compF_ran (gd_nil _) _ (fun n => .bl (g n)) (by omega) (fun n hn => ⟨_, rfl, by simp [hc n hn]⟩)]
  simp only [bind_ok, kTup_e]
  rw [oTup_e _ (by simp)]
  simp only [bind_ok]
  have h4' : (Cs Pg (k + 2)).f i_raw_least_set [.tup .any [.int b, .int r, .tup .hard ((List.range (b + r)).map fun n => .bl (g n))]] S = .ok (tD b' r' g) S := h4 k S
  rw [h4']
  simp only [sX_ok, fin_rt]
  exact gc_same (tD_isD _ _ _)
theorem ev_made_set' (hp : Per g b r) (hw : b + r ≤ 5000) {li : LamI} {caps : List D} (hc : ∀ n : Nat, n < b + r → (Cs Pg (k + 2)).l li caps [.int n] S = .ok (.bl (g n)) S) : (Cs Pg (k + 3)).f i_made_set [.int b, .int r, .clo li caps] S = .ok (LS g) S := by
  obtain ⟨b', r', h1, h2, h3, h4⟩ := ev_made_set hp hw
  rw [LS_eq h1]
  exact h4 k S li caps hc
theorem ev_least_set' (hp : Per g b r) (hw : b + r ≤ 5000) : (Cs Pg (k + 2)).f i_raw_least_set [tD b r g] S = .ok (LS g) S := by
  obtain ⟨b', r', h1, _, _, h4⟩ := ev_raw_least_set hp hw
  rw [LS_eq h1]
  exact h4 k S
/-- the set as data, its widths -/
theorem LS_at (hp : Per g b r) : ∃ b' r', PL g b' r' ∧ LS g = tD b' r' g ∧ b' ≤ b ∧ r' ≤ r := by
  obtain ⟨r0, hr0, hd, hm⟩ := hp.round
  obtain ⟨q1, q2⟩ := sb_ok b hr0
  have h : PL g (sb g r0 b) r0 := ⟨q2, hm, sb_begin b⟩
  exact ⟨_, _, h, LS_eq h, q1, Nat.le_of_dvd hp.1 (Nat.dvd_of_mod_eq_zero hd)⟩
end LW
end Pf
end

section
set_option Elab.async false
set_option linter.all false
set_option maxRecDepth 20000
set_option maxHeartbeats 0
set_option autoImplicit false
/-! E8i: least_in. -/
namespace Pf
open PySem PySem.Spec PyProof.Rows L2
theorem findD_tru : ∀ (xs : List Bool) (i : Nat), findD (.bl true) i (xs.map D.bl) = (xs.findIdx? (· == true)).map (· + i)
  | [], i => rfl
  | x :: r, i => by
    have ih := findD_tru r (i + 1)
    cases x with
    | true => simp [findD, eqD_bl, List.findIdx?_cons]
    | false =>
      simp only [List.map_cons, findD, eqD_bl, List.findIdx?_cons]
      rw [if_neg (by decide), ih]
      cases List.findIdx? (· == true) r <;> simp <;> omega
namespace LW
variable {k : Nat} {S : Store} {b r : Nat} {g : Nat → Bool}
theorem ev_least_in (hp : Per g b r) (hw : b + r ≤ 5000) : ((∀ n, g n = false) ∧ ∀ k S, (Cs Pg (k + 1)).f i_least_in [tD b r g] S = .ok .non S) ∨ ∃ m, g m = true ∧ (∀ j, j < m → g j = false) ∧ ∀ k S, (Cs Pg (k + 1)).f i_least_in [tD b r g] S = .ok (.int (m : Nat)) S := by
  have hr := hp.1
  have hin : ∀ S, oIn (.bl true) (.tup .hard (brow (b + r) g)) S = .ok (.bl (((List.range (b + r)).map g).any (· == true))) S := by
    intro S
    have : inD (.bl true) (brow (b + r) g) = ((List.range (b + r)).map g).any (· == true) := by
      rw [brow_bls]
      simp only [inD, List.any_map]
      rfl
    simp only [oIn, itemsOf, this]
    rw [brow_bls, okDs_bls]
    rfl
  have hix : ∀ S, oIx (tD b r g) (.int 2) S = .ok (.tup .hard (brow (b + r) g)) S := by
    intro S
    simp [tD]
  cases he : ((List.range (b + r)).map g).findIdx? (· == true) with
  | none =>
    left
    have hn := List.findIdx?_eq_none_iff.mp he
    have hall : ∀ n, n < b + r → g n = false := by
      intro n hlt
      have := hn (g n) (List.mem_map.mpr ⟨n, by simpa using hlt, rfl⟩)
      simpa using this
    have hany : ((List.range (b + r)).map g).any (· == true) = false := by
      rw [List.any_eq_false]
      intro x hx
      simpa using hn x hx
    refine ⟨fun n => ?_, fun k S => ?_⟩
    · by_cases hlt : n < b + r
      · exact hall n hlt
      · rw [hp.at_ (show b ≤ n by omega)]
        exact hall _ (by have := Nat.mod_lt (n - b) hr; omega)
    · rw [fe_least_in, runB_e _ _ _ _ _ (by rfl)]
      simp only [b_least_in, sRet_e, cIf_e, tV_e, c2_e, cD_e, List.map_cons, List.map_nil, List.length_cons, List.length_nil, Nat.reduceAdd, Nat.reduceSub, List.replicate, List.append_nil, cV_0, cV_s, bind_ok, hix, hin, hany, tvD_e, Bool.false_eq_true, if_false, sX_ok, fin_rt, gc_non]
  | some m =>
    right
    obtain ⟨hm, h1, h2⟩ := List.findIdx?_eq_some_iff_getElem.mp he
    have hm' : m < b + r := by simpa using hm
    have hany : ((List.range (b + r)).map g).any (· == true) = true := by
      rw [List.any_eq_true]
      exact ⟨_, List.getElem_mem hm, h1⟩
    have hg : g m = true := by simpa using h1
    refine ⟨m, hg, fun j hj => ?_, fun k S => ?_⟩
    · have := h2 j hj
      simpa using this
    · have hf : oIndexT (.tup .hard (brow (b + r) g)) (.bl true) S = .ok (.int (m : Nat)) S := by
        simp only [oIndexT]
        rw [brow_bls, okDs_bls, findD_tru, he]
        rfl
      rw [fe_least_in, runB_e _ _ _ _ _ (by rfl)]
      simp only [b_least_in, sRet_e, cIf_e, tV_e, c2_e, cD_e, List.map_cons, List.map_nil, List.length_cons, List.length_nil, Nat.reduceAdd, Nat.reduceSub, List.replicate, List.append_nil, cV_0, cV_s, bind_ok, hix, hin, hany, tvD_e, if_true, cMA, aCons_e, aNil_e, m1, hf, sX_ok, fin_rt, gc_int]
end LW
end Pf
end

section
set_option Elab.async false
set_option linter.all false
set_option maxRecDepth 20000
set_option maxHeartbeats 0
set_option autoImplicit false
/-! E8c: signed_from, where_like. -/
namespace Pf
open PySem PySem.Spec PyProof.Rows L2
namespace LW
variable {k : Nat} {S : Store} {d d' : D} {b r b' r' : Nat} {s s' : Int} {f f' : Nat → Int}
def turnOf (gain far : Int) : Int := if 0 < gain then upBy (1 - far) gain else upBy (1 + far) (0 - gain)
theorem turnOf_ok {gain far j : Int} (hg : gain ≠ 0) (hj : turnOf gain far ≤ j) : (0 < gain → 0 < far + j * gain) ∧ (gain < 0 → far + j * gain < 0) := by
  unfold turnOf at hj
  split at hj
  · rename_i hp
    have h1 := upBy_le (a := 1 - far) hp
    have h2 : upBy (1 - far) gain * gain ≤ j * gain := Int.mul_le_mul_of_nonneg_right hj (by omega)
    omega
  · have hn : 0 < 0 - gain := by omega
    have h1 := upBy_le (a := 1 + far) hn
    have h2 : upBy (1 + far) (0 - gain) * (0 - gain) ≤ j * (0 - gain) := Int.mul_le_mul_of_nonneg_right hj (by omega)
    have h3 : j * (0 - gain) = - (j * gain) := by rw [Int.mul_sub]; omega
    omega
theorem turnOf_le {gain far F : Int} (hg : gain ≠ 0) (h1 : far ≤ F) (h2 : -F ≤ far) (hF : 0 ≤ F) : turnOf gain far ≤ F + 1 := by
  unfold turnOf
  split
  · rename_i hp
    have := upBy_nonneg_le (a := 1 - far) hp
    omega
  · have := upBy_nonneg_le (a := 1 + far) (show 0 < 0 - gain by omega)
    omega
/-- from B on the sign of the difference is round by R -/
def SgP (f f' : Nat → Int) (B R : Nat) : Prop := 0 < R ∧ ∀ n, B ≤ n → (f (n + R) < f' (n + R) ↔ f n < f' n) ∧ (f (n + R) = f' (n + R) ↔ f n = f' n)
theorem SgP.less {B R : Nat} (h : SgP f f' B R) : Per (fun n => decide (f n < f' n)) B R := ⟨h.1, fun n hn => by simp only [(h.2 n hn).1]⟩
theorem SgP.like {B R : Nat} (h : SgP f f' B R) : Per (fun n => decide (f n = f' n)) B R := ⟨h.1, fun n hn => by simp only [(h.2 n hn).2]⟩
/-- the turns of signed_from -/
def turnsS (B R : Nat) (gain : Int) (f f' : Nat → Int) (n : Nat) : List D := .int 0 :: (List.range n).map fun i => .int (turnOf gain (f (B + i) - f' (B + i)))
theorem turnsS_isD (B R : Nat) (gain : Int) (n : Nat) : isDs (turnsS B R gain f f' n) = true := by
  have : isDs ((List.range n).map fun i => D.int (turnOf gain (f (B + i) - f' (B + i)))) = true := by
    induction List.range n with
    | nil => rfl
    | cons x l ih => simp [isDs, isD, ih]
  simp [turnsS, isDs, isD, this]
theorem signed_for (h : Fm d b r s f) (h' : Fm d' b' r' s' f') (B R : Nat) (gain : Int) (hB : B + R ≤ 5000) (hg : gain ≠ 0) (hgs : gain.natAbs < 4611686018427387904) :
    ∃ o o', forF [] (gV 6) (sSeq (sSet (gV 7) (c2 oSub (cCall (Cs Pg (k + 1)) i_raw_price (aCons (cV 0) (aCons (cV 6) aNil))) (cCall (Cs Pg (k + 1)) i_raw_price (aCons (cV 1) (aCons (cV 6) aNil)))))
    (sDrop (cM (m1 oAppend) (cV 5) (aCons (cIf (tV (c2 oGt (cV 4) (cD (.int 0)))) (cCall (Cs Pg (k + 1)) i_up_by (aCons (c2 oSub (cD (.int 1)) (cV 7)) (aCons (cV 4) aNil))) (cCall (Cs Pg (k + 1)) i_up_by (aCons (c2 oAddA (cD (.int 1)) (cV 7)) (aCons (c2 oSub (cD (.int 0)) (cV 4)) aNil)))) aNil)))) (rgD B R) [some d, some d', some (.int B), some (.int R), some (.int gain), some (.ref S.length), none, none] (S ++ [.lst (turnsS B R gain f f' 0)])
      = .nx [some d, some d', some (.int B), some (.int R), some (.int gain), some (.ref S.length), o, o'] (S ++ [.lst (turnsS B R gain f f' R)]) := by
  obtain ⟨ρ', S', h1, h2⟩ := forF_inv (g := []) (tg := gV 6) (b := (sSeq (sSet (gV 7) (c2 oSub (cCall (Cs Pg (k + 1)) i_raw_price (aCons (cV 0) (aCons (cV 6) aNil))) (cCall (Cs Pg (k + 1)) i_raw_price (aCons (cV 1) (aCons (cV 6) aNil)))))
    (sDrop (cM (m1 oAppend) (cV 5) (aCons (cIf (tV (c2 oGt (cV 4) (cD (.int 0)))) (cCall (Cs Pg (k + 1)) i_up_by (aCons (c2 oSub (cD (.int 1)) (cV 7)) (aCons (cV 4) aNil))) (cCall (Cs Pg (k + 1)) i_up_by (aCons (c2 oAddA (cD (.int 1)) (cV 7)) (aCons (c2 oSub (cD (.int 0)) (cV 4)) aNil)))) aNil)))))
    (fun i ρ S' => S' = S ++ [.lst (turnsS B R gain f f' i)] ∧ ∃ o o', ρ = [some d, some d', some (.int B), some (.int R), some (.int gain), some (.ref S.length), o, o']) (rgD B R) 0 [some d, some d', some (.int B), some (.int R), some (.int gain), some (.ref S.length), none, none] (S ++ [.lst (turnsS B R gain f f' 0)])
    ⟨rfl, none, none, rfl⟩
    (fun i x hi ρ S' hp => by
      obtain ⟨rfl, o, o', rfl⟩ := hp
      refine ⟨trivial, ?_⟩
      have hir : i < R := by
        have := (List.getElem?_eq_some_iff.mp hi).1
        simpa using this
      have ed : x = .int ((B + i : Nat) : Int) := by
        simp only [rgD, List.getElem?_map, List.getElem?_range hir, Option.map_some, Option.some.injEq] at hi
        rw [← hi, Int.natCast_add]
      subst ed
      rw [Nat.zero_add]
      have hrow : turnsS B R gain f f' (i + 1) = turnsS B R gain f f' i ++ [.int (turnOf gain (f (B + i) - f' (B + i)))] := by
        simp [turnsS, List.range_succ]
      refine ⟨_, rfl, [some d, some d', some (.int B), some (.int R), some (.int gain), some (.ref S.length), some (.int ((B + i : Nat) : Int)), some (.int (f (B + i) - f' (B + i)))], S ++ [.lst (turnsS B R gain f f' (i + 1))], ?_, rfl, _, _, rfl⟩
      have hl1 : lstOf (S ++ [.lst (turnsS B R gain f f' i)]) (.ref S.length) = some (turnsS B R gain f f' i) := by simp [lstOf]
      have hap : oAppend (.ref S.length) (.int (turnOf gain (f (B + i) - f' (B + i)))) (S ++ [.lst (turnsS B R gain f f' i)]) = .ok .non (S ++ [.lst (turnsS B R gain f f' (i + 1))]) := by
        simp only [oAppend, get_last]
        rw [if_pos ⟨by simp [turnsS, sL]; omega, rfl⟩, set_last, hrow]
      have hp1 := ev_price (k := k) (S := S ++ [.lst (turnsS B R gain f f' i)]) h (show B + i < 4611686018427387904 by omega)
      have hp2 := ev_price (k := k) (S := S ++ [.lst (turnsS B R gain f f' i)]) h' (show B + i < 4611686018427387904 by omega)
      simp only [sSeq_e, sSet_e, sDrop_e, cM, cV_0, cV_s, List.set, bind_ok, c2_e, cCall_e, aCons_e, aNil_e, hp1, hp2, oSub_e, sX_ok, gV_e, hl1, Option.isSome_some, if_true, cIf_e, tV_e, cD_e, oGt_e, tvD_e]
      by_cases hp : 0 < gain
      · have e : turnOf gain (f (B + i) - f' (B + i)) = upBy (1 - (f (B + i) - f' (B + i))) gain := if_pos hp
        rw [e] at hap
        simp only [hp, decide_true, if_true, ev_up_by _ _ hp (sm_abs hgs), bind_ok, m1, hap, sX_ok]
      · have e : turnOf gain (f (B + i) - f' (B + i)) = upBy (1 + (f (B + i) - f' (B + i))) (0 - gain) := if_neg hp
        rw [e] at hap
        simp only [hp, decide_false, Bool.false_eq_true, if_false, oAddA_e, bind_ok, ev_up_by _ _ (show 0 < 0 - gain by omega) (sm_abs (show (0 - gain).natAbs < 4611686018427387904 by omega)), m1, hap, sX_ok])
    (fun _ _ _ => trivial)
  obtain ⟨rfl, o, o', rfl⟩ := h2
  refine ⟨o, o', ?_⟩
  rw [h1]
  simp
theorem ev_signed_from (h : Fm d b r s f) (h' : Fm d' b' r' s' f') (F : Nat) (hF : ∀ i, i < Nat.lcm r r' → (f (max b b' + i) - f' (max b b' + i)).natAbs ≤ F) (hw : max b b' + Nat.lcm r r' * (F + 1) + 1 ≤ 5000) :
    ∃ B R, SgP f f' B R ∧ B + R ≤ 5000 ∧ ∀ (k : Nat) (S : Store), (Cs Pg (k + 3)).f i_signed_from [d, d'] S = .ok (.tup .any [.int B, .int R]) S := by
  have hr := h.qp.1
  have hr' := h'.qp.1
  have hw1 := h.wid
  have hw2 := h'.wid
  have hR : 0 < Nat.lcm r r' := Nat.lcm_pos hr hr'
  have hRl : Nat.lcm r r' ≤ Nat.lcm r r' * (F + 1) := Nat.le_mul_of_pos_right _ (by omega)
  have hq := qp_sub (dvd_qp h.qp hR (Nat.dvd_lcm_left r r')) (dvd_qp h'.qp hR (Nat.dvd_lcm_right r r'))
  have hs1 := rise_abs (r := r) (s := s) (R := Nat.lcm r r') (by omega)
  have hs2 := rise_abs (r := r') (s := s') (R := Nat.lcm r r') (by omega)
  have hsm := h.sm
  have hsm' := h'.sm
  have hq1 : Nat.lcm r r' / r ≤ Nat.lcm r r' := Nat.div_le_self _ _
  have hq2 : Nat.lcm r r' / r' ≤ Nat.lcm r r' := Nat.div_le_self _ _
  generalize hgd : s * ((Nat.lcm r r' / r : Nat) : Int) - s' * ((Nat.lcm r r' / r' : Nat) : Int) = gain at hq
  have hgs : gain.natAbs < 4611686018427387904 := by omega
  have e1 : max (b : Int) (b' : Int) = ((max b b' : Nat) : Int) := by omega
  have hbody : ∀ (k : Nat) (S : Store), ∃ st : St, (Cs Pg (k + 3)).f i_signed_from [d, d'] S = gcR S (fin (sSeq (sIf (tV (c2 oEq (cV 4) (cD (.int 0)))) (sRet (cN oTup (aCons (cV 2) (aCons (cV 3) aNil)))) sNx)
    (sSeq (sSet (gV 5) (cNew (aDisp (aCons (cD (.int 0)) aNil))))
    (sSeq (sFor (iR (cV 2) (c2 oAddA (cV 2) (cV 3))) (gV 6) (sSeq (sSet (gV 7) (c2 oSub (cCall (Cs Pg (k + 2)) i_raw_price (aCons (cV 0) (aCons (cV 6) aNil))) (cCall (Cs Pg (k + 2)) i_raw_price (aCons (cV 1) (aCons (cV 6) aNil)))))
    (sDrop (cM (m1 oAppend) (cV 5) (aCons (cIf (tV (c2 oGt (cV 4) (cD (.int 0)))) (cCall (Cs Pg (k + 2)) i_up_by (aCons (c2 oSub (cD (.int 1)) (cV 7)) (aCons (cV 4) aNil))) (cCall (Cs Pg (k + 2)) i_up_by (aCons (c2 oAddA (cD (.int 1)) (cV 7)) (aCons (c2 oSub (cD (.int 0)) (cV 4)) aNil)))) aNil)))))
    (sRet (cN oTup (aCons (c2 oAddA (cV 2) (c2 oMulA (cV 3) (cN (oK kMax) (aCons (cV 5) aNil)))) (aCons (cD (.int 1)) aNil)))))) [some d, some d', some (.int ((max b b' : Nat) : Int)), some (.int (Nat.lcm r r' : Nat)), some (.int gain), none, none, none] S)) := by
    intro k S
    refine ⟨sNx, ?_⟩
    obtain ⟨h0, h1, h2⟩ := ix_form (S := S) h
    obtain ⟨h0', h1', h2'⟩ := ix_form (S := S) h'
    have hd1 : oDiv (.int (Nat.lcm r r' : Nat)) (.int r) S = .ok (.int ((Nat.lcm r r' / r : Nat) : Int)) S := by
      rw [oDiv_e (by omega) (sm_nat (by omega)), ← Int.natCast_ediv]
    have hd2 : oDiv (.int (Nat.lcm r r' : Nat)) (.int r') S = .ok (.int ((Nat.lcm r r' / r' : Nat) : Int)) S := by
      rw [oDiv_e (by omega) (sm_nat (by omega)), ← Int.natCast_ediv]
    have hm1 : oMulA (.int s) (.int ((Nat.lcm r r' / r : Nat) : Int)) S = .ok (.int (s * ((Nat.lcm r r' / r : Nat) : Int))) S := oMulA_e h.sms (sm_nat (by omega))
    have hm2 : oMulA (.int s') (.int ((Nat.lcm r r' / r' : Nat) : Int)) S = .ok (.int (s' * ((Nat.lcm r r' / r' : Nat) : Int))) S := oMulA_e h'.sms (sm_nat (by omega))
    rw [fe_signed_from, runB_e _ _ _ _ _ (by rfl)]
    simp only [b_signed_from]
    have ha : (sPar (gPar [2, 3]) (aCons (cN oMax2 (aCons (c2 oIx (cV 0) (cD (.int 0))) (aCons (c2 oIx (cV 1) (cD (.int 0))) aNil))) (aCons (cCall (Cs Pg (k + 2)) i_common_round (aCons (c2 oIx (cV 0) (cD (.int 1))) (aCons (c2 oIx (cV 1) (cD (.int 1))) aNil))) aNil))) ([d, d'].map some ++ List.replicate (8 - [d, d'].length) none) S = .nx [some d, some d', some (.int ((max b b' : Nat) : Int)), some (.int (Nat.lcm r r' : Nat)), none, none, none, none] S := by
      simp only [sPar_e, aCons_e, aNil_e, cN_e, c2_e, cCall_e, cD_e, List.map_cons, List.map_nil, List.length_cons, List.length_nil, Nat.reduceAdd, Nat.reduceSub, List.replicate, List.cons_append, List.nil_append, cV_0, cV_s, bind_ok, h0, h1, h0', h1', oMax2_e, e1, ev_common_round r r' hr hr' (show r < 2 ^ 62 by omega) (show r' < 2 ^ 62 by omega), sX_ok, gPar]
      rfl
    have hb : (sSet (gV 4) (c2 oSub (c2 oMulA (c2 oIx (cV 0) (cD (.int 2))) (c2 oDiv (cV 3) (c2 oIx (cV 0) (cD (.int 1))))) (c2 oMulA (c2 oIx (cV 1) (cD (.int 2))) (c2 oDiv (cV 3) (c2 oIx (cV 1) (cD (.int 1))))))) [some d, some d', some (.int ((max b b' : Nat) : Int)), some (.int (Nat.lcm r r' : Nat)), none, none, none, none] S = .nx [some d, some d', some (.int ((max b b' : Nat) : Int)), some (.int (Nat.lcm r r' : Nat)), some (.int gain), none, none, none] S := by
      simp only [sSet_e, c2_e, cD_e, cV_0, cV_s, bind_ok, h1, h2, h1', h2', hd1, hd2, hm1, hm2, oSub_e, hgd, sX_ok, gV_e, List.set]
    rw [sSeq_nx ha, sSeq_nx hb]
  by_cases hg : gain = 0
  · refine ⟨max b b', Nat.lcm r r', ⟨hR, fun n hn => ?_⟩, by omega, fun k S => ?_⟩
    · have e := hq.2 n hn
      simp only at e
      omega
    · obtain ⟨_, e⟩ := hbody k S
      rw [e, sSeq_rt (S1 := S) (d := .tup .any [.int ((max b b' : Nat) : Int), .int (Nat.lcm r r' : Nat)])]
      · simp only [fin_rt]
        exact gc_same rfl
      · simp only [sIf_e, tV_e, c2_e, cV_0, cV_s, cD_e, bind_ok, oEq_int, hg, decide_true, tvD_e, sX_ok, if_true, sRet_e, cN_e, aCons_e, aNil_e]
        rw [oTup_e _ (by simp)]
        simp only [sX_ok]
  · have hM : ∃ M : Nat, maxL (0 :: (List.range (Nat.lcm r r')).map fun i => turnOf gain (f (max b b' + i) - f' (max b b' + i))) = (M : Int) ∧ M ≤ F + 1 ∧ ∀ i, i < Nat.lcm r r' → turnOf gain (f (max b b' + i) - f' (max b b' + i)) ≤ M := by
      have h0 : 0 ≤ maxL (0 :: (List.range (Nat.lcm r r')).map fun i => turnOf gain (f (max b b' + i) - f' (max b b' + i))) := maxL_ge (by simp)
      obtain ⟨M, hM⟩ := Int.eq_ofNat_of_zero_le h0
      refine ⟨M, hM, ?_, fun i hi => ?_⟩
      · have hm := maxL_mem (xs := 0 :: (List.range (Nat.lcm r r')).map fun i => turnOf gain (f (max b b' + i) - f' (max b b' + i))) (by simp)
        rw [hM] at hm
        rcases List.mem_cons.mp hm with z | z
        · omega
        · obtain ⟨i, hi, e⟩ := List.mem_map.mp z
          have hFi := hF i (by simpa using hi)
          have := turnOf_le (F := F) hg (show f (max b b' + i) - f' (max b b' + i) ≤ F by omega) (by omega) (by omega)
          omega
      · rw [← hM]
        exact maxL_ge (List.mem_cons_of_mem _ (List.mem_map.mpr ⟨i, by simpa using hi, rfl⟩))
    obtain ⟨M, hM1, hM2, hM3⟩ := hM
    have hRM : Nat.lcm r r' * M ≤ Nat.lcm r r' * (F + 1) := Nat.mul_le_mul_left _ hM2
    have hne : ∀ n, max b b' + Nat.lcm r r' * M ≤ n → (0 < gain → f' n < f n) ∧ (gain < 0 → f n < f' n) := by
      intro n hn
      have hi := Nat.mod_lt (n - max b b') hR
      have en : n = max b b' + (n - max b b') % Nat.lcm r r' + (n - max b b') / Nat.lcm r r' * Nat.lcm r r' := by
        have := Nat.mod_add_div (n - max b b') (Nat.lcm r r')
        rw [Nat.mul_comm] at this
        omega
      have e := hq.mul ((n - max b b') / Nat.lcm r r') (max b b' + (n - max b b') % Nat.lcm r r') (by omega)
      rw [← en] at e
      have hj : M ≤ (n - max b b') / Nat.lcm r r' := by
        rw [Nat.le_div_iff_mul_le hR, Nat.mul_comm]
        omega
      have := turnOf_ok hg (Int.le_trans (hM3 _ hi) (Int.ofNat_le.mpr hj))
      omega
    refine ⟨max b b' + Nat.lcm r r' * M, 1, ⟨by decide, fun n hn => ?_⟩, by omega, fun k S => ?_⟩
    · have a1 := hne n hn
      have a2 := hne (n + 1) (by omega)
      omega
    · obtain ⟨_, e⟩ := hbody k S
      obtain ⟨o, o', hfor⟩ := signed_for (k := k + 1) (S := S) h h' (max b b') (Nat.lcm r r') gain (by omega) hg hgs
      have hrg : rg2 ((max b b' : Nat) : Int) (((max b b' : Nat) : Int) + (Nat.lcm r r' : Nat)) (S ++ [.lst (turnsS (max b b') (Nat.lcm r r') gain f f' 0)]) = .ok (rgD ((max b b' : Nat) : Int) (Nat.lcm r r'), []) (S ++ [.lst (turnsS (max b b') (Nat.lcm r r') gain f f' 0)]) := by
        rw [rg2_e (by omega) (by omega) (by omega) (by omega), show (((max b b' : Nat) : Int) + (Nat.lcm r r' : Nat) - ((max b b' : Nat) : Int)).toNat = Nat.lcm r r' by omega]
      have hk : oK kMax [.ref S.length] (S ++ [.lst (turnsS (max b b') (Nat.lcm r r') gain f f' (Nat.lcm r r'))]) = .ok (.int M) (S ++ [.lst (turnsS (max b b') (Nat.lcm r r') gain f f' (Nat.lcm r r'))]) := by
        rw [← hM1]
        simp [oK, lstOf, kMax, turnsS, intsOf, intsOf_map]
      have hmu : oMulA (.int (Nat.lcm r r' : Nat)) (.int (M : Int)) (S ++ [.lst (turnsS (max b b') (Nat.lcm r r') gain f f' (Nat.lcm r r'))]) = .ok (.int ((Nat.lcm r r' * M : Nat) : Int)) (S ++ [.lst (turnsS (max b b') (Nat.lcm r r') gain f f' (Nat.lcm r r'))]) := by
        have : M ≤ 5000 := by
          have : 1 * M ≤ Nat.lcm r r' * M := Nat.mul_le_mul_right _ hR
          omega
        rw [oMulA_e (sm_nat (by omega)) (sm_nat (by omega)), Int.natCast_mul]
      have e3 : ((max b b' : Nat) : Int) + ((Nat.lcm r r' * M : Nat) : Int) = ((max b b' + Nat.lcm r r' * M : Nat) : Int) := (Int.natCast_add _ _).symm
      have hls : oLst [.int 0] S = .ok (.ref S.length) (S ++ [.lst (turnsS (max b b') (Nat.lcm r r') gain f f' 0)]) := oLst_e rfl (by simp)
      rw [e]
      rw [sSeq_nx (ρ1 := [some d, some d', some (.int ((max b b' : Nat) : Int)), some (.int (Nat.lcm r r' : Nat)), some (.int gain), none, none, none]) (S1 := S) (by
        simp only [sIf_e, tV_e, c2_e, cV_0, cV_s, cD_e, bind_ok, oEq_int, hg, decide_false, tvD_e, sX_ok, Bool.false_eq_true, if_false, sNx_e])]
      rw [sSeq_nx (ρ1 := [some d, some d', some (.int ((max b b' : Nat) : Int)), some (.int (Nat.lcm r r' : Nat)), some (.int gain), some (.ref S.length), none, none]) (S1 := S ++ [.lst (turnsS (max b b') (Nat.lcm r r') gain f f' 0)]) (by
        simp only [sSet_e, cNew_e, aDisp_e, aCons_e, aNil_e, cD_e, bind_ok, List.length_cons, List.length_nil, sL]
        rw [if_pos (by omega)]
        simp only [bind_ok, hls, sX_ok, gV_e, List.set])]
      rw [sSeq_nx (ρ1 := [some d, some d', some (.int ((max b b' : Nat) : Int)), some (.int (Nat.lcm r r' : Nat)), some (.int gain), some (.ref S.length), o, o']) (S1 := S ++ [.lst (turnsS (max b b') (Nat.lcm r r') gain f f' (Nat.lcm r r'))]) (by
        simp only [sFor_e, iR_e, c2_e, cV_0, cV_s, bind_ok, oAddA_e, inD'_e, hrg, sX_ok]
        exact hfor)]
      simp only [sRet_e, cN_e, aCons_e, aNil_e, c2_e, cV_0, cV_s, cD_e, bind_ok, hk, hmu, oAddA_e, e3]
      rw [oTup_e _ (by simp)]
      simp only [sX_ok, fin_rt]
      exact gc_junk rfl
end LW
end Pf
end

section
set_option Elab.async false
set_option linter.all false
set_option maxRecDepth 20000
set_option maxHeartbeats 0
set_option autoImplicit false
/-! E8w: where one form is less than another. -/
namespace Pf
open PySem PySem.Spec PyProof.Rows L2
namespace LW
variable {k : Nat} {S : Store} {d d' : D} {b r b' r' : Nat} {s s' : Int} {f f' : Nat → Int}
theorem ev_raw_where_less (h : Fm d b r s f) (h' : Fm d' b' r' s' f') (F : Nat) (hF : ∀ i, i < Nat.lcm r r' → (f (max b b' + i) - f' (max b b' + i)).natAbs ≤ F) (hw : max b b' + Nat.lcm r r' * (F + 1) + 1 ≤ 5000) :
    ∃ B R, Per (fun n => decide (f n < f' n)) B R ∧ B + R ≤ 5000 ∧ ∀ (k : Nat) (S : Store), (Cs Pg (k + 4)).f i_raw_where_less [d, d'] S = .ok (LS fun n => decide (f n < f' n)) S := by
  obtain ⟨B, R, hp, hBR, hsg⟩ := ev_signed_from h h' F hF hw
  refine ⟨B, R, hp.less, hBR, fun k S => ?_⟩
  have hl := ev_made_set' (k := k) (S := S) hp.less hBR (li := li_raw_where_less_0) (caps := [d, d']) (fun n hn => by
    rw [le_raw_where_less_0 _ _ _ _ (by simp [isDs, h.isD, h'.isD]) rfl (by rw [lp_raw_where_less_0]; rfl)]
    unfold lamStart; rw [lN_raw_where_less_0]
    simp only [lc_raw_where_less_0, c2_e, cCall_e, aCons_e, aNil_e, List.map_cons, List.map_nil, List.cons_append, List.nil_append, cV_0, cV_s, bind_ok, ev_price h (show n < 4611686018427387904 by omega), ev_price h' (show n < 4611686018427387904 by omega), oLt_e]
    rfl)
  obtain ⟨b0, r0, _, e0, _, _⟩ := LS_at hp.less
  have hD : isD (LS fun n => decide (f n < f' n)) = true := by rw [e0]; exact tD_isD _ _ _
  rw [fe_raw_where_less, runB_e _ _ _ _ _ (by rfl)]
  simp only [b_raw_where_less, sSeq_e, sSet_e, cCall_e, aCons_e, aNil_e, List.map_cons, List.map_nil, List.length_cons, List.length_nil, Nat.reduceAdd, Nat.reduceSub, List.replicate, List.cons_append, List.nil_append, cV_0, cV_s, bind_ok, hsg, sX_ok, gTupN, if_true, gCons_e, gNil_e, gV_e, Option.bind_some, List.set, sRet_e, cCallL_e, capsOf_cons, capsOf_nil, slot_0, slot_s, Option.map_some]
  rw [if_pos (by simp [isDs, h.isD, h'.isD]), hl, noX_ok hD]
  simp only [sX_ok, fin_rt]
  exact gc_same hD
end LW
end Pf
end

section
set_option Elab.async false
set_option linter.all false
set_option maxRecDepth 20000
set_option maxHeartbeats 0
set_option autoImplicit false
/-! E8f: changes, where a form falls. -/
namespace Pf
open PySem PySem.Spec PyProof.Rows L2
def chg (f : Nat → Int) (n : Nat) : Int := f (n + 1) - f n
theorem chg_qp {f : Nat → Int} {b r : Nat} {s : Int} (h : M.Qp f b r s) : M.Qp (chg f) b r 0 := ⟨h.1, fun n hn => by
  have e1 := h.2 n hn
  have e2 := h.2 (n + 1) (by omega)
  unfold chg
  rw [show n + r + 1 = n + 1 + r by omega, e1, e2]
  omega⟩
namespace LW
variable {k : Nat} {S : Store} {d : D} {b r : Nat} {s : Int} {f : Nat → Int}
theorem ev_raw_change (h : Fm d b r s f) : (Cs Pg (k + 5)).f i_raw_change [d] S = .ok (LF (chg f)) S := by
  have hw1 := h.wid
  have hq := chg_qp h.qp
  obtain ⟨h0, h1, h2⟩ := ix_form (S := S) h
  have hmade := ev_made (k := k) (S := S) hq hw1 (sm_abs (by decide)) (li := li_raw_change_0) (caps := [d]) (fun n hn => by
    have e1 : (n : Int) + 1 = ((n + 1 : Nat) : Int) := by omega
    rw [le_raw_change_0 _ _ _ _ (by simp [isDs, h.isD]) rfl (by rw [lp_raw_change_0]; rfl)]
    unfold lamStart; rw [lN_raw_change_0]
    simp only [lc_raw_change_0, c2_e, cCall_e, aCons_e, aNil_e, List.map_cons, List.map_nil, List.cons_append, List.nil_append, cV_0, cV_s, cD_e, bind_ok, oAddA_e, e1, ev_price h (show n + 1 < 4611686018427387904 by omega), ev_price h (show n < 4611686018427387904 by omega), oSub_e]
    rfl)
  rw [fe_raw_change, runB_e _ _ _ _ _ (by rfl)]
  simp only [b_raw_change, sRet_e, cCallL_e, c2_e, aCons_e, aNil_e, List.map_cons, List.map_nil, List.length_cons, List.length_nil, Nat.reduceAdd, Nat.reduceSub, List.replicate, List.cons_append, List.nil_append, List.append_nil, cV_0, cV_s, cD_e, bind_ok, h0, h1, capsOf_cons, capsOf_nil, slot_0, slot_s, Option.map_some]
  rw [if_pos (by simp [isDs, h.isD]), hmade, noX_ok (LF_isD hq)]
  simp only [sX_ok, fin_rt]
  exact gc_same (LF_isD hq)
theorem ev_flat (p : Int) : (Cs Pg (k + 1)).f i_flat [.int p] S = .ok (fD .any 0 1 0 fun _ => p) S := by
  rw [fe_flat, runB_e _ _ _ _ _ (by rfl)]
  have h1 : ∀ S, oTup [.int p] S = .ok (.tup .any [.int p]) S := fun S => oTup_e _ (by simp)
  have h2 : ∀ S, oTup [.int 0, .int 1, .int 0, .tup .any [.int p]] S = .ok (fD .any 0 1 0 fun _ => p) S := fun S => by rw [oTup_e _ (by simp)]; rfl
  simp only [b_flat, sRet_e, cN_e, aCons_e, aNil_e, List.map_cons, List.map_nil, List.length_cons, List.length_nil, Nat.reduceAdd, Nat.reduceSub, List.replicate, List.append_nil, cV_0, cD_e, bind_ok, h1, h2, sX_ok, fin_rt]
  exact gc_same (fD_isD _ _ _ _ _)
theorem Fm_flat {p : Int} (hp : p.natAbs ≤ 1000000000) : Fm (fD .any 0 1 0 fun _ => p) 0 1 0 (fun _ => p) := ⟨⟨.any, rfl⟩, ⟨by decide, fun n _ => by simp⟩, by decide, by decide⟩
theorem ev_raw_falls (h : Fm d b r s f) (F : Nat) (hF : ∀ n, (chg f n).natAbs ≤ F) (hw : b + r * (F + 1) + 1 ≤ 5000) :
    ((∀ n, f n ≤ f (n + 1)) ∧ ∀ k S, (Cs Pg (k + 6)).f i_raw_falls [d] S = .ok .non S) ∨ ∃ m, f (m + 1) < f m ∧ (∀ j, j < m → f j ≤ f (j + 1)) ∧ ∀ k S, (Cs Pg (k + 6)).f i_raw_falls [d] S = .ok (.int (m : Nat)) S := by
  obtain ⟨b0, r0, s0, hc, h1, h2, _⟩ := Fm_made (chg_qp h.qp) h.wid (by decide)
  have hr := h.qp.1
  have hr0 : r0 ≤ r := Nat.le_of_dvd hr (Nat.dvd_of_mod_eq_zero h2)
  have hm : r0 * (F + 1) ≤ r * (F + 1) := Nat.mul_le_mul_right _ hr0
  have el : Nat.lcm r0 1 = r0 := Nat.lcm_one_right r0
  have e0 : max b0 0 = b0 := by omega
  obtain ⟨B, R, hp, hBR, hwl⟩ := ev_raw_where_less hc (Fm_flat (p := 0) (by decide)) F (fun i hi => by
    have := hF (max b0 0 + i)
    omega) (by rw [el, e0]; omega)
  obtain ⟨B1, R1, _, eL, hB1, hR1⟩ := LS_at hp
  rename_i hPL
  have key : ∀ k S, (Cs Pg (k + 6)).f i_raw_falls [d] S = gcR S (fin (sX ((Cs Pg (k + 5)).f i_least_in [tD B1 R1 fun n => decide (chg f n < (fun _ => (0 : Int)) n)] S) [some d] fun d1 S1 => .rt d1 S1)) := by
    intro k S
    have hwl' := hwl (k + 1) S
    rw [eL] at hwl'
    rw [fe_raw_falls, runB_e _ _ _ _ _ (by rfl)]
    simp only [b_raw_falls, sRet_e, cCall_e, aCons_e, aNil_e, List.map_cons, List.map_nil, List.length_cons, List.length_nil, Nat.reduceAdd, Nat.reduceSub, List.replicate, List.append_nil, cV_0, cD_e, bind_ok, ev_raw_change h, ev_flat, hwl']
  rcases ev_least_in hPL.per (by omega) with ⟨hall, hlo⟩ | ⟨m, hm1, hm2, hlo⟩
  · left
    refine ⟨fun n => ?_, fun k S => ?_⟩
    · have := of_decide_eq_false (hall n)
      unfold chg at this
      omega
    · rw [key, hlo (k + 4) S]
      simp
  · right
    refine ⟨m, ?_, fun j hj => ?_, fun k S => ?_⟩
    · have := of_decide_eq_true hm1
      unfold chg at this
      omega
    · have := of_decide_eq_false (hm2 j hj)
      unfold chg at this
      omega
    · rw [key, hlo (k + 4) S]
      simp
theorem ev_never_falls (h : Fm d b r s f) (F : Nat) (hF : ∀ n, (chg f n).natAbs ≤ F) (hw : b + r * (F + 1) + 1 ≤ 5000) (hm : ∀ n, f n ≤ f (n + 1)) : (Cs Pg (k + 7)).f i_never_falls [d] S = .ok .non S := by
  rcases ev_raw_falls h F hF hw with ⟨_, e⟩ | ⟨m, h1, _⟩
  · rw [fe_never_falls, runB_e _ _ _ _ _ (by rfl)]
    simp only [b_never_falls, sSeq_e, sDrop_e, sX_ok, sRet_e, cCall_e, aCons_e, aNil_e, List.map_cons, List.map_nil, List.length_cons, List.length_nil, Nat.reduceAdd, Nat.reduceSub, List.replicate, List.append_nil, cV_0, bind_ok, ev_form_ok h, e, fin_rt, gc_non]
  · have := hm m
    omega
end LW
end Pf
end

section
set_option Elab.async false
set_option linter.all false
set_option maxRecDepth 20000
set_option maxHeartbeats 0
set_option autoImplicit false
/-! E8s: sets told: check_set, has, least_set. -/
namespace Pf
open PySem PySem.Spec PyProof.Rows L2
namespace LW
variable {k : Nat} {S : Store} {b r : Nat} {g : Nat → Bool}
theorem ev_is_flag_bl (c : Bool) : (Cs Pg (k + 1)).f i_is_flag [.bl c] S = .ok (.bl true) S := by
  rw [fe_is_flag, runB_e _ _ _ _ _ (by rfl)]
  have e : b_is_flag (Cs Pg k) ([D.bl c].map some ++ List.replicate (1 - [D.bl c].length) none) S = .rt (.bl true) S := by rfl
  rw [e]
  simp
theorem ix_set : oIx (tD b r g) (.int 0) S = .ok (.int b) S ∧ oIx (tD b r g) (.int 1) S = .ok (.int r) S ∧ oIx (tD b r g) (.int 2) S = .ok (.tup .hard (brow (b + r) g)) S := by simp [tD]
theorem ev_is_set (hr : 0 < r) (hw : b + r ≤ 5000) : (Cs Pg (k + 3)).f i_is_set [tD b r g] S = .ok (.bl true) S := by
  obtain ⟨h0, h1, h2⟩ := ix_set (S := S) (b := b) (r := r) (g := g)
  have hz : (Cs Pg (k + 2)).f i_is_sized [tD b r g, .int 3, .int 3] S = .ok (.bl true) S := by
    have := ev_is_sized (k := k + 1) (S := S) .any [.int b, .int r, .tup .hard (brow (b + r) g)] 3 3
    exact this
  have hz2 : (Cs Pg (k + 2)).f i_is_sized [.tup .hard (brow (b + r) g), .int ((b + r : Nat) : Int), .int ((b + r : Nat) : Int)] S = .ok (.bl true) S := by
    have := ev_is_sized (k := k + 1) (S := S) .hard (brow (b + r) g) ((b + r : Nat) : Int) ((b + r : Nat) : Int)
    simpa using this
  have e1 : (b : Int) + r = ((b + r : Nat) : Int) := by omega
  have w1 : decide ((0 : Int) ≤ (b : Int) ∧ (b : Int) ≤ 5000) = true := decide_eq_true (by omega)
  have w2 : decide ((1 : Int) ≤ (r : Int) ∧ (r : Int) ≤ 5000) = true := decide_eq_true (by omega)
  have w3 : decide (((b + r : Nat) : Int) ≤ 5000) = true := decide_eq_true (by omega)
  rw [fe_is_set, runB_e _ _ _ _ _ (by rfl)]
  simp only [b_is_set]
  rw [sSeq_nx (ρ1 := [some (tD b r g), none, none]) (S1 := S) (by
    simp only [sIf_e, tOr_e, tNot_e, tV_e, cCall_e, aCons_e, aNil_e, c2_e, List.map_cons, List.map_nil, List.length_cons, List.length_nil, Nat.reduceAdd, Nat.reduceSub, List.replicate, List.cons_append, List.nil_append, cV_0, cV_s, cD_e, bind_ok, hz, h0, h1, ge_MOST_FORM, ev_is_within, w1, w2, tvD_e, Bool.not_true, Bool.false_eq_true, if_false, sX_ok, sNx_e])]
  rw [sSeq_nx (ρ1 := [some (tD b r g), some (.int ((b + r : Nat) : Int)), none]) (S1 := S) (by
    simp only [sSet_e, c2_e, cV_0, cV_s, cD_e, bind_ok, h0, h1, oAddA_e, e1, sX_ok, gV_e, List.set])]
  have hk : compF [] (gV 2) tYes (cCall (Cs Pg (k + 2)) i_is_flag (aCons (cV 2) aNil)) [some (tD b r g), some (.int ((b + r : Nat) : Int)), none] (brow (b + r) g) [] S = .ok ((List.range (b + r)).map fun _ => .bl true) S :=
    compF_ran (gd_nil _) _ (fun _ => .bl true) (by omega) (fun n hn => ⟨_, rfl, by simp [ev_is_flag_bl]⟩)
  have ha : (List.range (b + r)).all (fun _ => true) = true := by simp
  simp only [sRet_e, cAnd_e, c2_e, cCall_e, aCons_e, aNil_e, cV_0, cV_s, cD_e, bind_ok, ge_MOST_FORM, oLe_e, w3, tvD_e, if_true, h2, hz2, cK_e, aComp_e, iE_e, seqL_tup, wipe_cons, wipe_nil, List.set, hk, kAll_map (fun _ => true), ha, sX_ok, fin_rt, gc_bl]
theorem ev_check_set (hr : 0 < r) (hw : b + r ≤ 5000) : (Cs Pg (k + 4)).f i_check_set [tD b r g] S = .ok .non S := by
  rw [fe_check_set, runB_e _ _ _ _ _ (by rfl)]
  simp [b_check_set, ev_is_set hr hw]
theorem ev_has (h : Per g b r) (hw : b + r ≤ 5000) {n : Nat} (hn : n ≤ 100000) : (Cs Pg (k + 5)).f i_has [tD b r g, .int n] S = .ok (.bl (g n)) S := by
  rw [fe_has, runB_e _ _ _ _ _ (by rfl)]
  simp only [b_has, sSeq_e, sDrop_e, sX_ok, sRet_e, cCall_e, aCons_e, aNil_e, List.map_cons, List.map_nil, List.length_cons, List.length_nil, Nat.reduceAdd, Nat.reduceSub, List.replicate, List.append_nil, cV_0, cV_s, bind_ok, ev_check_set h.1 hw, ev_check_number, ev_raw_has h hw hn, fin_rt, gc_bl]
theorem ev_least_set (h : Per g b r) (hw : b + r ≤ 5000) : (Cs Pg (k + 5)).f i_least_set [tD b r g] S = .ok (LS g) S := by
  obtain ⟨b0, r0, _, e0, _, _⟩ := LS_at h
  have hD : isD (LS g) = true := by rw [e0]; exact tD_isD _ _ _
  rw [fe_least_set, runB_e _ _ _ _ _ (by rfl)]
  simp only [b_least_set, sSeq_e, sDrop_e, sX_ok, sRet_e, cCall_e, aCons_e, aNil_e, List.map_cons, List.map_nil, List.length_cons, List.length_nil, Nat.reduceAdd, Nat.reduceSub, List.replicate, List.append_nil, cV_0, cV_s, bind_ok, ev_check_set h.1 hw, ev_least_set' h hw, fin_rt]
  exact gc_same hD
end LW
end Pf
end

section
set_option Elab.async false
set_option linter.all false
set_option maxRecDepth 20000
set_option maxHeartbeats 0
set_option autoImplicit false
/-! E8r: the text of a set told. -/
namespace Pf
open PySem PySem.Spec PyProof.Rows L2
theorem pdDs_bls : ∀ xs : List Bool, pdDs (xs.map D.bl) = some (xs.map PyData.bool)
  | [] => rfl
  | x :: r => by
    have ih := pdDs_bls r
    simp only [List.map_cons, pdDs, pdD, ih]
theorem pd_set (b r : Nat) (g : Nat → Bool) : pdD (tD b r g) = some (.tuple [.int b, .int r, .tuple (((List.range (b + r)).map g).map PyData.bool)]) := by
  simp only [tD, brow_bls, pdD, pdDs, pdDs_bls]
theorem bools_show : ∀ xs : List Bool, PyData.showableAll (xs.map PyData.bool) = true ∧ PyData.hasDictAll (xs.map PyData.bool) = false ∧ PyData.depthAll (xs.map PyData.bool) = 0 ∧ PyData.leavesShortAll 13 (xs.map PyData.bool) = true ∧ PyData.bulkAll (xs.map PyData.bool) = xs.length
  | [] => ⟨rfl, rfl, rfl, rfl, rfl⟩
  | x :: r => by
    obtain ⟨h1, h2, h3, h4, h5⟩ := bools_show r
    refine ⟨?_, ?_, ?_, ?_, ?_⟩
    · simp [PyData.showableAll, PyData.showable, h1]
    · simp [PyData.hasDictAll, PyData.hasDict, h2]
    · simp [PyData.depthAll, PyData.depth, h3]
    · simp [PyData.leavesShortAll, PyData.leavesShort, h4]
    · simp [PyData.bulkAll, PyData.bulk, h5]; omega
theorem int_short {n : Nat} (h : n ≤ 5000) : (PyData.shown (.int (n : Int))).length ≤ 13 := by
  have h1 : (Nat.repr n).length ≤ 13 := nat_repr_length_le (by decide) (by omega)
  show (PySem.Str.ofString (toString (n : Int))).length ≤ 13
  have e : toString (n : Int) = Nat.repr n := rfl
  rw [e, PySem.ofString_length]
  exact h1
theorem ok_app {a b : PySem.Str} (ha : PyData.strOk a = true) (hb : PyData.strOk b = true) : PyData.strOk (a ++ b) = true := by
  unfold PyData.strOk at *
  show (a.cps ++ b.cps).all _ = true
  rw [Array.all_append, ha, hb]
  rfl
theorem ok_of (s : String) : PyData.strOk (PySem.Str.ofString s) = true := by
  unfold PyData.strOk
  rw [PySem.Str.ofString_eq_toList]
  show ((s.toList.map Char.toNat).toArray).all _ = true
  rw [List.all_toArray, List.all_map, List.all_eq_true]
  intro c _
  have h := c.valid
  have e : c.toNat = c.val.toNat := rfl
  simp only [Function.comp_apply, decide_eq_true_eq]
  rcases h with h | h
  · have : c.val.toNat < 0xd800 := h
    omega
  · have : c.val.toNat < 0x110000 := h.2
    omega
theorem ok_join {sep : PySem.Str} (hs : PyData.strOk sep = true) : ∀ {ts : List PySem.Str}, (∀ t ∈ ts, PyData.strOk t = true) → PyData.strOk (PySem.Str.join sep ts) = true
  | [], _ => by show PyData.strOk PySem.Str.empty = true; kernel_rfl
  | [x], h => h x (by simp)
  | x :: y :: r, h => by
    show PyData.strOk (x ++ sep ++ PySem.Str.join sep (y :: r)) = true
    exact ok_app (ok_app (h x (by simp)) hs) (ok_join hs fun t ht => h t (by simp at ht ⊢; exact .inr ht))
theorem ok_tuple {ts : List PySem.Str} (h : ∀ t ∈ ts, PyData.strOk t = true) : PyData.strOk (PySem.tupleText ts) = true := by
  unfold PySem.tupleText
  refine ok_app (ok_app (ok_of _) (ok_join (ok_of _) h)) ?_
  split <;> exact ok_of _
theorem ok_bools (xs : List Bool) : ∀ t ∈ PyData.shownAll (xs.map PyData.bool), PyData.strOk t = true := by
  induction xs with
  | nil => intro t ht; simp [PyData.shownAll] at ht
  | cons x r ih =>
    intro t ht
    simp only [List.map_cons, PyData.shownAll, List.mem_cons] at ht
    rcases ht with rfl | ht
    · cases x <;> exact ok_of _
    · exact ih t ht
theorem repr_set {b r : Nat} {g : Nat → Bool} (hw : b + r ≤ 5000) : ∃ x, reprD (tD b r g) = some x ∧ PyData.strOk x = true := by
  obtain ⟨h1, h2, h3, h4, h5⟩ := bools_show ((List.range (b + r)).map g)
  have hs : ∀ n : Nat, n ≤ 5000 → PyData.showable (.int (n : Int)) = true := by
    intro n hn
    show decide (((n : Int).natAbs.log2) < 1920) = true
    rw [Int.natAbs_natCast]
    refine decide_eq_true ?_
    by_cases e : n = 0
    · subst e; decide
    · refine (Nat.log2_lt e).mpr (Nat.lt_of_lt_of_le (show n < 2 ^ 13 by omega) (Nat.pow_le_pow_right (by omega) (by omega)))
  have hfit : (PyData.tuple [.int b, .int r, .tuple (((List.range (b + r)).map g).map PyData.bool)]).shown.length ≤ sizeLine := by
    refine PyData.shown_fits_bulk (B := 13) (by omega) (by omega) ?_ ?_
    · simp only [PyData.leavesShort, PyData.leavesShortAll, h4, Bool.and_true, Bool.and_eq_true, decide_eq_true_eq]
      exact ⟨int_short (by omega), int_short (by omega)⟩
    · simp only [PyData.bulk, PyData.bulkAll, h5, List.length_map, List.length_range]
      have : (2 : Nat) ^ 20 = 1048576 := by decide
      omega
  have hc : (PyData.tuple [.int b, .int r, .tuple (((List.range (b + r)).map g).map PyData.bool)]).showable = true ∧ (PyData.tuple [.int b, .int r, .tuple (((List.range (b + r)).map g).map PyData.bool)]).hasDict = false ∧ (PyData.tuple [.int b, .int r, .tuple (((List.range (b + r)).map g).map PyData.bool)]).depth ≤ 50 ∧ (PyData.tuple [.int b, .int r, .tuple (((List.range (b + r)).map g).map PyData.bool)]).shown.length ≤ sizeLine := by
    refine ⟨?_, ?_, ?_, hfit⟩
    · simp only [PyData.showable, PyData.showableAll, h1, Bool.and_true, Bool.and_eq_true]
      exact ⟨hs b (by omega), hs r (by omega)⟩
    · simp only [PyData.hasDict, PyData.hasDictAll, h2, Bool.or_false]
    · simp only [PyData.depth, PyData.depthAll, h3]
      omega
  unfold reprD
  rw [pd_set]
  refine ⟨_, if_pos hc, ?_⟩
  simp only [PyData.shown]
  refine ok_tuple fun t ht => ?_
  simp only [PyData.shownAll, List.mem_cons, List.not_mem_nil, or_false] at ht
  rcases ht with rfl | rfl | rfl
  · simp only [PyData.shown]; exact ok_of _
  · simp only [PyData.shown]; exact ok_of _
  · simp only [PyData.shown]
    exact ok_tuple (ok_bools _)
end Pf
end

section
set_option Elab.async false
set_option linter.all false
set_option maxRecDepth 20000
set_option maxHeartbeats 0
set_option autoImplicit false
/-! E9a: a law's hand and draws, for any constants. -/
namespace Pf
open PySem PySem.Spec PyProof.Rows L2
def HL (c i q m u : Nat) : MO := .lst [D.ref c, D.int i, D.int q, D.int m, D.int u]
/-- what a hand's list may be: cells at c -/
def HO (c U : Nat) (o : MO) : Prop := ∃ i q m u : Nat, o = HL c i q m u ∧ q < 10 ^ 36 ∧ m < 2 ^ 40 ∧ u ≤ U
/-- a hand at p -/
structure HS (c U : Nat) (S : Store) (p : Nat) : Prop where
  pc : p ≠ c
  cl : ∃ cells : List Nat, S[c]? = some (.lst (cells.map fun (n : Nat) => D.int n)) ∧ ∀ x ∈ cells, x < 10 ^ 36
  at_ : ∃ o, S[p]? = some o ∧ HO c U o
theorem HO.mono {c U U' : Nat} {o : MO} (h : HO c U o) (hu : U ≤ U') : HO c U' o := by
  obtain ⟨i, q, m, u, e, h1, h2, h3⟩ := h
  exact ⟨i, q, m, u, e, h1, h2, by omega⟩
theorem HS.mono {c U U' p : Nat} {S : Store} (h : HS c U S p) (hu : U ≤ U') : HS c U' S p := by
  obtain ⟨o, h1, h2⟩ := h.at_
  exact ⟨h.pc, h.cl, o, h1, h2.mono hu⟩
theorem HS.lt {c U p : Nat} {S : Store} (h : HS c U S p) : p < S.length := by
  obtain ⟨o, h1, _⟩ := h.at_
  exact (List.getElem?_eq_some_iff.mp h1).1
theorem HS.ltc {c U p : Nat} {S : Store} (h : HS c U S p) : c < S.length := by
  obtain ⟨o, h1, _⟩ := h.cl
  exact (List.getElem?_eq_some_iff.mp h1).1
theorem HS.set {c U U' p : Nat} {S : Store} {o : MO} (h : HS c U S p) (ho : HO c U' o) : HS c U' (S.set p o) p := by
  refine ⟨h.pc, ?_, o, by rw [List.getElem?_set_self h.lt], ho⟩
  obtain ⟨cells, h1, h2⟩ := h.cl
  exact ⟨cells, by rw [List.getElem?_set_ne h.pc]; exact h1, h2⟩
theorem HS.app {c U p : Nat} {S : Store} (h : HS c U S p) (X : Store) : HS c U (S ++ X) p := by
  obtain ⟨cells, h1, h2⟩ := h.cl
  obtain ⟨o, h3, h4⟩ := h.at_
  exact ⟨h.pc, ⟨cells, by rw [List.getElem?_append_left h.ltc]; exact h1, h2⟩, o, by rw [List.getElem?_append_left h.lt]; exact h3, h4⟩
theorem HS.other {c U p q : Nat} {S : Store} {o : MO} (h : HS c U S p) (hq : q ≠ p) (hc : q ≠ c) : HS c U (S.set q o) p := by
  obtain ⟨cells, h1, h2⟩ := h.cl
  obtain ⟨o, h3, h4⟩ := h.at_
  exact ⟨h.pc, ⟨cells, by rw [List.getElem?_set_ne hc]; exact h1, h2⟩, o, by rw [List.getElem?_set_ne hq]; exact h3, h4⟩
theorem HO.wf {c U n : Nat} {o : MO} (h : HO c U o) (hc : c < n) : wfO n o = true := by
  obtain ⟨i, q, m, u, rfl, _⟩ := h
  simp [HL, wfO, wfDs, wfD, hc]
theorem keepOk_set {S X : Store} {p : Nat} {o : MO} (h : wfO S.length o = true) : keepOk S (S.set p o ++ X) := by
  intro n o' hn h'
  rw [List.getElem?_append_left (by simpa using hn)] at h'
  rw [List.getElem?_set] at h'
  split at h'
  · split at h'
    · cases h'; exact .inr h
    · cases h'
  · exact .inl h'
/-- what a call leaves of a hand and junk -/
theorem gc_set {S X : Store} {p : Nat} {o : MO} {d : D} (ho : wfO S.length o = true) (hd : wfD S.length d = true) : gcR S (.ok d (S.set p o ++ X)) = .ok d (S.set p o) := by
  have h1 := isD_of_wf d hd
  by_cases e : X = []
  · subst e
    simp [gcR, h1]
  · have : ¬ (S.set p o ++ X).length ≤ S.length := by
      have : 0 < X.length := List.length_pos_iff.mpr e
      rw [List.length_append, List.length_set]; omega
    simp only [gcR, h1, this, if_true, if_false]
    rw [if_pos ⟨hd, keepOk_set ho⟩]
    congr 1
    rw [List.take_append_of_le_length (by simp), List.take_of_length_le (by simp)]
theorem gc_set0 {S : Store} {p : Nat} {o : MO} {d : D} (hd : isD d = true) : gcR S (.ok d (S.set p o)) = .ok d (S.set p o) := by
  simp [gcR, hd]
theorem gc_setx {S X : Store} {p : Nat} {o : MO} {c : PySem.Str} (ho : wfO S.length o = true) : gcR S (.exc c (S.set p o ++ X)) = .exc c (S.set p o) := by
  by_cases e : X = []
  · subst e
    simp [gcR]
  · have : ¬ (S.set p o ++ X).length ≤ S.length := by
      have : 0 < X.length := List.length_pos_iff.mpr e
      rw [List.length_append, List.length_set]; omega
    simp only [gcR, this, if_false]
    rw [if_pos (keepOk_set ho)]
    congr 1
    rw [List.take_append_of_le_length (by simp), List.take_of_length_le (by simp)]
theorem gc_deep {S S' : Store} {n : Nat} {ds : List D} (h1 : S.length ≤ n) (h2 : ¬ S'.length ≤ S.length) (h3 : S'[n]? = some (.lst ds)) (h4 : wfDs S.length ds = false) : gcR S (.ok (.ref n) S') = .ok (.ref n) S' := by
  unfold gcR
  dsimp only
  rw [if_pos (show isD (.ref n) = true from rfl), if_neg h2, if_neg (by intro h; have : decide (n < S.length) = true := h.1; have := of_decide_eq_true this; omega), h3]
  dsimp only
  rw [if_neg (by intro h; rw [h4] at h; exact absurd h.2.1 (by decide))]
theorem cutD_to (xs : List D) (b : Nat) : cutD xs none (some (b : Int)) = xs.take b := by
  unfold cutD
  rw [HT.sIx_nat, HT.sIx_none]
  simp only [List.drop_zero, Nat.sub_zero]
  rcases Nat.le_total b xs.length with h | h
  · rw [Nat.min_eq_left h]
  · rw [Nat.min_eq_right h, List.take_of_length_le (Nat.le_refl _), List.take_of_length_le h]
section
variable {S : Store}
theorem oAbs_e (i : Int) : oAbs [.int i] S = .ok (.int (if i < 0 then -i else i)) S := (rfl)
theorem oInt_e (i : Int) : oInt [.int i] S = .ok (.int i) S := (rfl)
theorem oPow_e (i : Int) (j : Nat) (h : i.natAbs < 2 ^ 64) (hj : j ≤ 1000000) : oPow (.int i) (.int (j : Int)) S = .ok (.int (i ^ j)) S := by
  show (if 0 ≤ (j : Int) ∧ (j : Int) ≤ 1000000 ∧ i.natAbs < 2 ^ 64 then R.ok (D.int (i ^ (j : Int).toNat)) S else .bad) = _
  rw [if_pos ⟨by omega, by omega, h⟩, Int.toNat_natCast]
theorem oPow36 : oPow (.int 10) (.int 36) S = .ok (.int 1000000000000000000000000000000000000) S := oPow_e 10 36 (by decide) (by decide)
theorem oPow18 : oPow (.int 10) (.int 18) S = .ok (.int 1000000000000000000) S := oPow_e 10 18 (by decide) (by decide)
theorem oLen_ref {n : Nat} {ds : List D} (h : S[n]? = some (.lst ds)) : oLen [.ref n] S = .ok (.int ds.length) S := by simp [oLen, itemsOf, h]
theorem oSetL_e {n i : Nat} {ds : List D} {v : D} (h : S[n]? = some (.lst ds)) (hi : i < ds.length) (hv : isD v = true) : oSetL (.ref n) (.int (i : Int)) v S = .ok () (S.set n (.lst (ds.set i v))) := by
  have : ixN ds.length (i : Int) = some i := by
    unfold ixN
    rw [if_pos (by omega), if_pos (by omega)]
    simp
  simp [oSetL, h, this, hv]
theorem oMod_q {i j : Int} (h : 0 < j) : oMod (.int i) (.int j) S = .ok (.int (i % j)) S := oMod_e i j h
end
@[simp] theorem sSub_e (op : D → D → D → Store → R Unit) (o i e : Ex) (ρ : Env) (S : Store) : sSub op o i e ρ S = sX (e ρ S) ρ fun v S1 => sX (o ρ S1) ρ fun ov S2 => sX (i ρ S2) ρ fun iv S3 => sX (op ov iv v S3) ρ fun _ S4 => .nx ρ S4 := (rfl)
theorem smP {i : Int} (h : -(1000000000000000000000000000000000000000000000000 : Int) ≤ i) (h2 : i ≤ 1000000000000000000000000000000000000000000000000) : Sm i := by
  unfold Sm
  refine Nat.lt_of_lt_of_le (show i.natAbs < 2 ^ 200 from ?_) (Nat.pow_le_pow_right (by omega) (by omega))
  have : (2 : Nat) ^ 200 = 1606938044258990275541962092341162602522202993782792835301376 := by decide
  rw [this]
  omega
/-- a hand made -/
noncomputable def handS (a b : Int) : St := (sSeq (sSet (gV 1) (cNew (aComp [2] (iE (cCut (cV 0) pNo (pSome (cD (.int 63))))) (gV 2) tYes (c2 oMod (cN oInt (aCons (cN oAbs (aCons (cN oInt (aCons (cV 2) aNil)) aNil)) aNil)) (c2 oPow (cD (.int 10)) (cD (.int 36)))))))
    (sRet (cNew (aDisp (aCons (cV 1) (aCons (cD (.int 0)) (aCons (cD (.int 0)) (aCons (c2 oAddA (cD (.int a)) (c2 oMulA (cD (.int b)) (cN oLen (aCons (cV 1) aNil)))) (aCons (cD (.int 0)) aNil)))))))))
/-- a draw -/
def drawA (A B M : Int) : St := (sIf (tAnd (tV (c2 oEq (c2 oIx (cV 0) (cD (.int 2))) (cD (.int 0)))) (tV (c2 oLt (c2 oIx (cV 0) (cD (.int 1))) (cN oLen (aCons (c2 oIx (cV 0) (cD (.int 0))) aNil))))) (sSeq (sSet (gV 2) (c2 oIx (c2 oIx (cV 0) (cD (.int 0))) (c2 oIx (cV 0) (cD (.int 1)))))
    (sSeq (sSub oSetL (cV 0) (cD (.int 1)) (c2 oAddA (c2 oIx (cV 0) (cD (.int 1))) (cD (.int 1))))
    (sSeq (sSub oSetL (cV 0) (cD (.int 3)) (c2 oMod (cN oInt (aCons (c2 oAddA (c2 oAddA (c2 oMulA (c2 oIx (cV 0) (cD (.int 3))) (cD (.int A))) (c2 oMulA (cV 2) (cD (.int B)))) (cD (.int 17))) aNil)) (cD (.int M))))
    (sIf (tV (c2 oGe (cV 2) (c2 oPow (cD (.int 10)) (cD (.int 18))))) (sSub oSetL (cV 0) (cD (.int 2)) (cV 2)) sNx)))) sNx)
def drawB (A E M F G H I M2 J : Int) : St := (sSeq (sIf (tV (c2 oGt (c2 oIx (cV 0) (cD (.int 2))) (cD (.int 0)))) (sSeq (sSet (gV 3) (c2 oMod (cN oInt (aCons (c2 oIx (cV 0) (cD (.int 2))) aNil)) (cV 1)))
    (sSeq (sSub oSetL (cV 0) (cD (.int 2)) (c2 oDiv (c2 oIx (cV 0) (cD (.int 2))) (cV 1)))
    (sRet (cV 3)))) sNx)
    (sSeq (sSub oSetL (cV 0) (cD (.int 4)) (c2 oAddA (c2 oIx (cV 0) (cD (.int 4))) (cD (.int 1))))
    (sSeq (sSet (gV 4) (c2 oMod (cN oInt (aCons (c2 oMulA (cN oInt (aCons (c2 oAddA (c2 oIx (cV 0) (cD (.int 3))) (c2 oMulA (cD (.int A)) (c2 oIx (cV 0) (cD (.int 4))))) aNil)) (cD (.int E))) aNil)) (cD (.int M))))
    (sSeq (sSet (gV 4) (c2 oMod (cN oInt (aCons (c2 oMulA (cV 4) (c2 oAddA (c2 oDiv (cV 4) (cD (.int F))) (cD (.int G)))) aNil)) (cD (.int M))))
    (sSeq (sSet (gV 4) (c2 oMod (cN oInt (aCons (c2 oMulA (cV 4) (c2 oAddA (c2 oDiv (cV 4) (cD (.int H))) (cD (.int I)))) aNil)) (cD (.int M2))))
    (sRet (c2 oMod (cN oInt (aCons (c2 oDiv (cV 4) (cD (.int J))) aNil)) (cV 1))))))))
section
variable {S : Store} {c p i q m u : Nat}
theorem hl_ix (h : S[p]? = some (HL c i q m u)) : oIx (.ref p) (.int 0) S = .ok (.ref c) S ∧ oIx (.ref p) (.int 1) S = .ok (.int i) S ∧ oIx (.ref p) (.int 2) S = .ok (.int q) S ∧ oIx (.ref p) (.int 3) S = .ok (.int m) S ∧ oIx (.ref p) (.int 4) S = .ok (.int u) S :=
  ⟨oIx_ref h (atI_nat _ 0 (by simp)), oIx_ref h (atI_nat _ 1 (by simp)), oIx_ref h (atI_nat _ 2 (by simp)), oIx_ref h (atI_nat _ 3 (by simp)), oIx_ref h (atI_nat _ 4 (by simp))⟩
theorem hl_set (h : S[p]? = some (HL c i q m u)) (x : Nat) : oSetL (.ref p) (.int 1) (.int x) S = .ok () (S.set p (HL c x q m u)) ∧ oSetL (.ref p) (.int 2) (.int x) S = .ok () (S.set p (HL c i x m u)) ∧ oSetL (.ref p) (.int 3) (.int x) S = .ok () (S.set p (HL c i q x u)) ∧ oSetL (.ref p) (.int 4) (.int x) S = .ok () (S.set p (HL c i q m x)) :=
  ⟨oSetL_e (i := 1) h (by simp) rfl, oSetL_e (i := 2) h (by simp) rfl, oSetL_e (i := 3) h (by simp) rfl, oSetL_e (i := 4) h (by simp) rfl⟩
theorem nat_of {x : Int} (h : 0 ≤ x) {b : Nat} (h2 : x < b) : ∃ n : Nat, x = n ∧ n < b := by
  obtain ⟨n, e⟩ := Int.eq_ofNat_of_zero_le h
  exact ⟨n, e, by omega⟩
def Cst (x : Int) : Prop := 0 < x ∧ x < 1000000000000
instance (x : Int) : Decidable (Cst x) := by unfold Cst; exact inferInstance
theorem Cst.sm {x : Int} (h : Cst x) : Sm x := sm_abs (by unfold Cst at h; omega)
theorem mod_nat {x M : Int} (hM : Cst M) : ∃ n : Nat, x % M = n ∧ n < 2 ^ 40 := by
  unfold Cst at hM
  have h1 := Int.emod_nonneg x (show M ≠ 0 by omega)
  have h2 := Int.emod_lt_of_pos x (show 0 < M by omega)
  obtain ⟨n, e, _⟩ := nat_of h1 (b := 1000000000000) (by omega)
  exact ⟨n, e, by omega⟩
theorem draw_a {A B M : Int} (hA : Cst A) (hB : Cst B) (hM : Cst M) {U : Nat} (h : HS c U S p) (x y : D) :
    ∃ o2 o, HO c U o ∧ drawA A B M [some (.ref p), some x, none, none, none] S = .nx [some (.ref p), some x, o2, none, none] (S.set p o) := by
  obtain ⟨cells, hc1, hc2⟩ := h.cl
  obtain ⟨_, hp, i, q, m, u, rfl, hq, hm, hu⟩ := h.at_
  have hlt := h.lt
  obtain ⟨x0, x1, x2, x3, x4⟩ := hl_ix hp
  have hlen : oLen [.ref c] S = .ok (.int cells.length) S := by rw [oLen_ref hc1]; simp
  have hid : S.set p (HL c i q m u) = S := by
    refine List.ext_getElem? fun j => ?_
    rw [List.getElem?_set]
    split
    · rename_i e; subst e; first | exact hp.symm | (rw [if_pos hlt]; exact hp.symm)
    · rfl
  by_cases h1 : q = 0
  · subst h1
    by_cases h2 : i < cells.length
    · have h2' : (i : Int) < cells.length := by omega
      have hcell : oIx (.ref c) (.int (i : Int)) S = .ok (.int (cells[i] : Nat)) S := oIx_ref hc1 (by rw [atI_nat _ _ (by simpa using h2)]; simp [h2])
      have hcb := hc2 cells[i] (List.getElem_mem h2)
      obtain ⟨n, hn, hn2⟩ := mod_nat (x := (m : Int) * A + (cells[i] : Nat) * B + 17) hM
      have g1 := (hl_set hp (i + 1)).1
      have hp1 : (S.set p (HL c (i + 1) 0 m u))[p]? = some (HL c (i + 1) 0 m u) := List.getElem?_set_self hlt
      obtain ⟨y0, y1, y2, y3, y4⟩ := hl_ix hp1
      have g2 := (hl_set hp1 n).2.2.1
      have hp2 : (S.set p (HL c (i + 1) 0 n u))[p]? = some (HL c (i + 1) 0 n u) := List.getElem?_set_self hlt
      have g3 := (hl_set hp2 cells[i]).2.1
      rw [List.set_set] at g2 g3
      have e1 : (i : Int) + 1 = ((i + 1 : Nat) : Int) := by omega
      have hmu1 : ∀ S', oMulA (.int (m : Int)) (.int A) S' = .ok (.int ((m : Int) * A)) S' := fun S' => oMulA_e (smP (by omega) (by omega)) hA.sm
      have hmu2 : ∀ S', oMulA (.int (cells[i] : Nat)) (.int B) S' = .ok (.int ((cells[i] : Nat) * B)) S' := fun S' => oMulA_e (smP (by omega) (by omega)) hB.sm
      by_cases h3 : 1000000000000000000 ≤ cells[i]
      · refine ⟨some (.int (cells[i] : Nat)), HL c (i + 1) cells[i] n u, ⟨_, _, _, _, rfl, hcb, hn2, hu⟩, ?_⟩
        have h3' : (1000000000000000000 : Int) ≤ (cells[i] : Nat) := by omega
        simp only [drawA, sIf_e, tAnd_e, tV_e, c2_e, cV_0, cV_s, cD_e, bind_ok, x2, Int.natCast_zero, oEq_int, decide_true, tvD_e, if_true, x1, cN_e, aCons_e, aNil_e, x0, hlen, oLt_e, h2', sX_ok, sSeq_e, sSet_e, hcell, gV_e, List.set, sSub_e, oAddA_e, e1, g1, y3, hmu1, hmu2, oInt_e, oMod_q hM.1, hn, g2, oPow18, oGe_e, h3', g3]
      · refine ⟨some (.int (cells[i] : Nat)), HL c (i + 1) 0 n u, ⟨_, _, _, _, rfl, by decide, hn2, hu⟩, ?_⟩
        have h3' : ¬ (1000000000000000000 : Int) ≤ (cells[i] : Nat) := by omega
        simp only [drawA, sIf_e, tAnd_e, tV_e, c2_e, cV_0, cV_s, cD_e, bind_ok, x2, Int.natCast_zero, oEq_int, decide_true, tvD_e, if_true, x1, cN_e, aCons_e, aNil_e, x0, hlen, oLt_e, h2', sX_ok, sSeq_e, sSet_e, hcell, gV_e, List.set, sSub_e, oAddA_e, e1, g1, y3, hmu1, hmu2, oInt_e, oMod_q hM.1, hn, g2, oPow18, oGe_e, h3', decide_false, Bool.false_eq_true, if_false, sNx_e]
    · have h2' : ¬ (i : Int) < cells.length := by omega
      refine ⟨none, HL c i 0 m u, ⟨_, _, _, _, rfl, by decide, hm, hu⟩, ?_⟩
      rw [hid]
      simp only [drawA, sIf_e, tAnd_e, tV_e, c2_e, cV_0, cV_s, cD_e, bind_ok, x2, Int.natCast_zero, oEq_int, decide_true, tvD_e, if_true, x1, cN_e, aCons_e, aNil_e, x0, hlen, oLt_e, h2', sX_ok, decide_false, Bool.false_eq_true, if_false, sNx_e]
  · have h1' : ¬ (q : Int) = 0 := by omega
    refine ⟨none, HL c i q m u, ⟨_, _, _, _, rfl, hq, hm, hu⟩, ?_⟩
    rw [hid]
    simp only [drawA, sIf_e, tAnd_e, tV_e, c2_e, cV_0, cV_s, cD_e, bind_ok, x2, oEq_int, h1', decide_false, tvD_e, Bool.false_eq_true, if_false, sX_ok, sNx_e]
theorem draw_b {A E M F G H I M2 J : Int} (hA : Cst A) (hE : Cst E) (hM : Cst M) (hF : Cst F) (hG : Cst G) (hH : Cst H) (hI : Cst I) (hM2 : Cst M2) (hJ : Cst J) {U : Nat} (hU : U ≤ 1000000000) (h : HS c U S p) {n : Nat} (hn0 : 0 < n) (hn : n ≤ 1000000000) (o2 : Option D) :
    ∃ v o, v < n ∧ HO c (U + 1) o ∧ fin (drawB A E M F G H I M2 J [some (.ref p), some (.int n), o2, none, none] S) = .ok (.int (v : Nat)) (S.set p o) := by
  obtain ⟨_, hp, i, q, m, u, rfl, hq, hm, hu⟩ := h.at_
  have hlt := h.lt
  obtain ⟨x0, x1, x2, x3, x4⟩ := hl_ix hp
  by_cases h1 : 0 < q
  · have h1' : (0 : Int) < q := by omega
    have g := (hl_set hp (q / n)).2.1
    have e1 : (q : Int) % n = ((q % n : Nat) : Int) := (Int.natCast_emod _ _).symm
    have e2 : (q : Int) / n = ((q / n : Nat) : Int) := (Int.natCast_ediv _ _).symm
    have hd : oDiv (.int q) (.int n) S = .ok (.int (q / n : Nat)) S := by rw [oDiv_e (by omega) (sm_nat (by omega)), e2]
    refine ⟨q % n, HL c i (q / n) m u, Nat.mod_lt _ hn0, ⟨_, _, _, _, rfl, by have := Nat.div_le_self q n; omega, hm, by omega⟩, ?_⟩
    simp only [drawB, sSeq_e, sIf_e, tV_e, c2_e, cV_0, cV_s, cD_e, bind_ok, x2, oGt_e, h1', decide_true, tvD_e, if_true, sX_ok, sSet_e, cN_e, aCons_e, aNil_e, oInt_e, oMod_q (show (0 : Int) < n by omega), e1, gV_e, List.set, sSub_e, hd, g, sRet_e, fin]
  · have h1' : ¬ (0 : Int) < q := by omega
    have g := (hl_set hp (u + 1)).2.2.2
    have hp1 : (S.set p (HL c i q m (u + 1)))[p]? = some (HL c i q m (u + 1)) := List.getElem?_set_self hlt
    obtain ⟨y0, y1, y2, y3, y4⟩ := hl_ix hp1
    have e1 : (u : Int) + 1 = ((u + 1 : Nat) : Int) := by omega
    have hAu : A * ((u + 1 : Nat) : Int) ≤ 1000000000000 * 1000000001 := Int.mul_le_mul (by unfold Cst at hA; omega) (by omega) (by omega) (by omega)
    have hAu0 : 0 ≤ A * ((u + 1 : Nat) : Int) := Int.mul_nonneg (by unfold Cst at hA; omega) (by omega)
    have h40 : (2 : Nat) ^ 40 = 1099511627776 := by decide
    have hmu1 : ∀ S', oMulA (.int A) (.int ((u + 1 : Nat) : Int)) S' = .ok (.int (A * ((u + 1 : Nat) : Int))) S' := fun S' => oMulA_e hA.sm (sm_nat (by omega))
    have hmu2 : ∀ S', oMulA (.int ((m : Int) + A * ((u + 1 : Nat) : Int))) (.int E) S' = .ok (.int (((m : Int) + A * ((u + 1 : Nat) : Int)) * E)) S' := fun S' => oMulA_e (smP (by omega) (by omega)) hE.sm
    obtain ⟨n1, hn1, hb1⟩ := mod_nat (x := ((m : Int) + A * ((u + 1 : Nat) : Int)) * E) hM
    have hF' : 0 < F := hF.1
    have hH' : 0 < H := hH.1
    have hJ' : 0 < J := hJ.1
    have d1 : (n1 : Int) / F ≤ n1 := Int.ediv_le_self _ (by omega)
    have d1' : 0 ≤ (n1 : Int) / F := Int.ediv_nonneg (by omega) (by omega)
    have hdv1 : ∀ S', oDiv (.int (n1 : Int)) (.int F) S' = .ok (.int ((n1 : Int) / F)) S' := fun S' => oDiv_e hF' hF.sm
    have hmu3 : ∀ S', oMulA (.int (n1 : Int)) (.int ((n1 : Int) / F + G)) S' = .ok (.int ((n1 : Int) * ((n1 : Int) / F + G))) S' := fun S' => oMulA_e (smP (by omega) (by omega)) (smP (by unfold Cst at hG; omega) (by unfold Cst at hG; omega))
    obtain ⟨n2, hn2, hb2⟩ := mod_nat (x := (n1 : Int) * ((n1 : Int) / F + G)) hM
    have d2 : (n2 : Int) / H ≤ n2 := Int.ediv_le_self _ (by omega)
    have d2' : 0 ≤ (n2 : Int) / H := Int.ediv_nonneg (by omega) (by omega)
    have hdv2 : ∀ S', oDiv (.int (n2 : Int)) (.int H) S' = .ok (.int ((n2 : Int) / H)) S' := fun S' => oDiv_e hH' hH.sm
    have hmu4 : ∀ S', oMulA (.int (n2 : Int)) (.int ((n2 : Int) / H + I)) S' = .ok (.int ((n2 : Int) * ((n2 : Int) / H + I))) S' := fun S' => oMulA_e (smP (by omega) (by omega)) (smP (by unfold Cst at hI; omega) (by unfold Cst at hI; omega))
    obtain ⟨n3, hn3, hb3⟩ := mod_nat (x := (n2 : Int) * ((n2 : Int) / H + I)) hM2
    have hdv3 : ∀ S', oDiv (.int (n3 : Int)) (.int J) S' = .ok (.int ((n3 : Int) / J)) S' := fun S' => oDiv_e hJ' hJ.sm
    have h5 := Int.emod_nonneg ((n3 : Int) / J) (show (n : Int) ≠ 0 by omega)
    have h6 := Int.emod_lt_of_pos ((n3 : Int) / J) (show (0 : Int) < n by omega)
    obtain ⟨v, hv, hvn⟩ := nat_of h5 (b := n) h6
    refine ⟨v, HL c i q m (u + 1), hvn, ⟨_, _, _, _, rfl, hq, hm, by omega⟩, ?_⟩
    simp only [drawB, sSeq_e, sIf_e, tV_e, c2_e, cV_0, cV_s, cD_e, bind_ok, x2, oGt_e, h1', decide_false, tvD_e, Bool.false_eq_true, if_false, sX_ok, sNx_e, sSub_e, x4, oAddA_e, e1, g, sSet_e, cN_e, aCons_e, aNil_e, y3, y4, hmu1, hmu2, oInt_e, oMod_q hM.1, hn1, gV_e, List.set, hdv1, hmu3, hn2, hdv2, hmu4, oMod_q hM2.1, hn3, hdv3, sRet_e, oMod_q (show (0 : Int) < n by omega), hv, fin]
/-- a draw -/
theorem draw_ok {A B M A' E M' F G H I M2 J : Int} (hA0 : Cst A) (hB0 : Cst B) (hM0 : Cst M) (hA : Cst A') (hE : Cst E) (hM : Cst M') (hF : Cst F) (hG : Cst G) (hH : Cst H) (hI : Cst I) (hM2 : Cst M2) (hJ : Cst J) {U : Nat} (hU : U ≤ 1000000000) (h : HS c U S p) {n : Nat} (hn0 : 0 < n) (hn : n ≤ 1000000000) :
    ∃ v o, v < n ∧ HO c (U + 1) o ∧ gcR S (runB (sSeq (drawA A B M) (drawB A' E M' F G H I M2 J)) 5 2 [.ref p, .int n] S) = .ok (.int (v : Nat)) (S.set p o) := by
  obtain ⟨o2, o, ho, e⟩ := draw_a hA0 hB0 hM0 h (.int n) (.int n)
  obtain ⟨v, o', hv, ho', e'⟩ := draw_b hA hE hM hF hG hH hI hM2 hJ hU (h.set ho) hn0 hn o2
  refine ⟨v, o', hv, ho', ?_⟩
  rw [runB_e _ _ _ _ _ (by rfl)]
  have e0 : (List.map some [D.ref p, D.int n] ++ List.replicate (5 - [D.ref p, D.int n].length) none : Env) = [some (.ref p), some (.int n), none, none, none] := rfl
  rw [e0, sSeq_nx e, e', List.set_set]
  exact gc_set0 rfl
/-- a hand -/
theorem hand_ok {a b : Nat} (ha : a ≤ 1000000) (hb : b ≤ 1000000) (ns : List Int) (hl : ns.length ≤ 63) (x : D) (hx : lstOf S x = some (ns.map D.int)) :
    ∃ X c p, HS c 0 (S ++ X) p ∧ gcR S (runB (handS a b) 3 1 [x] S) = .ok (.ref p) (S ++ X) ∧ S.length ≤ c ∧ S.length ≤ p := by
  have hcut : oCut x none (some 63) S = .ok (.ref S.length) (S ++ [.lst (ns.map D.int)]) := by
    have e : cutD (ns.map D.int) none (some 63) = ns.map D.int := by
      have := cutD_to (ns.map D.int) 63
      rw [List.take_of_length_le (by simpa using hl)] at this
      exact this
    cases x with
    | tup f ds => cases hx
    | _ => simp only [oCut, hx, e, isDs_ints, if_true]
  let f : Int → Nat := fun i => ((if i < 0 then -i else i) % 1000000000000000000000000000000000000).toNat
  have hf : ∀ i : Int, (if i < 0 then -i else i) % 1000000000000000000000000000000000000 = (f i : Int) ∧ f i < 10 ^ 36 := by
    intro i
    have h1 := Int.emod_nonneg (if i < 0 then -i else i) (show (1000000000000000000000000000000000000 : Int) ≠ 0 by decide)
    have h2 := Int.emod_lt_of_pos (if i < 0 then -i else i) (show (0 : Int) < 1000000000000000000000000000000000000 by decide)
    have h3 : (10 : Nat) ^ 36 = 1000000000000000000000000000000000000 := by decide
    show _ = (((if i < 0 then -i else i) % 1000000000000000000000000000000000000).toNat : Int) ∧ ((if i < 0 then -i else i) % 1000000000000000000000000000000000000).toNat < _
    omega
  have hcomp : compF [(S.length, ns.map D.int)] (gV 2) tYes (c2 oMod (cN oInt (aCons (cN oAbs (aCons (cN oInt (aCons (cV 2) aNil)) aNil)) aNil)) (c2 oPow (cD (.int 10)) (cD (.int 36)))) [some x, none, none] (ns.map D.int) [] (S ++ [.lst (ns.map D.int)]) = .ok (ns.map fun i => D.int (f i)) (S ++ [.lst (ns.map D.int)]) :=
    compF_mapR (by simp [gdOk]) D.int _ ns (by omega) (fun i hi => ⟨_, rfl, by
      simp only [c2_e, cN_e, aCons_e, aNil_e, cV_0, cV_s, List.set, bind_ok, oInt_e, oAbs_e, cD_e, oPow36]
      rw [oMod_q (by decide), (hf i).1]⟩)
  have hD : isDs (ns.map fun i => D.int (f i)) = true := by
    have := isDs_ints (ns.map fun i => (f i : Int))
    simpa [Function.comp_def] using this
  have hm : a + b * ns.length < 2 ^ 40 := by
    have : b * ns.length ≤ 1000000 * 63 := Nat.mul_le_mul hb hl
    have h40 : (2 : Nat) ^ 40 = 1099511627776 := by decide
    omega
  refine ⟨[.lst (ns.map D.int), .lst (ns.map fun i => D.int (f i)), HL (S.length + 1) 0 0 (a + b * ns.length) 0], S.length + 1, S.length + 2, ⟨by omega, ⟨ns.map f, by simp [Function.comp_def], fun y hy => ?_⟩, ?_⟩, ?_, by omega, by omega⟩
  · obtain ⟨i, _, rfl⟩ := List.mem_map.mp hy
    exact (hf i).2
  · exact ⟨_, by simp, 0, 0, _, 0, rfl, by decide, hm, by omega⟩
  · rw [runB_e _ _ _ _ _ (by rfl)]
    simp only [handS]
    have hseq : seqL (.ref S.length) (S ++ [.lst (ns.map D.int)]) = .ok (ns.map D.int, [(S.length, ns.map D.int)]) (S ++ [.lst (ns.map D.int)]) := seqL_ref (by simp)
    have h1 : (sSet (gV 1) (cNew (aComp [2] (iE (cCut (cV 0) pNo (pSome (cD (.int 63))))) (gV 2) tYes (c2 oMod (cN oInt (aCons (cN oAbs (aCons (cN oInt (aCons (cV 2) aNil)) aNil)) aNil)) (c2 oPow (cD (.int 10)) (cD (.int 36))))))) ([x].map some ++ List.replicate (3 - [x].length) none) S = .nx [some x, some (.ref (S.length + 1)), none] (S ++ [.lst (ns.map D.int), .lst (ns.map fun i => D.int (f i))]) := by
      simp only [sSet_e, cNew_e, aComp_e, iE_e, cCut_e, List.map_cons, List.map_nil, List.length_cons, List.length_nil, Nat.reduceAdd, Nat.reduceSub, List.replicate, List.cons_append, List.nil_append, cV_0, pNo_e, pSome_e, cD_e, bind_ok, inD'_e, hcut, hseq, wipe_cons, wipe_nil, List.set, hcomp]
      rw [oLst_e hD (by simp; omega)]
      simp
    rw [sSeq_nx h1]
    have hlen : oLen [.ref (S.length + 1)] (S ++ [.lst (ns.map D.int), .lst (ns.map fun i => D.int (f i))]) = .ok (.int ns.length) (S ++ [.lst (ns.map D.int), .lst (ns.map fun i => D.int (f i))]) := by
      rw [oLen_ref (ds := ns.map fun i => D.int (f i)) (by simp)]
      simp
    have hmul : ∀ S', oMulA (.int (b : Int)) (.int (ns.length : Int)) S' = .ok (.int ((b : Int) * (ns.length : Int))) S' := fun S' => oMulA_e (sm_nat (by omega)) (sm_nat (by omega))
    have em : (a : Int) + (b : Int) * (ns.length : Int) = ((a + b * ns.length : Nat) : Int) := by rw [Int.natCast_add, Int.natCast_mul]
    simp only [sRet_e, cNew_e, aDisp_e, aCons_e, aNil_e, cV_0, cV_s, cD_e, bind_ok, c2_e, cN_e, hlen, hmul, oAddA_e, em, List.length_cons, List.length_nil, sL]
    rw [if_pos (by omega)]
    simp only [bind_ok]
    rw [oLst_e (by simp [isDs, isD]) (by simp)]
    simp only [sX_ok, fin]
    have e2 : (S ++ [.lst (ns.map D.int), .lst (ns.map fun i => D.int (f i))] : Store) ++ [.lst [.ref (S.length + 1), .int 0, .int 0, .int ((a + b * ns.length : Nat) : Int), .int 0]] = S ++ [.lst (ns.map D.int), .lst (ns.map fun i => D.int (f i)), HL (S.length + 1) 0 0 (a + b * ns.length) 0] := by
      simp [HL]
    have e3 : (S ++ [.lst (ns.map D.int), .lst (ns.map fun i => D.int (f i))] : Store).length = S.length + 2 := by simp
    rw [e2, e3]
    have hn : ¬ (S ++ [.lst (ns.map D.int), .lst (ns.map fun i => D.int (f i)), HL (S.length + 1) 0 0 (a + b * ns.length) 0] : Store).length ≤ S.length := by simp
    exact gc_deep (ds := [.ref (S.length + 1), .int 0, .int 0, .int ((a + b * ns.length : Nat) : Int), .int 0]) (by omega) hn (by simp [HL]) (by simp [wfDs, wfD])
end
end Pf
end

section
set_option Elab.async false
set_option linter.all false
set_option maxRecDepth 20000
set_option maxHeartbeats 0
/-! E1b: equations of the newer combinators; what a call leaves that gives a list. -/
namespace Pf
open PySem PySem.Spec PyProof.Rows L2
section
variable {S : Store}
theorem gc_lst {X : Store} {n : Nat} {ds : List D} (hn : S.length ≤ n) (h : (S ++ X)[n]? = some (.lst ds)) (hw : wfDs S.length ds = true) : gcR S (.ok (.ref n) (S ++ X)) = .ok (.ref S.length) (S ++ [.lst ds]) := by
  have hl : n < (S ++ X).length := (List.getElem?_eq_some_iff.mp h).1
  have h1 : ¬ (S ++ X).length ≤ S.length := by omega
  have h2 : ¬ (wfD S.length (.ref n) = true ∧ keepOk S (S ++ X)) := by
    rintro ⟨z, _⟩
    simp only [wfD, decide_eq_true_eq] at z
    omega
  have h3 : isD (.ref n) = true := rfl
  simp only [gcR, h3, if_true, h1, if_false, h2, h]
  rw [if_pos ⟨hn, hw, keepOk_app S X⟩, List.take_left]
theorem oPop_e {n : Nat} {ds : List D} {d : D} (h : S[n]? = some (.lst (ds ++ [d]))) : oPop (.ref n) S = .ok d (S.set n (.lst ds)) := by
  have : (ds ++ [d])[(ds ++ [d]).length - 1]? = some d := by simp
  simp only [oPop, h, this]
  simp
theorem oExtend_e {n m : Nat} {ds es : List D} (h : S[n]? = some (.lst ds)) (h2 : S[m]? = some (.lst es)) (h3 : ds.length + es.length ≤ 16777216) : oExtend (.ref n) (.ref m) S = .ok .non (S.set n (.lst (ds ++ es))) := by
  simp only [oExtend, h, h2]
  rw [if_pos (by rw [sL]; exact h3)]
theorem oAppend_e {n : Nat} {ds : List D} {y : D} (h : S[n]? = some (.lst ds)) (hl : ds.length < 16777216) (hy : isD y = true) : oAppend (.ref n) y S = .ok .non (S.set n (.lst (ds ++ [y]))) := by
  simp only [oAppend, h]
  rw [if_pos ⟨by rw [sL]; exact hl, hy⟩]
theorem cM_e (o : D → List D → Store → R D) (a : Ex) (as : Ar) (ρ : Env) (S : Store) : cM o a as ρ S = (a ρ S).bind fun x S1 => if (lstOf S1 x).isSome = true then (as ρ S1).bind fun ys S2 => o x ys S2 else .bad := (rfl)
theorem lst_some {n : Nat} {ds : List D} (h : S[n]? = some (.lst ds)) : (lstOf S (.ref n)).isSome = true := by simp [lstOf, h]
@[simp] theorem m0_e (o : D → Store → R D) (x : D) : m0 o x [] S = o x S := (rfl)
@[simp] theorem m1_e (o : D → D → Store → R D) (x y : D) : m1 o x [y] S = o x y S := (rfl)
theorem oTupO_e (xs : List D) (h : xs.length ≤ 16777216) : oTupO xs S = .ok (.tup .own xs) S := by unfold oTupO; rw [sL, if_pos h]
@[simp] theorem cDictT_e (ρ : Env) : cDictT ρ S = .ok (.ref S.length) (S ++ [.dT []]) := (rfl)
@[simp] theorem cDictK_e (ρ : Env) : cDictK ρ S = .ok (.ref S.length) (S ++ [.dK []]) := (rfl)
theorem oIxF_e {kvs : List (PySem.Str × D)} {z : PySem.Str} {d : D} (h : kvs.lookup z = some d) : oIxF kvs (.str z) S = .ok d S := by simp only [oIxF, h]
@[simp] theorem oInF_e (kvs : List (PySem.Str × D)) (z : PySem.Str) : oInF kvs (.str z) S = .ok (.bl (kvs.lookup z).isSome) S := (rfl)
@[simp] theorem oNotInF_e (kvs : List (PySem.Str × D)) (z : PySem.Str) : oNotInF kvs (.str z) S = .ok (.bl (!(kvs.lookup z).isSome)) S := (rfl)
@[simp] theorem iEnum_e (a : Ex) (ρ : Env) : iEnum a ρ S = (a ρ S).bind fun x S1 => (seqL x S1).bind fun p S2 => .ok (enumD 0 p.1, p.2) S2 := (rfl)
theorem aRev_e {a : Ex} {ρ : Env} {n : Nat} {S1 : Store} {ds : List D} (h : a ρ S = .ok (.ref n) S1) (h2 : S1[n]? = some (.lst ds)) : aRev a ρ S = .ok ds.reverse S1 := by simp [aRev, h, lstOf, h2]
/-- one turn of a loop -/
theorem while_go {t : Ts} {b : St} {n : Nat} {ρ ρ2 : Env} {S S1 S2 : Store} (ht : t ρ S = .ok true S1) (hb : b ρ S1 = .nx ρ2 S2) : whileF t b (n + 1) ρ S = whileF t b n ρ2 S2 := by
  simp only [whileF, ht, sX_ok, if_true, hb]
theorem while_end {t : Ts} {b : St} {n : Nat} {ρ : Env} {S S1 : Store} (ht : t ρ S = .ok false S1) : whileF t b (n + 1) ρ S = .nx ρ S1 := by
  simp only [whileF, ht, sX_ok, Bool.false_eq_true, if_false]
theorem fuel_ge (n : Nat) (h : n ≤ 1000000000000) : ∃ m, fuel = m + n := by
  refine ⟨fuel - n, ?_⟩
  have : 1000000000000 ≤ fuel := by rw [fuel_eq]; decide
  omega
end
end Pf
end

section
set_option Elab.async false
set_option linter.all false
set_option maxRecDepth 20000
set_option maxHeartbeats 0
set_option autoImplicit false
/-! E1c: more equations for laws. -/
namespace Pf
open PySem PySem.Spec PyProof.Rows L2
theorem filter_first {p : Nat → Bool} {m N : Nat} (hm : m < N) (h1 : p m = true) (h2 : ∀ j, j < m → p j = false) : ∃ r, (List.range N).filter p = m :: r := by
  have e : (List.range N) = List.range m ++ (List.range (N - m)).map (m + ·) := by
    rw [← List.range_add]
    congr 1
    omega
  obtain ⟨q, hq⟩ : ∃ q, N - m = q + 1 := ⟨N - m - 1, by omega⟩
  rw [e, List.filter_append, List.filter_eq_nil_iff.mpr (by
    intro j hj
    rw [h2 j (by simpa using hj)]
    decide), List.nil_append, hq, List.range_succ_eq_map, List.map_cons, List.filter_cons, if_pos (by simpa using h1)]
  exact ⟨_, rfl⟩
theorem filter_none {p : Nat → Bool} {N : Nat} (h2 : ∀ j, j < N → p j = false) : (List.range N).filter p = [] := by
  rw [List.filter_eq_nil_iff]
  intro j hj
  rw [h2 j (by simpa using hj)]
  decide
theorem gc_some {S S' : Store} {b : Bool} : ∃ S'', gcR S (.ok (.bl b) S') = .ok (.bl b) S'' := by
  have h1 : isD (.bl b) = true := rfl
  by_cases h : S'.length ≤ S.length
  · exact ⟨S', by simp [gcR, h1, h]⟩
  · by_cases h2 : wfD S.length (.bl b) = true ∧ keepOk S S'
    · exact ⟨S'.take S.length, by unfold gcR; dsimp only; rw [if_pos h1, if_neg h, if_pos h2]⟩
    · exact ⟨S', by unfold gcR; dsimp only; rw [if_pos h1, if_neg h, if_neg h2]⟩
section
variable {S : Store}
theorem oNe_non : oNe .non .non S = .ok (.bl false) S := by simp [oNe, drf, okD, eqD, toPy, PyData.eqv]
theorem oNotNon_non : oNotNon .non .non S = .ok (.bl false) S := rfl
theorem oNotNon_int (i : Int) : oNotNon (.int i) .non S = .ok (.bl true) S := rfl
theorem oIsNon_e (d : D) : oIsNon d .non S = .ok (.bl (isNon d)) S := rfl
theorem rgN (n : Nat) (h : n < 4611686018427387904) : rg1 (n : Int) S = .ok ((List.range n).map fun (m : Nat) => D.int (m : Int), []) S := by
  rw [rg1_e (by omega) (by omega), show ((n : Int)).toNat = n by omega]
  simp [rgD]
end
end Pf
end

section
set_option Elab.async false
set_option linter.all false
set_option maxRecDepth 20000
set_option maxHeartbeats 0
/-! F1: the rule ("pieces",). -/
namespace Pf
open PySem PySem.Spec PyProof.Rows L2
def pcD : D := .tup .any [.str (PySem.Str.ofString "pieces")]
def g1D : D := .tup .any [.int 0, .int 1, .int 1, .tup .any [.int 0]]
namespace LW
variable {k : Nat} {S : Store}
theorem oIx_pc {S : Store} : oIx pcD (.int 0) S = .ok (.str (PySem.Str.ofString "pieces")) S := by simp [pcD]
theorem ev_node_pieces : (Cs Pg (k + 1)).f i_is_node [pcD] S = .ok (.bl true) S := by
  rw [fe_is_node, runB_e _ _ _ _ _ (by rfl)]
  have e : ∀ S : Store, b_is_node (Cs Pg k) ([pcD].map some ++ List.replicate (2 - [pcD].length) none) S = .rt (.bl true) S := fun S => by kernel_rfl
  rw [e]
  simp
theorem ev_parts_pieces : (Cs Pg (k + 1)).f i_raw_parts [pcD] S = .ok (.ref S.length) (S ++ [.lst []]) := by
  rw [fe_raw_parts, runB_e _ _ _ _ _ (by rfl)]
  have hx : ∀ S, oIxF f_SPOTS (.str (PySem.Str.ofString "pieces")) S = .ok (.tup .any []) S := fun S => oIxF_e (by rfl)
  simp only [b_raw_parts, sRet_e, cNew_e, aComp_e, iE_e, c1_e, c2_e, cV_0, cD_e, List.map_cons, List.map_nil, List.length_cons, List.length_nil, Nat.reduceAdd, Nat.reduceSub, List.replicate, List.cons_append, List.nil_append, bind_ok, oIx_pc, hx, seqL_tup, wipe_cons, wipe_nil, List.set, compF, gd_nil, if_true]
  rw [oLst_e rfl (by simp)]
  simp only [sX_ok, fin_rt]
  exact gc_lst (Nat.le_refl _) get_last rfl
theorem ev_is_rule_pieces : (Cs Pg (k + 2)).f i_raw_is_rule [pcD] S = .ok (.bl true) S := by
  obtain ⟨m, hm⟩ := fuel_ge 2 (by omega)
  rw [fe_raw_is_rule, runB_e _ _ _ _ _ (by rfl)]
  simp only [b_raw_is_rule]
  have g2 : ∀ (x y : MO), (S ++ [x, y])[S.length]? = some x := fun x y => by simp
  rw [sSeq_nx (ρ1 := [some pcD, some (.ref S.length), some (.int 0), none, none, none]) (S1 := S ++ [.lst [.tup .any [pcD, .int 1]]]) (by
    simp only [sPar_e, aCons_e, aNil_e, cNew_e, aDisp_e, cN_e, cV_0, cD_e, List.map_cons, List.map_nil, List.length_cons, List.length_nil, Nat.reduceAdd, Nat.reduceSub, List.replicate, List.cons_append, List.nil_append, bind_ok, sL]
    rw [oTup_e _ (by simp)]
    simp only [bind_ok]
    rw [if_pos (by simp)]
    simp only [bind_ok]
    rw [oLst_e rfl (by simp)]
    simp only [bind_ok, sX_ok]
    rfl)]
  rw [sSeq_nx (ρ1 := [some pcD, some (.ref S.length), some (.int 1), some pcD, some (.int 1), none]) (S1 := S ++ [.lst [], .lst [], .lst []]) (by
    rw [sWhile_e, hm]
    rw [while_go (S1 := S ++ [.lst [.tup .any [pcD, .int 1]]]) (ρ2 := [some pcD, some (.ref S.length), some (.int 1), some pcD, some (.int 1), none]) (S2 := S ++ [.lst [], .lst [], .lst []]) (by
      have : oLen [.ref S.length] (S ++ [.lst [.tup .any [pcD, .int 1]]]) = .ok (.int 1) (S ++ [.lst [.tup .any [pcD, .int 1]]]) := oLen_ref get_last
      simp only [tV_e, c2_e, cN_e, aCons_e, aNil_e, cV_0, cV_s, cD_e, bind_ok, this, oGt_e]
      rfl) (by
      have hp : oPop (.ref S.length) (S ++ [.lst [.tup .any [pcD, .int 1]]]) = .ok (.tup .any [pcD, .int 1]) (S ++ [.lst []]) := by
        rw [oPop_e (ds := []) (d := .tup .any [pcD, .int 1]) (by simp), set_last]
      rw [sSeq_nx (ρ1 := [some pcD, some (.ref S.length), some (.int 0), some pcD, some (.int 1), none]) (S1 := S ++ [.lst []]) (by
        simp only [sSet_e, cM_e, cV_0, cV_s, bind_ok, lst_some (get_last (S := S)), if_true, aNil_e, m0_e, hp, sX_ok]
        rfl)]
      rw [sSeq_nx (ρ1 := [some pcD, some (.ref S.length), some (.int 1), some pcD, some (.int 1), none]) (S1 := S ++ [.lst []]) (by
        simp only [sSet_e, c2_e, cV_0, cV_s, cD_e, bind_ok, oAddA_e, sX_ok]
        rfl)]
      have hn := ev_node_pieces (k := k) (S := S ++ [.lst []])
      rw [sSeq_nx (ρ1 := [some pcD, some (.ref S.length), some (.int 1), some pcD, some (.int 1), none]) (S1 := S ++ [.lst []]) (by
        simp only [sIf_e, tOr_e, tNot_e, tV_e, c2_e, cCall_e, aCons_e, aNil_e, cV_0, cV_s, cD_e, bind_ok, ge_MOST_RULES, ge_MOST_DEEP, oGt_e, tvD_e, hn]
        rfl)]
      have hq : (Cs Pg (k + 1)).f i_raw_parts [pcD] (S ++ [.lst []]) = .ok (.ref (S.length + 1)) (S ++ [.lst [], .lst []]) := by
        rw [ev_parts_pieces]; simp
      have hs : seqL (.ref (S.length + 1)) (S ++ [.lst [], .lst []]) = .ok ([], [(S.length + 1, [])]) (S ++ [.lst [], .lst []]) := seqL_ref (by simp)
      have hg : gdOk [(S.length + 1, ([] : List D))] (S ++ [MO.lst [], MO.lst []]) := ⟨by simp, trivial⟩
      have hls : oLst [] (S ++ [.lst [], .lst []]) = .ok (.ref (S.length + 2)) (S ++ [.lst [], .lst [], .lst []]) := by
        rw [oLst_e rfl (by simp)]; simp
      have hx : oExtend (.ref S.length) (.ref (S.length + 2)) (S ++ [.lst [], .lst [], .lst []]) = .ok .non (S ++ [.lst [], .lst [], .lst []]) := by
        rw [oExtend_e (ds := []) (es := []) (by simp) (by simp) (by simp)]
        simp
      simp only [sDrop_e, cM_e, cV_0, cV_s, bind_ok, lst_some (get_last (S := S)), if_true, aCons_e, aNil_e, cNew_e, aComp_e, iE_e, cCall_e, hq, hs, wipe_cons, wipe_nil, List.set, compF, hg, hls, m1_e, hx, sX_ok])]
    have e2 : m + 1 = (m + 0) + 1 := rfl
    rw [while_end (S1 := S ++ [.lst [], .lst [], .lst []]) (by
      have : oLen [.ref S.length] (S ++ [.lst [], .lst [], .lst []]) = .ok (.int 0) (S ++ [.lst [], .lst [], .lst []]) := oLen_ref (ds := []) (by simp)
      simp only [tV_e, c2_e, cN_e, aCons_e, aNil_e, cV_0, cV_s, cD_e, bind_ok, this, oGt_e]
      rfl)])]
  simp only [sRet_e, cD_e, sX_ok, fin_rt]
  exact gc_junk rfl
theorem ev_check_pieces : (Cs Pg (k + 3)).f i_check_rule [pcD] S = .ok .non S := by
  rw [fe_check_rule, runB_e _ _ _ _ _ (by rfl)]
  simp [b_check_rule, ev_is_rule_pieces]
def ptD : D := .tup .own []
def enD : D := .tup .own [ptD, pcD]
theorem ev_nodes_pieces : (Cs Pg (k + 2)).f i_raw_nodes [pcD] S = .ok (.ref S.length) (S ++ [.lst [enD]]) := by
  obtain ⟨m, hm⟩ := fuel_ge 2 (by omega)
  rw [fe_raw_nodes, runB_e _ _ _ _ _ (by rfl)]
  simp only [b_raw_nodes]
  rw [sSeq_nx (ρ1 := [some pcD, some (.ref S.length), some (.ref (S.length + 1)), none, none, none, none]) (S1 := S ++ [.lst [], .lst [enD]]) (by
    have h1 : oLst [] S = .ok (.ref S.length) (S ++ [.lst []]) := oLst_e rfl (by simp)
    have h2 : oLst [enD] (S ++ [.lst []]) = .ok (.ref (S.length + 1)) (S ++ [.lst [], .lst [enD]]) := by rw [oLst_e rfl (by simp)]; simp
    have h3 : ∀ S, oTupO [] S = .ok ptD S := fun S => oTupO_e _ (by simp)
    have h4 : ∀ S, oTupO [ptD, pcD] S = .ok enD S := fun S => oTupO_e _ (by simp)
    simp only [sPar_e, aCons_e, aNil_e, cNew_e, aDisp_e, cN_e, cV_0, cD_e, List.map_cons, List.map_nil, List.length_cons, List.length_nil, Nat.reduceAdd, Nat.reduceSub, List.replicate, List.cons_append, List.nil_append, bind_ok, sL, h1, h3, h4, Nat.zero_le, Nat.reduceLeDiff, if_true, h2, sX_ok]
    rfl)]
  rw [sSeq_nx (ρ1 := [some pcD, some (.ref S.length), some (.ref (S.length + 1)), some ptD, some pcD, none, none]) (S1 := S ++ [.lst [enD], .lst [], .lst [], .lst []]) (by
    rw [sWhile_e, hm]
    rw [while_go (S1 := S ++ [.lst [], .lst [enD]]) (ρ2 := [some pcD, some (.ref S.length), some (.ref (S.length + 1)), some ptD, some pcD, none, none]) (S2 := S ++ [.lst [enD], .lst [], .lst [], .lst []]) (by
      have : oLen [.ref (S.length + 1)] (S ++ [.lst [], .lst [enD]]) = .ok (.int 1) (S ++ [.lst [], .lst [enD]]) := oLen_ref (ds := [enD]) (by simp)
      simp only [tV_e, c2_e, cN_e, aCons_e, aNil_e, cV_0, cV_s, cD_e, bind_ok, this, oGt_e]
      rfl) (by
      have hp : oPop (.ref (S.length + 1)) (S ++ [.lst [], .lst [enD]]) = .ok enD (S ++ [.lst [], .lst []]) := by
        rw [oPop_e (ds := []) (d := enD) (by simp)]
        simp
      have hsm1 : (lstOf (S ++ [.lst [], .lst [enD]]) (.ref (S.length + 1))).isSome = true := lst_some (ds := [enD]) (by simp)
      rw [sSeq_nx (ρ1 := [some pcD, some (.ref S.length), some (.ref (S.length + 1)), some ptD, some pcD, none, none]) (S1 := S ++ [.lst [], .lst []]) (by
        simp only [sSet_e, cM_e, cV_0, cV_s, bind_ok, hsm1, if_true, aNil_e, m0_e, hp, sX_ok]
        rfl)]
      have hsm2 : (lstOf (S ++ [.lst [], .lst []]) (.ref S.length)).isSome = true := lst_some (ds := []) (by simp)
      have hap : oAppend (.ref S.length) enD (S ++ [.lst [], .lst []]) = .ok .non (S ++ [.lst [enD], .lst []]) := by
        rw [oAppend_e (ds := []) (by simp) (by simp) rfl]
        simp
      have h4 : ∀ S, oTupO [ptD, pcD] S = .ok enD S := fun S => oTupO_e _ (by simp)
      rw [sSeq_nx (ρ1 := [some pcD, some (.ref S.length), some (.ref (S.length + 1)), some ptD, some pcD, none, none]) (S1 := S ++ [.lst [enD], .lst []]) (by
        simp only [sDrop_e, cM_e, cV_0, cV_s, bind_ok, hsm2, if_true, aCons_e, aNil_e, cN_e, h4, m1_e, hap, sX_ok])]
      have hq : (Cs Pg (k + 1)).f i_raw_parts [pcD] (S ++ [.lst [enD], .lst []]) = .ok (.ref (S.length + 2)) (S ++ [.lst [enD], .lst [], .lst []]) := by
        rw [ev_parts_pieces]; simp
      have hs : seqL (.ref (S.length + 2)) (S ++ [.lst [enD], .lst [], .lst []]) = .ok ([], [(S.length + 2, [])]) (S ++ [.lst [enD], .lst [], .lst []]) := seqL_ref (by simp)
      have hg : gdOk [(S.length + 2, ([] : List D))] (S ++ [MO.lst [enD], MO.lst [], MO.lst []]) := ⟨by simp, trivial⟩
      have hls : oLst [] (S ++ [.lst [enD], .lst [], .lst []]) = .ok (.ref (S.length + 3)) (S ++ [.lst [enD], .lst [], .lst [], .lst []]) := by
        rw [oLst_e rfl (by simp)]; simp
      have hx : oExtend (.ref (S.length + 1)) (.ref (S.length + 3)) (S ++ [.lst [enD], .lst [], .lst [], .lst []]) = .ok .non (S ++ [.lst [enD], .lst [], .lst [], .lst []]) := by
        rw [oExtend_e (ds := []) (es := []) (by simp) (by simp) (by simp)]
        simp
      have hsm3 : (lstOf (S ++ [.lst [enD], .lst []]) (.ref (S.length + 1))).isSome = true := lst_some (ds := []) (by simp)
      simp only [sDrop_e, cM_e, cV_0, cV_s, bind_ok, hsm3, if_true, aCons_e, aNil_e, cNew_e, aComp_e, iEnum_e, cCall_e, hq, hs, enumD, wipe_cons, wipe_nil, List.set, compF, hg, hls, m1_e, hx, sX_ok])]
    rw [while_end (S1 := S ++ [.lst [enD], .lst [], .lst [], .lst []]) (by
      have : oLen [.ref (S.length + 1)] (S ++ [.lst [enD], .lst [], .lst [], .lst []]) = .ok (.int 0) (S ++ [.lst [enD], .lst [], .lst [], .lst []]) := oLen_ref (ds := []) (by simp)
      simp only [tV_e, c2_e, cN_e, aCons_e, aNil_e, cV_0, cV_s, cD_e, bind_ok, this, oGt_e]
      rfl)])]
  simp only [sRet_e, cV_0, cV_s, sX_ok, fin_rt]
  exact gc_lst (Nat.le_refl _) (by simp) rfl
theorem ev_leaf_pieces : (Cs Pg (k + 1)).f i_leaf_form [pcD] S = .ok g1D S := by
  rw [fe_leaf_form, runB_e _ _ _ _ _ (by rfl)]
  have e : ∀ S : Store, b_leaf_form (Cs Pg k) ([pcD].map some ++ List.replicate (2 - [pcD].length) none) S = .rt g1D S := fun S => by kernel_rfl
  rw [e]
  exact gc_same rfl
theorem ev_form_by_pieces {n : Nat} (h : S[n]? = some (.lst [])) : (Cs Pg (k + 2)).f i_form_by [pcD, .ref n] S = .ok g1D S := by
  rw [fe_form_by, runB_e _ _ _ _ _ (by rfl)]
  have hl : oLen [.ref n] S = .ok (.int 0) S := oLen_ref h
  simp only [b_form_by]
  rw [sSeq_nx (ρ1 := [some pcD, some (.ref n), some (.str (PySem.Str.ofString "pieces"))]) (S1 := S) (by simp [oIx_pc])]
  rw [sSeq_rt (d := g1D) (S1 := S) (by simp [hl, ev_leaf_pieces])]
  simp only [fin_rt]
  exact gc_same rfl
theorem ev_forms_pieces : ∃ J, (Cs Pg (k + 3)).f i_raw_forms [pcD] S = .ok (.ref S.length) (S ++ (.dT [([], g1D)] :: J)) := by
  rw [fe_raw_forms, runB_e _ _ _ _ _ (by rfl)]
  simp only [b_raw_forms]
  rw [sSeq_nx (ρ1 := [some pcD, some (.ref S.length), none, none, none]) (S1 := S ++ [.dT []]) (by simp)]
  have hnd := ev_nodes_pieces (k := k) (S := S ++ [.dT []])
  have hx : ∀ S, oIxF f_SPOTS (.str (PySem.Str.ofString "pieces")) S = .ok (.tup .any []) S := fun S => oIxF_e (by rfl)
  have hls : ∀ T : Store, oLst [] T = .ok (.ref T.length) (T ++ [.lst []]) := fun T => oLst_e rfl (by simp)
  refine ⟨[.lst [enD], .lst []], ?_⟩
  have hfb := ev_form_by_pieces (k := k) (S := S ++ [.dT [], .lst [enD], .lst []]) (n := S.length + 2) (by simp)
  have hrg : rg1 0 (S ++ [.dT [], .lst [enD]]) = .ok ([], []) (S ++ [.dT [], .lst [enD]]) := by
    rw [rg1_e (by omega) (by omega)]; rfl
  have hput : oSetL (.ref S.length) ptD g1D (S ++ [.dT [], .lst [enD], .lst []]) = .ok () (S ++ [.dT [([], g1D)], .lst [enD], .lst []]) := by
    have h1 : (S ++ [MO.dT [], MO.lst [enD], MO.lst []])[S.length]? = some (.dT []) := by simp
    simp only [ptD, oSetL, oPutD, h1, keysD]
    rw [if_pos ⟨by rw [sL]; simp, rfl⟩]
    simp [putD]
  rw [sSeq_nx (ρ1 := [some pcD, some (.ref S.length), some ptD, some pcD, none]) (S1 := S ++ [.dT [([], g1D)], .lst [enD], .lst []]) (by
    have hnd' : (Cs Pg (k + 2)).f i_raw_nodes [pcD] (S ++ [.dT []]) = .ok (.ref (S.length + 1)) (S ++ [.dT [], .lst [enD]]) := by rw [hnd]; simp
    have hrv : aRev (cCall (Cs Pg (k + 2)) i_raw_nodes (aCons (cV 0) aNil)) [some pcD, some (.ref S.length), none, none, none] (S ++ [.dT []]) = .ok [enD] (S ++ [.dT [], .lst [enD]]) :=
      aRev_e (n := S.length + 1) (ds := [enD]) (by simp only [cCall_e, aCons_e, aNil_e, cV_0, bind_ok, hnd']) (by simp)
    simp only [sFor_e, iA_e, hrv, bind_ok, sX_ok, forF, gd_nil, if_true]
    have htg : gTupN 2 (gCons (gV 2) (gCons (gV 3) gNil)) enD [some pcD, some (.ref S.length), none, none, none] = some [some pcD, some (.ref S.length), some ptD, some pcD, none] := rfl
    simp only [htg]
    have hbody : (sSub oSetL (cV 1) (cV 2) (cCall (Cs Pg (k + 2)) i_form_by (aCons (cV 3) (aCons (cNew (aComp [4] (iR1 (cN oLen (aCons (c1 (oIxF f_SPOTS) (c2 oIx (cV 3) (cD (.int 0)))) aNil))) (gV 4) tYes (c2 oIx (cV 1) (c2 oAddA (cV 2) (cN oTupO (aCons (cV 4) aNil)))))) aNil))))
        [some pcD, some (.ref S.length), some ptD, some pcD, none] (S ++ [.dT [], .lst [enD]]) = .nx [some pcD, some (.ref S.length), some ptD, some pcD, none] (S ++ [.dT [([], g1D)], .lst [enD], .lst []]) := by
      have e3 : (S ++ [MO.dT [], MO.lst [enD]]).length = S.length + 2 := by simp
      have e4 : (S ++ [MO.dT [], MO.lst [enD]]) ++ [MO.lst []] = S ++ [.dT [], .lst [enD], .lst []] := by simp
      simp only [sSub_e, cCall_e, aCons_e, aNil_e, cV_0, cV_s, bind_ok, cNew_e, aComp_e, iR1_e, cN_e, c1_e, c2_e, cD_e, oIx_pc, hx, oLen_tup, List.length_nil, Int.natCast_zero, inD'_e, hrg, wipe_cons, wipe_nil, List.set, compF, gd_nil, if_true, hls, e3, e4, hfb, sX_ok, hput]
    rw [hbody])]
  simp only [sRet_e, cV_0, cV_s, sX_ok, fin_rt]
  have h1 : ¬ (S ++ [MO.dT [([], g1D)], MO.lst [enD], MO.lst []]).length ≤ S.length := by simp
  have h2 : ¬ (wfD S.length (.ref S.length) = true ∧ keepOk S (S ++ [MO.dT [([], g1D)], MO.lst [enD], MO.lst []])) := by
    rintro ⟨z, _⟩
    simp [wfD] at z
  have h4 : (S ++ [MO.dT [([], g1D)], MO.lst [enD], MO.lst []])[S.length]? = some (.dT [([], g1D)]) := by simp
  have h3 : isD (.ref S.length) = true := rfl
  simp only [gcR, h3, if_true, h1, if_false, h2, h4]
theorem ev_raw_form_pieces : (Cs Pg (k + 4)).f i_raw_form [pcD] S = .ok g1D S := by
  obtain ⟨J, e⟩ := ev_forms_pieces (k := k) (S := S)
  rw [fe_raw_form, runB_e _ _ _ _ _ (by rfl)]
  have hx : oIx (.ref S.length) ptD (S ++ (.dT [([], g1D)] :: J)) = .ok g1D (S ++ (.dT [([], g1D)] :: J)) := by
    have h1 : (S ++ (MO.dT [([], g1D)] :: J))[S.length]? = some (.dT [([], g1D)]) := by simp
    simp [oIx, itemsOf, h1, ptD, dgetO, keysD, valD]
  have ht : ∀ S, oTupO [] S = .ok ptD S := fun S => oTupO_e _ (by simp)
  simp only [b_raw_form, sRet_e, c2_e, cCall_e, aCons_e, aNil_e, cN_e, List.map_cons, List.map_nil, List.length_cons, List.length_nil, Nat.reduceAdd, Nat.reduceSub, List.replicate, List.append_nil, cV_0, bind_ok, e, ht, hx, sX_ok, fin_rt]
  exact gc_junk rfl
theorem ev_form_of_pieces : (Cs Pg (k + 5)).f i_form_of [pcD] S = .ok g1D S := by
  rw [fe_form_of, runB_e _ _ _ _ _ (by rfl)]
  simp [b_form_of, ev_check_pieces, ev_raw_form_pieces]
  exact gc_same rfl
theorem Fm_g1 : Fm g1D 0 1 1 (fun n => (n : Int)) := ⟨⟨.any, rfl⟩, ⟨by decide, fun n _ => by show ((n + 1 : Nat) : Int) = (n : Int) + 1; omega⟩, by decide, by decide⟩
end LW
end Pf
end

section
set_option Elab.async false
set_option linter.all false
set_option maxRecDepth 20000
set_option maxHeartbeats 0
set_option autoImplicit false
/-! E9: the law's own helpers (k76). -/
namespace Pf
open PySem PySem.Spec PyProof.Rows L2
theorem set_front {S X : Store} {p : Nat} {o o' : MO} (h : p < S.length) : (S.set p o ++ X).set p o' = S.set p o' ++ X := by
  rw [List.set_append_left _ _ (by simpa using h), List.set_set]
theorem set_mid {S J : Store} {p : Nat} {o B B' : MO} : (S.set p o ++ (B :: J)).set S.length B' = S.set p o ++ (B' :: J) := by
  rw [List.set_append_right _ _ (by simp)]
  simp
theorem get_mid {S J : Store} {p : Nat} {o B : MO} : (S.set p o ++ (B :: J))[S.length]? = some B := by
  rw [List.getElem?_append_right (by simp)]
  simp
theorem app_mid {S J : Store} {p : Nat} {o B L : MO} : (S.set p o ++ (B :: J)) ++ [L] = S.set p o ++ (B :: (J ++ [L])) := by simp
theorem set_id {S : Store} {p : Nat} {o : MO} (h : S[p]? = some o) : S.set p o = S := by
  refine List.ext_getElem? fun j => ?_
  rw [List.getElem?_set]
  split
  · rename_i e; subst e
    have := (List.getElem?_eq_some_iff.mp h).1
    first | exact h.symm | (rw [if_pos this]; exact h.symm)
  · rfl
/-- the tax on n, band by band -/
def dueS : List (Nat × Int) → Nat → Int
  | [], _ => 0
  | [(b, e)], n => max 0 ((n : Int) - b) * e
  | (b, e) :: (b2, e2) :: r, n => max 0 (min (n : Int) b2 - b) * e + dueS ((b2, e2) :: r) n
theorem dueS_low : ∀ (r : List (Nat × Int)) (b : Nat) (e : Int) (n : Nat), ((b, e) :: r).Pairwise (fun p q => p.1 < q.1) → n ≤ b → dueS ((b, e) :: r) n = 0
  | [], b, e, n, _, h => by
    show max 0 ((n : Int) - b) * e = 0
    rw [show max 0 ((n : Int) - b) = 0 by omega, Int.zero_mul]
  | (b2, e2) :: r, b, e, n, hp, h => by
    have h1 := List.pairwise_cons.mp hp
    have h2 : b < b2 := h1.1 (b2, e2) (by simp)
    show max 0 (min (n : Int) b2 - b) * e + dueS ((b2, e2) :: r) n = 0
    rw [dueS_low r b2 e2 n h1.2 (by omega), show max 0 (min (n : Int) b2 - b) = 0 by omega, Int.zero_mul]
    rfl
theorem bcnt_cons {p : Nat × Int} {r : List (Nat × Int)} {n : Nat} (h : p.1 ≤ n) : bcnt (p :: r) n = bcnt r n + 1 := by
  unfold bcnt
  rw [List.filter_cons, if_pos (by simpa using h), List.length_cons]
theorem bcnt_zero {b : Nat} {e : Int} {r : List (Nat × Int)} {n : Nat} (hp : ((b, e) :: r).Pairwise (fun p q => p.1 < q.1)) (h : n < b) : bcnt ((b, e) :: r) n = 0 := by
  unfold bcnt
  rw [List.length_eq_zero_iff, List.filter_eq_nil_iff]
  intro q hq
  have h1 := List.pairwise_cons.mp hp
  rcases List.mem_cons.mp hq with rfl | hq
  · simp; omega
  · have := h1.1 q hq
    simp
    have h3 : b < q.1 := this
    omega
theorem each_cons {p : Nat × Int} {r : List (Nat × Int)} {n : Nat} (h : p.1 ≤ n) : eachAt (p :: r) n = if bcnt r n = 0 then p.2 else eachAt r n := by
  unfold eachAt
  rw [bcnt_cons h]
  split
  · rename_i e; rw [e]; rfl
  · rename_i e
    obtain ⟨m, hm⟩ := Nat.exists_eq_succ_of_ne_zero e
    rw [hm]
    rfl
theorem dueS_step : ∀ (r : List (Nat × Int)) (b : Nat) (e : Int) (n : Nat), ((b, e) :: r).Pairwise (fun p q => p.1 < q.1) → b ≤ n → dueS ((b, e) :: r) (n + 1) = dueS ((b, e) :: r) n + eachAt ((b, e) :: r) n
  | [], b, e, n, _, h => by
    rw [each_cons (p := (b, e)) h, if_pos (by rfl)]
    show max 0 (((n + 1 : Nat) : Int) - b) * e = max 0 ((n : Int) - b) * e + e
    rw [show max 0 (((n + 1 : Nat) : Int) - b) = max 0 ((n : Int) - b) + 1 by omega, Int.add_mul, Int.one_mul]
  | (b2, e2) :: r, b, e, n, hp, h => by
    have h1 := List.pairwise_cons.mp hp
    have h2 : b < b2 := h1.1 (b2, e2) (by simp)
    rw [each_cons (p := (b, e)) h]
    show max 0 (min ((n + 1 : Nat) : Int) b2 - b) * e + dueS ((b2, e2) :: r) (n + 1) = max 0 (min (n : Int) b2 - b) * e + dueS ((b2, e2) :: r) n + _
    by_cases h3 : b2 ≤ n
    · rw [dueS_step r b2 e2 n h1.2 h3, if_neg (by rw [bcnt_cons (p := (b2, e2)) h3]; omega), show min ((n + 1 : Nat) : Int) b2 = min (n : Int) b2 by omega]
      omega
    · rw [dueS_low r b2 e2 n h1.2 (by omega), dueS_low r b2 e2 (n + 1) h1.2 (by omega), if_pos (bcnt_zero h1.2 (by omega)), show max 0 (min ((n + 1 : Nat) : Int) b2 - b) = max 0 (min (n : Int) b2 - b) + 1 by omega, Int.add_mul, Int.one_mul]
      show _ + e + 0 = _ + 0 + e
      omega
theorem dueS_tot {bs : List (Nat × Int)} (h : Bands bs) : ∀ n : Nat, dueS bs n = tot bs n := by
  obtain ⟨e, r, rfl⟩ := h.zero
  intro n
  induction n with
  | zero => exact dueS_low r 0 e 0 h.inc (Nat.le_refl _)
  | succ n ih =>
    rw [dueS_step r 0 e n h.inc (by omega), ih]
    rfl
namespace LW
variable {k : Nat} {S : Store} {c U p : Nat}
theorem ev_hand (ns : List Int) (hl : ns.length ≤ 63) (x : D) (hx : lstOf S x = some (ns.map D.int)) : ∃ X c p, HS c 0 (S ++ X) p ∧ S.length ≤ c ∧ S.length ≤ p ∧ (Cs Pg (k + 1)).f i__law_hand [x] S = .ok (.ref p) (S ++ X) := by
  obtain ⟨X, c, p, h1, h2, h3, h4⟩ := hand_ok (S := S) (a := 1361) (b := 853) (by omega) (by omega) ns hl x hx
  exact ⟨X, c, p, h1, h3, h4, h2⟩
theorem ev_draw (hU : U ≤ 1000000000) (h : HS c U S p) {n : Nat} {z : Int} (hz : z = n) (hn0 : 0 < n) (hn : n ≤ 1000000000) :
    ∃ v o, v < n ∧ HO c (U + 1) o ∧ (Cs Pg (k + 1)).f i__law_draw [.ref p, .int z] S = .ok (.int (v : Nat)) (S.set p o) := by
  subst hz
  exact draw_ok (A := 69621) (B := 48271) (M := 2147483629) (A' := 7919) (E := 40692) (M' := 2147483647) (F := 1009) (G := 69621) (H := 2003) (I := 40014) (M2 := 2147483563) (J := 16) (by decide) (by decide) (by decide) (by decide) (by decide) (by decide) (by decide) (by decide) (by decide) (by decide) (by decide) (by decide) hU h hn0 hn
theorem ev_any (hU : U ≤ 1000000000) (h : HS c U S p) {q : Nat} {ds : List D} (hq : S[q]? = some (.lst ds)) (hqp : q ≠ p) (h0 : 0 < ds.length) (h1 : ds.length ≤ 1000000) (hD : ∀ d ∈ ds, isD d = true) :
    ∃ d o, d ∈ ds ∧ HO c (U + 1) o ∧ (Cs Pg (k + 2)).f i__law_any [.ref p, .ref q] S = .ok d (S.set p o) := by
  obtain ⟨v, o, hv, ho, e⟩ := ev_draw (k := k) hU h rfl h0 (by omega)
  have hx : oIx (.ref q) (.int (v : Nat)) (S.set p o) = .ok ds[v] (S.set p o) := oIx_ref (by rw [List.getElem?_set_ne (Ne.symm hqp)]; exact hq) (by rw [atI_nat _ _ hv]; simp [hv])
  refine ⟨ds[v], o, List.getElem_mem hv, ho, ?_⟩
  rw [fe__law_any, runB_e _ _ _ _ _ (by rfl)]
  simp only [b__law_any, sRet_e, c2_e, cCall_e, aCons_e, aNil_e, cN_e, List.map_cons, List.map_nil, List.length_cons, List.length_nil, Nat.reduceAdd, Nat.reduceSub, List.replicate, List.cons_append, List.nil_append, List.append_nil, cV_0, cV_s, bind_ok, oLen_ref hq, e, hx, sX_ok, fin_rt]
  exact gc_set0 (hD _ (List.getElem_mem hv))
/-- a tax being drawn -/
structure PT (bs : List (Nat × Int)) (at_ i : Nat) : Prop where
  len : bs.length = i
  emp : i = 0 → at_ = 0
  zero : bs = [] ∨ ∃ e r, bs = (0, e) :: r
  inc : bs.Pairwise fun p q => p.1 < q.1
  below : ∀ p ∈ bs, p.1 < at_ ∧ (0 ≤ p.2 ∧ p.2 ≤ 99)
  far : at_ ≤ 40 * i
theorem PT.next {bs : List (Nat × Int)} {a i : Nat} (h : PT bs a i) {e : Int} (he : 0 ≤ e ∧ e ≤ 99) {v : Nat} (hv : v < 40) : PT (bs ++ [(a, e)]) (a + 1 + v) (i + 1) := by
  refine ⟨by simp [h.len], by omega, .inr ?_, ?_, fun p hp => ?_, by have := h.far; omega⟩
  · rcases h.zero with rfl | ⟨e0, r, rfl⟩
    · have : i = 0 := h.len.symm
      rw [h.emp this]
      exact ⟨e, [], rfl⟩
    · exact ⟨e0, r ++ [(a, e)], rfl⟩
  · rw [List.pairwise_append]
    refine ⟨h.inc, by simp, fun x hx y hy => ?_⟩
    simp at hy
    subst hy
    exact (h.below x hx).1
  · rcases List.mem_append.mp hp with hp | hp
    · have := h.below p hp
      exact ⟨by omega, this.2⟩
    · simp at hp
      subst hp
      exact ⟨by show a < a + 1 + v; omega, he⟩
theorem PT.tax {bs : List (Nat × Int)} {a i : Nat} (h : PT bs a i) (h0 : 0 < i) (h3 : i ≤ 3) : Tax bs := by
  have hz : ∃ e r, bs = (0, e) :: r := by
    rcases h.zero with rfl | z
    · have : i = 0 := h.len.symm
      omega
    · exact z
  have hf := h.far
  refine ⟨⟨by rw [h.len]; omega, hz, h.inc, fun p hp => ?_, fun p hp => ?_⟩, fun p hp => ?_⟩ <;> have := h.below p hp <;> omega
def L4 : List D := [.int 0, .int 5, .int 10, .int 25, .int 50, .int 99, .int 33]
theorem ev_law_tax (hU : U ≤ 900000000) (h : HS c U S p) : ∃ bs o, Tax bs ∧ HO c (U + 7) o ∧ (Cs Pg (k + 3)).f i__law_tax [.ref p] S = .ok (bD .hard bs) (S.set p o) := by
  have hlt := h.lt
  obtain ⟨o0, hp0, ho0⟩ := h.at_
  have hid := set_id hp0
  obtain ⟨v, o, hv, ho, ed⟩ := ev_draw (k := k + 1) (S := S ++ [MO.lst []]) (by omega) (h.app _) (n := 3) (z := 3) rfl (by omega) (by omega)
  have es : (S ++ [MO.lst []]).set p o = S.set p o ++ [MO.lst []] := by
    have := set_front (S := S) (X := [MO.lst []]) (o := o0) (o' := o) hlt
    rw [hid] at this
    exact this
  rw [es] at ed
  have hfor := forF_inv (g := []) (tg := gV 3) (b := (sSeq (sDrop (cM (m1 oAppend) (cV 1) (aCons (cN oTup (aCons (cV 2) (aCons (cCall (Cs Pg (k + 2)) i__law_any (aCons (cV 0) (aCons (cNew (aDisp (aCons (cD (.int 0)) (aCons (cD (.int 5)) (aCons (cD (.int 10)) (aCons (cD (.int 25)) (aCons (cD (.int 50)) (aCons (cD (.int 99)) (aCons (cD (.int 33)) aNil))))))))) aNil))) aNil))) aNil)))
    (sSet (gV 2) (c2 oAddA (c2 oAddA (cV 2) (cD (.int 1))) (cCall (Cs Pg (k + 2)) i__law_draw (aCons (cV 0) (aCons (cD (.int 40)) aNil)))))))
    (fun i ρ S' => ∃ o bs J a o3, S' = S.set p o ++ (.lst (bs.map bnD) :: J) ∧ HO c (U + 1 + 2 * i) o ∧ ρ = [some (.ref p), some (.ref S.length), some (.int (a : Nat)), o3] ∧ PT bs a i) (rgD 0 (v + 1)) 0 [some (.ref p), some (.ref S.length), some (.int 0), none] (S.set p o ++ [MO.lst []])
    ⟨o, [], [], 0, none, rfl, ho, rfl, ⟨rfl, fun _ => rfl, .inl rfl, List.Pairwise.nil, by simp, by omega⟩⟩
    (fun i d hi ρ S' hP => by
      obtain ⟨o, bs, J, a, o3, rfl, ho, rfl, hPT⟩ := hP
      refine ⟨trivial, ?_⟩
      have hir : i < v + 1 := by
        have := (List.getElem?_eq_some_iff.mp hi).1
        simpa using this
      rw [Nat.zero_add] at ho hPT ⊢
      have hT : HS c (U + 1 + 2 * i) (S.set p o ++ (.lst (bs.map bnD) :: J)) p := (h.set ho).app _
      obtain ⟨e, o1, he, ho1, ea⟩ := ev_any (k := k) (S := S.set p o ++ (.lst (bs.map bnD) :: (J ++ [.lst L4]))) (U := U + 1 + 2 * i) (by omega) ((h.set ho).app _) (q := (S.set p o ++ (.lst (bs.map bnD) :: J)).length) (ds := L4) (by rw [← app_mid]; exact get_last) (by simp; omega) (by decide) (by decide) (by simp [L4, isD])
      rw [set_front hlt] at ea
      have he' : ∃ z : Int, e = .int z ∧ (0 ≤ z ∧ z ≤ 99) := by
        simp [L4] at he
        rcases he with rfl | rfl | rfl | rfl | rfl | rfl | rfl <;> exact ⟨_, rfl, by decide, by decide⟩
      obtain ⟨z, rfl, hz⟩ := he'
      obtain ⟨v2, o2, hv2, ho2, ed2⟩ := ev_draw (k := k + 1) (S := S.set p o1 ++ (.lst ((bs ++ [(a, z)]).map bnD) :: (J ++ [.lst L4]))) (U := U + 1 + 2 * i + 1) (by omega) ((h.set ho1).app _) (n := 40) (z := 40) rfl (by omega) (by omega)
      rw [set_front hlt] at ed2
      refine ⟨_, rfl, [some (.ref p), some (.ref S.length), some (.int ((a + 1 + v2 : Nat) : Int)), some d], S.set p o2 ++ (.lst ((bs ++ [(a, z)]).map bnD) :: (J ++ [.lst L4])), ?_, o2, _, _, _, _, rfl, by rw [show U + 1 + 2 * (i + 1) = U + 1 + 2 * i + 1 + 1 by omega]; exact ho2, rfl, hPT.next hz hv2⟩
      have hl1 : lstOf (S.set p o ++ (.lst (bs.map bnD) :: J)) (.ref S.length) = some (bs.map bnD) := by simp only [lstOf, get_mid]
      have hls : oLst L4 (S.set p o ++ (.lst (bs.map bnD) :: J)) = .ok (.ref (S.set p o ++ (.lst (bs.map bnD) :: J)).length) (S.set p o ++ (.lst (bs.map bnD) :: (J ++ [.lst L4]))) := by
        rw [oLst_e rfl (by decide), app_mid]
      have hap : oAppend (.ref S.length) (.tup .any [.int (a : Nat), .int z]) (S.set p o1 ++ (.lst (bs.map bnD) :: (J ++ [.lst L4]))) = .ok .non (S.set p o1 ++ (.lst ((bs ++ [(a, z)]).map bnD) :: (J ++ [.lst L4]))) := by
        simp only [oAppend, get_mid]
        rw [if_pos ⟨by rw [List.length_map, hPT.len, sL]; omega, rfl⟩, set_mid, List.map_append]
        rfl
      have e1 : (a : Int) + 1 + (v2 : Int) = ((a + 1 + v2 : Nat) : Int) := by omega
      simp only [sSeq_e, sDrop_e, cM, cV_0, cV_s, List.set, bind_ok, hl1, Option.isSome_some, if_true, aCons_e, aNil_e, cN_e, cCall_e, cNew_e, aDisp_e, cD_e, List.length_cons, List.length_nil, sL]
      rw [if_pos (by omega)]
      simp only [bind_ok]
      rw [show ([.int 0, .int 5, .int 10, .int 25, .int 50, .int 99, .int 33] : List D) = L4 from rfl, hls]
      simp only [bind_ok, ea]
      rw [oTup_e _ (by simp)]
      simp only [bind_ok, m1, hap, sX_ok, sSet_e, c2_e, cV_0, cV_s, cD_e, oAddA_e, cCall_e, aCons_e, aNil_e, ed2, e1, gV_e, List.set])
    (fun _ _ _ => trivial)
  obtain ⟨ρ', S', hf1, o', bs, J, a, o3, rfl, ho', rfl, hPT⟩ := hfor
  rw [rgD_len, Nat.zero_add] at ho' hPT
  refine ⟨bs, o', hPT.tax (by omega) (by omega), ho'.mono (by omega), ?_⟩
  rw [fe__law_tax, runB_e _ _ _ _ _ (by rfl)]
  have h1 : (sPar (gPar [1, 2]) (aCons (cNew (aDisp aNil)) (aCons (cD (.int 0)) aNil))) ([D.ref p].map some ++ List.replicate (4 - [D.ref p].length) none) S = .nx [some (.ref p), some (.ref S.length), some (.int 0), none] (S ++ [MO.lst []]) := by
    simp only [sPar_e, aCons_e, aNil_e, cNew_e, aDisp_e, cD_e, bind_ok, List.length_nil, sL]
    rw [if_pos (by omega)]
    simp only [bind_ok]
    rw [oLst_e rfl (by simp)]
    simp only [bind_ok, sX_ok]
    rfl
  have hrg : rg1 (1 + (v : Int)) (S.set p o ++ [MO.lst []]) = .ok (rgD 0 (v + 1), []) (S.set p o ++ [MO.lst []]) := by
    rw [rg1_e (by omega) (by omega), show (1 + (v : Int)).toNat = v + 1 by omega]
  have ed' : (Cs Pg (k + 2)).f i__law_draw [.ref p, .int 3] (S ++ [MO.lst []]) = .ok (.int (v : Nat)) (S.set p o ++ [MO.lst []]) := ed
  simp only [b__law_tax]
  rw [sSeq_nx h1]
  rw [sSeq_nx (by
    simp only [sFor_e, iR1_e, c2_e, cD_e, cCall_e, aCons_e, aNil_e, cV_0, bind_ok, ed', oAddA_e, inD'_e, hrg, sX_ok]
    exact hf1)]
  have ht : oTupOf [.ref S.length] (S.set p o' ++ (.lst (bs.map bnD) :: J)) = .ok (.tup .hard (bs.map bnD)) (S.set p o' ++ (.lst (bs.map bnD) :: J)) := by
    simp only [oTupOf, lstOf, get_mid]
  simp only [sRet_e, cN_e, aCons_e, aNil_e, cV_0, cV_s, bind_ok, ht, sX_ok, fin_rt]
  have hwf : wfD S.length (.tup .hard (bs.map bnD)) = true := by
    have : ∀ l : List (Nat × Int), wfDs S.length (l.map bnD) = true := by
      intro l
      induction l with
      | nil => rfl
      | cons x r ih => simp only [List.map_cons, wfDs, ih, Bool.and_true]; rfl
    simp only [wfD, this]
  exact gc_set (ho'.wf h.ltc) hwf
/-! ### the own tax -/
theorem due_for {fl : TF} {bs : List (Nat × Int)} (hl : bs.length ≤ 1000) (he : ∀ p ∈ bs, -999 ≤ p.2 ∧ p.2 ≤ 999) {n : Nat} (hn : n < 4611686018427387904) : ∀ (suf pre : List (Nat × Int)), bs = pre ++ suf → ∀ (w : Int) (o3 o4 o5 o6 : Option D),
    ∃ o3' o4' o5' o6', forF [] (gTupN 2 (gCons (gV 3) (gCons (gTupN 2 (gCons (gV 4) (gCons (gV 5) gNil))) gNil))) (sSeq (sSet (gV 6) (cIf (tV (c2 oLt (c2 oAddA (cV 3) (cD (.int 1))) (cN oLen (aCons (cV 0) aNil)))) (c2 oIx (c2 oIx (cV 0) (c2 oAddA (cV 3) (cD (.int 1)))) (cD (.int 0))) (cV 1)))
    (sSet (gV 2) (c2 oAddA (cV 2) (c2 oMulA (cN oMax2 (aCons (cD (.int 0)) (aCons (c2 oSub (cN oMin2 (aCons (cV 1) (aCons (cV 6) aNil))) (cV 4)) aNil))) (cV 5))))) (enumD pre.length (suf.map bnD)) [some (bD fl bs), some (.int n), some (.int w), o3, o4, o5, o6] S
      = .nx [some (bD fl bs), some (.int n), some (.int (w + dueS suf n)), o3', o4', o5', o6'] S
  | [], pre, hb, w, o3, o4, o5, o6 => by
    refine ⟨o3, o4, o5, o6, ?_⟩
    simp [enumD, forF, dueS]
  | (b, e) :: suf, pre, hb, w, o3, o4, o5, o6 => by
    have hlen : oLen [bD fl bs] S = .ok (.int bs.length) S := by simp [bD]
    have hbl : bs.length = pre.length + (suf.length + 1) := by rw [hb]; simp
    have hee : Sm e := by
      have := he (b, e) (by rw [hb]; simp)
      exact sm_abs (by omega)
    have e1 : (pre.length : Int) + 1 = ((pre.length + 1 : Nat) : Int) := by omega
    cases suf with
    | nil =>
      have hmul : oMulA (.int (max 0 ((n : Int) - b))) (.int e) S = .ok (.int (max 0 ((n : Int) - b) * e)) S := oMulA_e (sm_abs (by omega)) hee
      have ht : ¬ ((pre.length + 1 : Nat) : Int) < bs.length := by simp at hbl; omega
      obtain ⟨p3, p4, p5, p6, ih⟩ := due_for hl he hn [] (pre ++ [(b, e)]) (by rw [hb]; simp) (w + max 0 ((n : Int) - b) * e) (some (.int pre.length)) (some (.int b)) (some (.int e)) (some (.int n))
      refine ⟨p3, p4, p5, p6, ?_⟩
      rw [show (pre ++ [(b, e)]).length = pre.length + 1 by simp] at ih
      have e3 : w + max 0 ((n : Int) - b) * e + dueS [] n = w + dueS [(b, e)] n := by show _ + 0 = w + max 0 ((n : Int) - b) * e; omega
      rw [e3] at ih
      rw [← ih]
      simp only [List.map_cons, List.map_nil, enumD, forF, gd_nil, if_true, bnD, gTupN, List.length_cons, List.length_nil, Nat.reduceAdd, gCons_e, gNil_e, gV_e, Option.bind_some, List.set, sSeq_e, sSet_e, cIf_e, tV_e, c2_e, cV_0, cV_s, cD_e, cN_e, aCons_e, aNil_e, bind_ok, oAddA_e, e1, hlen, oLt_e, ht, decide_false, tvD_e, Bool.false_eq_true, if_false, sX_ok, oMin2_e, Int.min_self, oSub_e, oMax2_e, hmul]
    | cons q suf =>
      obtain ⟨b2, e2⟩ := q
      have hmul : oMulA (.int (max 0 (min (n : Int) b2 - b))) (.int e) S = .ok (.int (max 0 (min (n : Int) b2 - b) * e)) S := oMulA_e (sm_abs (by omega)) hee
      have ht : ((pre.length + 1 : Nat) : Int) < bs.length := by simp at hbl; omega
      have hx : oIx (bD fl bs) (.int ((pre.length + 1 : Nat) : Int)) S = .ok (bnD (b2, e2)) S := bD_ix (by rw [hb, List.getElem?_append_right (by omega)]; simp)
      have hx0 : oIx (bnD (b2, e2)) (.int 0) S = .ok (.int b2) S := by simp [bnD]
      obtain ⟨p3, p4, p5, p6, ih⟩ := due_for hl he hn ((b2, e2) :: suf) (pre ++ [(b, e)]) (by rw [hb]; simp) (w + max 0 (min (n : Int) b2 - b) * e) (some (.int pre.length)) (some (.int b)) (some (.int e)) (some (.int b2))
      refine ⟨p3, p4, p5, p6, ?_⟩
      rw [show (pre ++ [(b, e)]).length = pre.length + 1 by simp] at ih
      have e3 : w + max 0 (min (n : Int) b2 - b) * e + dueS ((b2, e2) :: suf) n = w + dueS ((b, e) :: (b2, e2) :: suf) n := by show _ = w + (max 0 (min (n : Int) b2 - b) * e + dueS ((b2, e2) :: suf) n); omega
      rw [e3] at ih
      rw [← ih]
      have eb : ∀ (i : Nat) (x : Nat × Int) (l : List (Nat × Int)), enumD i ((x :: l).map bnD) = .tup .any [.int (i : Nat), .tup .any [.int x.1, .int x.2]] :: enumD (i + 1) (l.map bnD) := fun _ _ _ => rfl
      rw [eb]
      simp only [forF, gd_nil, if_true, gTupN, List.length_cons, List.length_nil, Nat.reduceAdd, gCons_e, gNil_e, gV_e, Option.bind_some, List.set, sSeq_e, sSet_e, cIf_e, tV_e, c2_e, cV_0, cV_s, cD_e, cN_e, aCons_e, aNil_e, bind_ok, oAddA_e, e1, hlen, oLt_e, ht, decide_true, tvD_e, hx, hx0, sX_ok, oMin2_e, oSub_e, oMax2_e, hmul]
theorem ev_due {fl : TF} {bs : List (Nat × Int)} (h : Bands bs) {n : Nat} (hn : n < 4611686018427387904) : (Cs Pg (k + 1)).f i__law_due [bD fl bs, .int n] S = .ok (.int (tx bs n)) S := by
  obtain ⟨o3, o4, o5, o6, hf⟩ := due_for (S := S) (fl := fl) (by have := h.len; omega) h.each hn bs [] rfl 0 none none none none
  rw [Int.zero_add, dueS_tot h, show ([] : List (Nat × Int)).length = 0 from rfl] at hf
  rw [fe__law_due, runB_e _ _ _ _ _ (by rfl)]
  have hit : iEnum (cV 0) [some (bD fl bs), some (.int n), some (.int 0), none, none, none, none] S = .ok (enumD 0 (bs.map bnD), []) S := by simp [iEnum, bD]
  simp only [b__law_due]
  rw [sSeq_nx (ρ1 := [some (bD fl bs), some (.int n), some (.int 0), none, none, none, none]) (S1 := S) (by simp)]
  rw [sSeq_nx (by
    simp only [sFor_e, hit, sX_ok]
    exact hf)]
  simp only [sRet_e, c2_e, cV_0, cV_s, cD_e, bind_ok, oDiv_e (show (0 : Int) < 100 by omega) (sm_abs (show (100 : Int).natAbs < 4611686018427387904 by decide)), sX_ok, fin_rt, gc_int]
  rfl
end LW
end Pf
end

section
set_option Elab.async false
set_option linter.all false
set_option maxRecDepth 20000
set_option maxHeartbeats 0
set_option autoImplicit false
/-! F5: nets, the least gross, the set of nets (k76). -/
namespace Pf
open PySem PySem.Spec PyProof.Rows L2 LW
theorem net_mono {bs : List (Nat × Int)} (h : Tax bs) (n : Nat) : net bs n ≤ net bs (n + 1) ∧ net bs (n + 1) ≤ net bs n + 1 := by
  have := tx_mono h n
  unfold net
  omega
theorem net_0 (bs : List (Nat × Int)) : net bs 0 = 0 := by
  unfold net tx tot
  simp
theorem net_bd {bs : List (Nat × Int)} (h : Tax bs) (n : Nat) : 0 ≤ net bs n ∧ net bs n ≤ n := by
  have := tx_bd h n
  unfold net
  omega
open Classical in
/-- the numbers that f takes -/
noncomputable def img (f : Nat → Int) (v : Nat) : Bool := decide (∃ n, f n = v)
theorem img_iff {f : Nat → Int} {v : Nat} : img f v = true ↔ ∃ n, f n = v := by
  unfold img
  exact @decide_eq_true_iff _ (Classical.propDecidable _)
namespace LW
variable {k : Nat} {S : Store} {d : D} {b r : Nat} {s : Int} {f : Nat → Int} {fl : TF} {bs : List (Nat × Int)}
theorem img_per (hq : M.Qp f b r s) (hm : ∀ n, f n ≤ f (n + 1)) (h0 : 0 ≤ f b) (hs : 0 < s) : Per (img f) (f b).toNat s.toNat := by
  refine ⟨by omega, fun v hv => ?_⟩
  obtain ⟨B, hB⟩ := Int.eq_ofNat_of_zero_le h0
  obtain ⟨t, ht⟩ := Int.eq_ofNat_of_zero_le (show 0 ≤ s by omega)
  rw [hB] at hv
  rw [ht]
  simp only [Int.toNat_natCast] at hv ⊢
  have key : (∃ n, f n = ((v + t : Nat) : Int)) ↔ ∃ n, f n = (v : Int) := by
    constructor
    · rintro ⟨m, hm'⟩
      by_cases hc : b + r ≤ m
      · have e := hq.2 (m - r) (by omega)
        rw [show m - r + r = m by omega] at e
        exact ⟨m - r, by omega⟩
      · have h1 : f m ≤ f (b + r) := mono_le hm (by omega)
        have h2 := hq.2 b (Nat.le_refl _)
        exact ⟨b, by omega⟩
    · rintro ⟨m, hm'⟩
      by_cases hc : b ≤ m
      · have e := hq.2 m hc
        exact ⟨m + r, by omega⟩
      · have h1 : f m ≤ f b := mono_le hm (by omega)
        have h2 := hq.2 b (Nat.le_refl _)
        exact ⟨b + r, by omega⟩
  cases h1 : img f v with
  | true => exact img_iff.mpr (key.mpr (img_iff.mp h1))
  | false =>
    cases h2 : img f (v + t) with
    | false => rfl
    | true =>
      rw [img_iff.mpr (key.mp (img_iff.mp h2))] at h1
      cases h1
/-- the gross of a net: the net again exactly if it is one -/
theorem gross_img (hm : ∀ n, f n ≤ f (n + 1)) {v n : Nat} (h1 : (v : Int) ≤ f n) (h2 : ∀ m, m < n → f m < v) : decide (f n = (v : Int)) = img f v := by
  cases h3 : img f v with
  | true =>
    obtain ⟨m, hm'⟩ := img_iff.mp h3
    have : n ≤ m := by
      rcases Nat.lt_or_ge m n with z | z
      · have := h2 m z; omega
      · exact z
    have : f n ≤ f m := mono_le hm this
    exact decide_eq_true (by omega)
  | false =>
    refine decide_eq_false fun e => ?_
    rw [img_iff.mpr ⟨n, e⟩] at h3
    cases h3
theorem ev_gross_for (h : Tax bs) {B : Nat} {N : Nat} (hN : (B : Int) ≤ net bs N) (hN2 : N ≤ 4000000000000000000) :
    ∃ n, n ≤ N ∧ (B : Int) ≤ net bs n ∧ (∀ m, m < n → net bs m < B) ∧ ∀ (k : Nat) (S : Store) (fl : TF), (Cs Pg (k + 8)).f i_gross_for [bD fl bs, .int B] S = .ok (.int (n : Nat)) S := by
  obtain ⟨b, r, s, hF, _, _, _, _, hs, _⟩ := Fm_net h
  obtain ⟨n, g1, g2, g3, _⟩ := ev_raw_gross (k := 4) (S := []) hF hs (fun n => (net_mono h n).1) (net_0 bs) (B := (B : Int)) (by omega) hN hN2
  refine ⟨n, g1, g2, g3, fun k S fl => ?_⟩
  obtain ⟨n', h1, h2, h3, h4⟩ := ev_raw_gross (k := k + 4) (S := S) hF hs (fun n => (net_mono h n).1) (net_0 bs) (B := (B : Int)) (by omega) hN hN2
  have e : n' = n := by
    rcases Nat.lt_trichotomy n n' with z | z | z
    · have := h3 n z; omega
    · exact z.symm
    · have := g3 n' z; omega
  subst e
  rw [fe_gross_for, runB_e _ _ _ _ _ (by rfl)]
  simp only [b_gross_for, sSeq_e, sDrop_e, sX_ok, sRet_e, cCall_e, aCons_e, aNil_e, List.map_cons, List.map_nil, List.length_cons, List.length_nil, Nat.reduceAdd, Nat.reduceSub, List.replicate, List.append_nil, cV_0, cV_s, bind_ok, ev_check_tax h, ev_check_number, ev_raw_net h, h4, fin_rt, gc_int]
theorem ev_net_set (h : Tax bs) : (∃ b' r', PL (img (net bs)) b' r' ∧ LS (img (net bs)) = tD b' r' (img (net bs)) ∧ b' + r' ≤ 5000) ∧ ∀ (k : Nat) (S : Store) (fl : TF), (Cs Pg (k + 8)).f i_net_set [bD fl bs] S = .ok (LS (img (net bs))) S := by
  obtain ⟨b, r, s, hF, hb, _, hr0, hr, hs, hs2⟩ := Fm_net h
  have hb2 : (lastB bs).1 ≤ 200 := h.bands.far _ h.bands.last_mem
  have hm : ∀ n, net bs n ≤ net bs (n + 1) := fun n => (net_mono h n).1
  have hnb := net_bd h b
  have hp := img_per hF.qp hm hnb.1 hs
  have hw : (net bs b).toNat + s.toNat ≤ 5000 := by omega
  obtain ⟨b', r', h1, h2, h3, h4⟩ := LS_at hp
  refine ⟨⟨b', r', h1, h2, by omega⟩, fun k S fl => ?_⟩
  have hD : isD (LS (img (net bs))) = true := by rw [h2]; exact tD_isD _ _ _
  have eb : ((net bs b).toNat : Int) = net bs b := by omega
  have es : (s.toNat : Int) = s := by omega
  have hms := ev_made_set' (k := k + 2 + 2) (S := S) hp hw (li := li_net_set_0) (caps := [LF (net bs)]) (fun v hv => by
    have hN : (v : Int) ≤ net bs (b + v * r) := by
      have e := hF.qp.mul v b (Nat.le_refl _)
      have : (v : Int) * 1 ≤ v * s := Int.mul_le_mul_of_nonneg_left (by omega) (by omega)
      omega
    have hvr : v * r ≤ 5000 * 100 := Nat.mul_le_mul (by omega) hr
    obtain ⟨n, g1, g2, g3, g4⟩ := ev_raw_gross (k := k + 2) (S := S) hF hs hm (net_0 bs) (B := (v : Int)) (by omega) hN (by omega)
    rw [le_net_set_0 _ _ _ _ (by simp [isDs, hF.isD]) rfl (by rw [lp_net_set_0]; rfl)]
    unfold lamStart; rw [lN_net_set_0]
    simp only [lc_net_set_0, c2_e, cCall_e, aCons_e, aNil_e, List.map_cons, List.map_nil, List.cons_append, List.nil_append, cV_0, cV_s, bind_ok, g4, ev_price hF (show n < 4611686018427387904 by omega), oEq_int, gross_img hm g2 g3]
    rfl)
  rw [eb, es] at hms
  obtain ⟨h0, _, h2'⟩ := ix_form (S := S) hF
  have hpr := ev_price (k := k + 6) (S := S) hF (show b < 4611686018427387904 by omega)
  rw [fe_net_set, runB_e _ _ _ _ _ (by rfl)]
  simp only [b_net_set, sSeq_e, sDrop_e, sSet_e, sX_ok, sRet_e, cCall_e, cCallL_e, aCons_e, aNil_e, c2_e, List.map_cons, List.map_nil, List.length_cons, List.length_nil, Nat.reduceAdd, Nat.reduceSub, List.replicate, List.cons_append, List.nil_append, cV_0, cV_s, cD_e, bind_ok, ev_check_tax h, ev_raw_net h, gV_e, List.set, h0, h2', hpr, capsOf_cons, capsOf_nil, slot_0, slot_s, Option.map_some]
  rw [if_pos (by simp [isDs, hF.isD])]
  rw [hms, noX_ok hD]
  simp only [sX_ok, fin_rt]
  exact gc_same hD
end LW
end Pf
end

section
set_option Elab.async false
set_option linter.all false
set_option maxRecDepth 20000
set_option maxHeartbeats 0
set_option autoImplicit false
/-! F6: _law_are_nets_right (k76). -/
namespace Pf
open PySem PySem.Spec PyProof.Rows L2 LW
theorem inD_ints (v : Int) (xs : List Int) : inD (.int v) (xs.map D.int) = decide (v ∈ xs) := by
  unfold inD
  rw [List.any_map]
  induction xs with
  | nil => rfl
  | cons x r ih =>
    rw [List.any_cons, ih]
    simp only [Function.comp_apply, eqD_int, List.mem_cons]
    by_cases h1 : x = v
    · simp [h1]
    · have : ¬ v = x := fun e => h1 e.symm
      simp [h1, this]
theorem okDs_ints (n : Nat) (xs : List Int) : okDs n (xs.map D.int) = true := by
  induction xs with
  | nil => cases n <;> rfl
  | cons x r ih => cases n <;> simpa [okDs, okD] using ih
theorem oIn_ints {S : Store} {n : Nat} {xs : List Int} (v : Int) (h : S[n]? = some (.lst (xs.map D.int))) : oIn (.int v) (.ref n) S = .ok (.bl (decide (v ∈ xs))) S := by
  have h1 : okD 50 (.int v) = true := rfl
  simp only [oIn, itemsOf, h, inD_ints, h1, okDs_ints, Bool.and_self, if_true]
theorem oNe_str {S : Store} {x : PySem.Str} (hx : PyData.strOk x = true) : oNe (.str x) (.str x) S = .ok (.bl false) S := by
  have h1 : eqD (.str x) (.str x) = true := by simp [eqD, toPy, PyData.eqv]
  have h2 : okD 60 (.str x) = true := hx
  have h3 : drf S (.str x) = .str x := rfl
  simp only [oNe, h3, h2, h1, Bool.and_self, if_true]
  first | rfl | simp
theorem max_net {bs : List (Nat × Int)} (h : Tax bs) (N : Nat) : maxL ((List.range (N + 1)).map (net bs)) = net bs N := by
  have h1 : maxL ((List.range (N + 1)).map (net bs)) ∈ (List.range (N + 1)).map (net bs) := maxL_mem (by simp)
  obtain ⟨m, hm, e⟩ := List.mem_map.mp h1
  have h2 : net bs m ≤ net bs N := mono_le (fun n => (net_mono h n).1) (by have := List.mem_range.mp hm; omega)
  have h3 : net bs N ≤ maxL ((List.range (N + 1)).map (net bs)) := maxL_ge (List.mem_map.mpr ⟨N, by simp, rfl⟩)
  omega
end Pf
end

section
set_option Elab.async false
set_option linter.all false
set_option maxRecDepth 20000
set_option maxHeartbeats 0
set_option autoImplicit false
/-! F7: _law_are_nets_right is so (k76). -/
namespace Pf
open PySem PySem.Spec PyProof.Rows L2 LW
namespace LW
variable {k : Nat} {S : Store} {c U p : Nat} {fl : TF} {bs : List (Nat × Int)}
/-- the own nets -/
def NL (bs : List (Nat × Int)) : List D := ((List.range 600).map (net bs)).map D.int
theorem NL_row (bs : List (Nat × Int)) : NL bs = row 600 (net bs) := by simp [NL, row, Function.comp_def]
theorem nets_ix {n : Nat} {q : Nat} {T : Store} (hq : T[q]? = some (.lst (NL bs))) (h : n < 600) : oIx (.ref q) (.int (n : Int)) T = .ok (.int (net bs n)) T := by
  refine oIx_ref hq ?_
  rw [NL, atI_nat _ _ (by simpa using h)]
  simp [h]
theorem nets_max (ht : Tax bs) {q : Nat} {T : Store} (hq : T[q]? = some (.lst (NL bs))) : oK kMax [.ref q] T = .ok (.int (net bs 599)) T := by
  have := max_net ht 599
  have e : intsOf (NL bs) = some ((List.range 600).map (net bs)) := by
    rw [NL, List.map_map]
    exact intsOf_map (net bs) (List.range 600)
  simp [oK, lstOf, hq, kMax, e, this]
theorem ev_nets_right (hU : U ≤ 900000000) (h : HS c U S p) (ht : Tax bs) : ∃ o, HO c (U + 4) o ∧ (Cs Pg (k + 9)).f i__law_are_nets_right [.ref p, bD fl bs] S = .ok (.bl true) (S.set p o) := by
  have hlt := h.lt
  obtain ⟨o0, hp0, ho0⟩ := h.at_
  have hid := set_id hp0
  have h599 := net_bd ht 599
  obtain ⟨M, hM⟩ := Int.eq_ofNat_of_zero_le h599.1
  have hM2 : M ≤ 599 := by omega
  -- the loop
  have hfor := forF_inv (g := []) (tg := gV 3) (b := (sSeq (sSet (gV 4) (cCall (Cs Pg (k + 8)) i__law_draw (aCons (cV 0) (aCons (c2 oAddA (cN (oK kMax) (aCons (cV 2) aNil)) (cD (.int 1))) aNil))))
    (sSeq (sSet (gV 5) (cIxL (aComp [7] (iR1 (cD (.int 600))) (gV 7) (tV (c2 oGe (c2 oIx (cV 2) (cV 7)) (cV 4))) (cV 7)) (cD (.int 0))))
    (sIf (tV (c2 oNe (cCall (Cs Pg (k + 8)) i_gross_for (aCons (cV 1) (aCons (cV 4) aNil))) (cV 5))) (sRet (cD (.bl false))) sNx))))
    (fun i ρ S' => ∃ o o3 o4 o5, S' = S.set p o ++ [.lst (NL bs)] ∧ HO c (U + i) o ∧ ρ = [some (.ref p), some (bD fl bs), some (.ref S.length), o3, o4, o5, none, none, none]) ((List.range 4).map fun (m : Nat) => D.int (m : Int)) 0 [some (.ref p), some (bD fl bs), some (.ref S.length), none, none, none, none, none, none] (S ++ [.lst (NL bs)])
    ⟨o0, none, none, none, by rw [hid], ho0, rfl⟩
    (fun i d hi ρ S' hP => by
      obtain ⟨o, o3, o4, o5, rfl, ho, rfl⟩ := hP
      refine ⟨trivial, ?_⟩
      have hir : i < 4 := by
        have := (List.getElem?_eq_some_iff.mp hi).1
        simpa using this
      rw [Nat.zero_add] at ho
      have hq : (S.set p o ++ [MO.lst (NL bs)])[S.length]? = some (.lst (NL bs)) := get_mid
      obtain ⟨v, o', hv, ho', ed⟩ := ev_draw (k := k + 7) (S := S.set p o ++ [MO.lst (NL bs)]) (U := U + i) (by omega) ((h.set ho).app _) (n := M + 1) (z := net bs 599 + 1) (by omega) (by omega) (by omega)
      rw [set_front hlt] at ed
      have hq' : (S.set p o' ++ [MO.lst (NL bs)])[S.length]? = some (.lst (NL bs)) := get_mid
      obtain ⟨n, g1, g2, g3, g4⟩ := ev_gross_for ht (B := v) (N := 599) (by omega) (by omega)
      obtain ⟨rr, hr⟩ := filter_first (p := fun n => decide ((v : Int) ≤ net bs n)) (N := 600) (show n < 600 by omega) (decide_eq_true g2) (fun j hj => decide_eq_false (by have := g3 j hj; omega))
      have h600 : rg1 600 (S.set p o' ++ [MO.lst (NL bs)]) = .ok ((List.range 600).map fun (m : Nat) => D.int (m : Int), []) (S.set p o' ++ [MO.lst (NL bs)]) := rgN 600 (by omega)
      have hcomp : compF [] (gV 7) (tV (c2 oGe (c2 oIx (cV 2) (cV 7)) (cV 4))) (cV 7) [some (.ref p), some (bD fl bs), some (.ref S.length), some d, some (.int (v : Nat)), o5, none, none, none] ((List.range 600).map fun (m : Nat) => D.int (m : Int)) [] (S.set p o' ++ [MO.lst (NL bs)]) = .ok (((List.range 600).filter fun n => decide ((v : Int) ≤ net bs n)).map fun (m : Nat) => D.int (m : Int)) (S.set p o' ++ [MO.lst (NL bs)]) :=
        compF_filR (gd_nil _) _ _ _ _ (by simp) (fun n hn => ⟨_, rfl, by
          have hn' : n < 600 := by simpa using hn
          simp only [tV_e, c2_e, cV_0, cV_s, List.set, bind_ok, nets_ix hq' hn', oGe_e, tvD_e], fun _ => rfl⟩)
      have hat : atI (((List.range 600).filter fun n => decide ((v : Int) ≤ net bs n)).map fun (m : Nat) => D.int (m : Int)) 0 = some (.int (n : Nat)) := by
        rw [hr]
        exact atI_nat _ 0 (by simp)
      refine ⟨_, rfl, [some (.ref p), some (bD fl bs), some (.ref S.length), some d, some (.int (v : Nat)), some (.int (n : Nat)), none, none, none], S.set p o' ++ [MO.lst (NL bs)], ?_, o', _, _, _, rfl, by rw [Nat.zero_add, ← Nat.add_assoc]; exact ho', rfl⟩
      simp only [List.set, sSeq_e, sSet_e, cCall_e, aCons_e, aNil_e, cN_e, c2_e, cV_0, cV_s, cD_e, bind_ok, nets_max ht hq, oAddA_e, ed, sX_ok, gV_e, cIxL, aComp_e, iR1_e, inD'_e, h600, wipe_cons, wipe_nil, hcomp, hat, sIf_e, tV_e, g4 k, oNe_int, decide_true, Bool.not_true, tvD_e, Bool.false_eq_true, if_false, sNx_e])
    (fun _ _ _ => trivial)
  obtain ⟨ρ', S', hf1, o', o3, o4, o5, rfl, ho', rfl⟩ := hfor
  refine ⟨o', by simpa using ho', ?_⟩
  have hq : ∀ o, (S.set p o ++ [MO.lst (NL bs)])[S.length]? = some (.lst (NL bs)) := fun o => get_mid
  rw [fe__law_are_nets_right, runB_e _ _ _ _ _ (by rfl)]
  simp only [b__law_are_nets_right]
  have h600 : rg1 600 S = .ok ((List.range 600).map fun (m : Nat) => D.int (m : Int), []) S := rgN 600 (by omega)
  have hcomp : compF [] (gV 7) tYes (c2 oSub (cV 7) (cCall (Cs Pg (k + 8)) i__law_due (aCons (cV 1) (aCons (cV 7) aNil)))) [some (.ref p), some (bD fl bs), none, none, none, none, none, none, none] ((List.range 600).map fun (m : Nat) => D.int (m : Int)) [] S = .ok (NL bs) S := by
    rw [NL, List.map_map]
    exact compF_ran (gd_nil _) _ _ (by omega) (fun n hn => ⟨_, rfl, by
      have hd := ev_due (k := k + 7) (S := S) (fl := fl) ht.bands (n := n) (by omega)
      simp only [c2_e, cCall_e, aCons_e, aNil_e, cV_0, cV_s, List.set, bind_ok, hd, oSub_e]
      rfl⟩)
  have hND : isDs (NL bs) = true := by rw [NL_row]; exact row_isDs 600 (net bs)
  rw [sSeq_nx (ρ1 := [some (.ref p), some (bD fl bs), some (.ref S.length), none, none, none, none, none, none]) (S1 := S ++ [.lst (NL bs)]) (by
    simp only [sSet_e, cNew_e, aComp_e, iR1_e, cD_e, List.map_cons, List.map_nil, List.length_cons, List.length_nil, Nat.reduceAdd, Nat.reduceSub, List.replicate, List.cons_append, List.nil_append, bind_ok, inD'_e, h600, wipe_cons, wipe_nil, List.set, hcomp]
    rw [oLst_e hND (by rw [NL_row]; simp)]
    simp only [sX_ok, gV_e, List.set])]
  have h4 : rg1 4 (S ++ [MO.lst (NL bs)]) = .ok ((List.range 4).map fun (m : Nat) => D.int (m : Int), []) (S ++ [MO.lst (NL bs)]) := rgN 4 (by omega)
  rw [sSeq_nx (by
    simp only [sFor_e, iR1_e, cD_e, bind_ok, inD'_e, h4, sX_ok]
    exact hf1)]
  -- the set
  obtain ⟨⟨b', r', hPL, hLS, hw⟩, hns⟩ := ev_net_set ht
  obtain ⟨x, hx, hxo⟩ := repr_set (g := img (net bs)) hw
  have hrep : ∀ T, oRepr [tD b' r' (img (net bs))] T = .ok (.str x) T := fun T => by simp only [oRepr, hx]
  have hls := fun T => ev_least_set (k := k + 3) (S := T) hPL.per hw
  rw [hLS] at hls
  have hns' := fun T => hns k T fl
  rw [hLS] at hns'
  rw [sSeq_nx (ρ1 := [some (.ref p), some (bD fl bs), some (.ref S.length), o3, o4, o5, some (tD b' r' (img (net bs))), none, none]) (S1 := S.set p o' ++ [.lst (NL bs)]) (by
    simp only [sSet_e, cCall_e, aCons_e, aNil_e, cV_0, cV_s, bind_ok, hns', sX_ok, gV_e, List.set])]
  rw [sSeq_nx (ρ1 := [some (.ref p), some (bD fl bs), some (.ref S.length), o3, o4, o5, some (tD b' r' (img (net bs))), none, none]) (S1 := S.set p o' ++ [.lst (NL bs)]) (by
    simp only [sIf_e, tV_e, c2_e, cN_e, cCall_e, aCons_e, aNil_e, cV_0, cV_s, bind_ok, hls, hrep, oNe_str hxo, tvD_e, Bool.false_eq_true, if_false, sX_ok, sNx_e])]
  have hrM : rg1 (net bs 599) (S.set p o' ++ [MO.lst (NL bs)]) = .ok ((List.range M).map fun (m : Nat) => D.int (m : Int), []) (S.set p o' ++ [MO.lst (NL bs)]) := by
    rw [hM]
    exact rgN M (by omega)
  have hmono : ∀ n, net bs n ≤ net bs (n + 1) := fun n => (net_mono ht n).1
  have hk : compF [] (gV 8) tYes (c2 oEq (cCall (Cs Pg (k + 8)) i_has (aCons (cV 6) (aCons (cV 8) aNil))) (c2 oIn (cV 8) (cV 2))) [some (.ref p), some (bD fl bs), some (.ref S.length), o3, o4, o5, some (tD b' r' (img (net bs))), none, none] ((List.range M).map fun (m : Nat) => D.int (m : Int)) [] (S.set p o' ++ [MO.lst (NL bs)]) = .ok ((List.range M).map fun _ => .bl true) (S.set p o' ++ [MO.lst (NL bs)]) :=
    compF_ran (gd_nil _) _ (fun _ => .bl true) (by omega) (fun v hv => ⟨_, rfl, by
      have hh := ev_has (k := k + 3) (S := S.set p o' ++ [MO.lst (NL bs)]) hPL.per hw (n := v) (by omega)
      have hi := oIn_ints (S := S.set p o' ++ [MO.lst (NL bs)]) (xs := (List.range 600).map (net bs)) (v : Int) (hq o')
      have he : (img (net bs) v == decide ((v : Int) ∈ (List.range 600).map (net bs))) = true := by
        have key : img (net bs) v = decide ((v : Int) ∈ (List.range 600).map (net bs)) := by
          cases h1 : img (net bs) v with
          | true =>
            obtain ⟨n, hn⟩ := img_iff.mp h1
            refine (decide_eq_true ?_).symm
            refine List.mem_map.mpr ⟨n, ?_, hn⟩
            rw [List.mem_range]
            rcases Nat.lt_or_ge n 600 with z | z
            · exact z
            · have : net bs 599 ≤ net bs n := mono_le hmono (by omega)
              omega
          | false =>
            refine (decide_eq_false fun z => ?_).symm
            obtain ⟨n, _, hn⟩ := List.mem_map.mp z
            rw [img_iff.mpr ⟨n, hn⟩] at h1
            cases h1
        rw [key]
        simp
      simp only [c2_e, cCall_e, aCons_e, aNil_e, cV_0, cV_s, List.set, bind_ok, hh, hi, oEq_bl, he]⟩)
  have ha : (List.range M).all (fun _ => true) = true := by simp
  simp only [sRet_e, cK_e, aComp_e, iR1_e, cN_e, aCons_e, aNil_e, cV_0, cV_s, bind_ok, nets_max ht (hq o'), inD'_e, hrM, wipe_cons, wipe_nil, List.set, hk, kAll_map (fun _ => true), ha, sX_ok, fin_rt]
  exact gc_set (ho'.wf h.ltc) rfl
end LW
end Pf
end

section
set_option Elab.async false
set_option linter.all false
set_option maxRecDepth 20000
set_option maxHeartbeats 0
set_option autoImplicit false
/-! F8: errors told (k76). -/
namespace Pf
open PySem PySem.Spec PyProof.Rows L2
@[simp] theorem oNe_bl {S : Store} (a b : Bool) : oNe (.bl a) (.bl b) S = .ok (.bl (!(a == b))) S := by
  simp [oNe, drf, okD, eqD_bl]
theorem oCount_bls {S : Store} {n : Nat} {xs : List Bool} (h : S[n]? = some (.lst (xs.map D.bl))) : oCount (.ref n) (.bl true) S = .ok (.int (xs.countP id : Nat)) S := by
  have e : (xs.map D.bl).countP (fun d => eqD d (.bl true)) = xs.countP id := by
    rw [List.countP_map]
    congr 1
    funext x
    simp [eqD_bl]
  simp [oCount, lstOf, h, okD, okDs_bls, e]
theorem oIndex_bls {S : Store} {n m : Nat} {xs : List Bool} (h : S[n]? = some (.lst (xs.map D.bl))) (hm : xs.findIdx? (· == true) = some m) : oIndex (.ref n) (.bl true) S = .ok (.int (m : Nat)) S := by
  simp only [oIndex, lstOf, h, okD, okDs_bls, Bool.and_self, if_true, findD_tru, hm, Option.map_some, Nat.add_zero]
@[simp] theorem cMA_ref (o oT : D → List D → Store → R D) (a : Ex) (as : Ar) {ρ : Env} {S S1 : Store} {n : Nat} {ds : List D} (h : a ρ S = .ok (.ref n) S1) (hn : S1[n]? = some (.lst ds)) : cMA o oT a as ρ S = (as ρ S1).bind fun ys S2 => o (.ref n) ys S2 := by
  simp [cMA, h, lstOf, hn]
namespace LW
variable {k : Nat} {S : Store} {c U p : Nat}
theorem sub1 : subC CT0 (PySem.Str.ofString "NoTax") (PySem.Str.ofString "PriceError") = some true ∧ subC CT0 (PySem.Str.ofString "NoTax") (PySem.Str.ofString "NoTax") = some true ∧ subC CT0 (PySem.Str.ofString "NoTax") (PySem.Str.ofString "NoNumber") = some false ∧ plainX (PySem.Str.ofString "NoTax") = true := by
  refine ⟨?_, ?_, ?_, ?_⟩ <;> kernel_rfl
theorem sub2 : subC CT0 (PySem.Str.ofString "NoNumber") (PySem.Str.ofString "PriceError") = some true ∧ subC CT0 (PySem.Str.ofString "NoNumber") (PySem.Str.ofString "NoTax") = some false ∧ subC CT0 (PySem.Str.ofString "NoNumber") (PySem.Str.ofString "NoNumber") = some true ∧ plainX (PySem.Str.ofString "NoNumber") = true := by
  refine ⟨?_, ?_, ?_, ?_⟩ <;> kernel_rfl
theorem ev_word {li : LamI} {caps : List D} {cl : PySem.Str} {a b : Bool} {w : PySem.Str} {o : MO} {X : Store} (hr : (Cs Pg k).l li caps [] S = .exc cl (S.set p o ++ X)) (ho : wfO S.length o = true)
    (h1 : subC CT0 cl (PySem.Str.ofString "PriceError") = some true) (h2 : subC CT0 cl (PySem.Str.ofString "NoTax") = some a) (h3 : subC CT0 cl (PySem.Str.ofString "NoNumber") = some b) (h4 : plainX cl = true)
    (hw : (a = true ∧ b = false ∧ w = PySem.Str.ofString "tax") ∨ (a = false ∧ b = true ∧ w = PySem.Str.ofString "number")) :
    (Cs Pg (k + 1)).f i__law_word [.clo li caps] S = .ok (.str w) (S.set p o) := by
  have hcnt : [a, b].countP id = 1 := by rcases hw with ⟨rfl, rfl, _⟩ | ⟨rfl, rfl, _⟩ <;> rfl
  have hlst : ∀ T : Store, oLst [.bl a, .bl b] T = .ok (.ref T.length) (T ++ [.lst ([a, b].map D.bl)]) := fun T => oLst_e rfl (by simp)
  have hg : ∀ T : Store, (T ++ [MO.lst ([a, b].map D.bl)])[T.length]? = some (.lst ([a, b].map D.bl)) := fun T => get_last
  obtain ⟨m, hm, hat⟩ : ∃ m : Nat, [a, b].findIdx? (· == true) = some m ∧ atI [D.str (PySem.Str.ofString "tax"), D.str (PySem.Str.ofString "number")] (m : Int) = some (.str w) := by
    rcases hw with ⟨rfl, rfl, rfl⟩ | ⟨rfl, rfl, rfl⟩
    · exact ⟨0, rfl, rfl⟩
    · exact ⟨1, rfl, rfl⟩
  rw [fe__law_word, runB_e _ _ _ _ _ (by rfl)]
  have hb : (sDrop (cCallV (Cs Pg k) 0 aNil)) [some (D.clo li caps), none, none] S = .ex cl [some (D.clo li caps), none, none] (S.set p o ++ X) := by
    simp [hr]
  have hpe : ((plainE [some (D.clo li caps), none, none]).set 1 (some (.exn cl)) : Env) = [none, some (.exn cl), none] := rfl
  have hsu : (sSeq (sSet (gV 2) (cNew (aDisp (aCons (c1 (oIsE CT0 (PySem.Str.ofString "NoTax")) (cV 1)) (aCons (c1 (oIsE CT0 (PySem.Str.ofString "NoNumber")) (cV 1)) aNil)))))
    (sRet (cIf (tV (c2 oEq (cMA (m1 oCount) (m1 oCountT) (cV 2) (aCons (cD (.bl true)) aNil)) (cD (.int 1)))) (cIxL (aDisp (aCons (cD (.str (PySem.Str.ofString "tax"))) (aCons (cD (.str (PySem.Str.ofString "number"))) aNil))) (cMA (m1 oIndex) (m1 oIndexT) (cV 2) (aCons (cD (.bl true)) aNil))) (cD (.str (PySem.Str.ofString "other"))))))
      [none, some (.exn cl), none] (S.set p o ++ X) = .rt (.str w) (S.set p o ++ X ++ [.lst ([a, b].map D.bl)]) := by
    rw [sSeq_nx (ρ1 := [none, some (.exn cl), some (.ref (S.set p o ++ X).length)]) (S1 := S.set p o ++ X ++ [.lst ([a, b].map D.bl)]) (by
      simp only [sSet_e, cNew_e, aDisp_e, aCons_e, aNil_e, c1_e, cV_0, cV_s, bind_ok, oIsE, h2, h3, List.length_cons, List.length_nil, sL]
      rw [if_pos (by omega)]
      simp only [bind_ok, hlst, sX_ok, gV_e, List.set])]
    have hv : cV 2 [none, some (.exn cl), some (.ref (S.set p o ++ X).length)] (S.set p o ++ X ++ [.lst ([a, b].map D.bl)]) = .ok (.ref (S.set p o ++ X).length) (S.set p o ++ X ++ [.lst ([a, b].map D.bl)]) := rfl
    have hc := cMA_ref (m1 oCount) (m1 oCountT) (cV 2) (aCons (cD (.bl true)) aNil) hv (hg _)
    have hi := cMA_ref (m1 oIndex) (m1 oIndexT) (cV 2) (aCons (cD (.bl true)) aNil) hv (hg _)
    simp only [sRet_e, cIf_e, tV_e, c2_e, hc, aCons_e, aNil_e, cD_e, bind_ok, m1, oCount_bls (hg _), hcnt, oEq_int, tvD_e]
    rw [if_pos (by decide)]
    simp only [cIxL, aDisp_e, aCons_e, aNil_e, cD_e, bind_ok, List.length_cons, List.length_nil, sL]
    rw [if_pos (by omega)]
    simp only [bind_ok, hi, aCons_e, aNil_e, cD_e, m1, oIndex_bls (hg _) hm, hat, sX_ok]
  have htry : sTry CT0 (sDrop (cCallV (Cs Pg k) 0 aNil)) (PySem.Str.ofString "PriceError") 1 (sSeq (sSet (gV 2) (cNew (aDisp (aCons (c1 (oIsE CT0 (PySem.Str.ofString "NoTax")) (cV 1)) (aCons (c1 (oIsE CT0 (PySem.Str.ofString "NoNumber")) (cV 1)) aNil)))))
    (sRet (cIf (tV (c2 oEq (cMA (m1 oCount) (m1 oCountT) (cV 2) (aCons (cD (.bl true)) aNil)) (cD (.int 1)))) (cIxL (aDisp (aCons (cD (.str (PySem.Str.ofString "tax"))) (aCons (cD (.str (PySem.Str.ofString "number"))) aNil))) (cMA (m1 oIndex) (m1 oIndexT) (cV 2) (aCons (cD (.bl true)) aNil))) (cD (.str (PySem.Str.ofString "other")))))) [some (D.clo li caps), none, none] S = .rt (.str w) (S.set p o ++ X ++ [.lst ([a, b].map D.bl)]) := by
    simp only [sTry, hb, h1, h4, if_true, hpe, hsu, sufR]
    rfl
  have he : (List.map some [D.clo li caps] ++ List.replicate (3 - [D.clo li caps].length) none : Env) = [some (D.clo li caps), none, none] := rfl
  rw [he]
  simp only [b__law_word]
  rw [sSeq_rt htry]
  simp only [fin_rt]
  rw [List.append_assoc]
  exact gc_set ho rfl
theorem ev_bands1 {x : Int} {y : D} {t : Bool} (hy : ∀ S, (Cs Pg (k + 2)).f i_is_within [y, .int (0 - 999), .int 999] S = .ok (.bl t) S) (hx : 0 ≤ x ∧ x ≤ 200) : (Cs Pg (k + 3)).f i_are_bands [.tup .any [.tup .any [.int x, y]]] S = .ok (.bl (t && decide (x = 0))) S := by
  have hz1 : ∀ S, (Cs Pg (k + 2)).f i_is_sized [.tup .any [.tup .any [.int x, y]], .int 1, .int 12] S = .ok (.bl true) S := fun S => by rw [ev_is_sized (k := k + 1)]; rfl
  have hz2 : ∀ S, (Cs Pg (k + 2)).f i_is_sized [.tup .any [.int x, y], .int 2, .int 2] S = .ok (.bl true) S := fun S => by rw [ev_is_sized (k := k + 1)]; rfl
  have hk1 : compF [] (gV 1) tYes (cCall (Cs Pg (k + 2)) i_is_sized (aCons (cV 1) (aCons (cD (.int 2)) (aCons (cD (.int 2)) aNil)))) [some (.tup .any [.tup .any [.int x, y]]), none, none] [.tup .any [.int x, y]] [] S = .ok [.bl true] S :=
    compF_map (gd_nil _) (fun _ => .bl true) _ _ (by rw [sL]; simp) (fun d hd => ⟨_, rfl, by
      obtain rfl : d = .tup .any [.int x, y] := by simpa using hd
      simp only [cCall_e, aCons_e, aNil_e, cV_0, cV_s, List.set, cD_e, bind_ok, hz2]⟩)
  have hx' : decide ((0 : Int) ≤ x ∧ x ≤ 200) = true := decide_eq_true hx
  have hk2 : compF [] (gV 1) tYes (cAnd (cCall (Cs Pg (k + 2)) i_is_within (aCons (c2 oIx (cV 1) (cD (.int 0))) (aCons (cD (.int 0)) (aCons (cD g_MOST_FROM) aNil)))) (cCall (Cs Pg (k + 2)) i_is_within (aCons (c2 oIx (cV 1) (cD (.int 1))) (aCons (c2 oSub (cD (.int 0)) (cD g_MOST_EACH_bands)) (aCons (cD g_MOST_EACH_bands) aNil))))) [some (.tup .any [.tup .any [.int x, y]]), none, none] [.tup .any [.int x, y]] [] S = .ok [.bl t] S :=
    compF_map (gd_nil _) (fun _ => .bl t) _ _ (by rw [sL]; simp) (fun d hd => ⟨_, rfl, by
      obtain rfl : d = .tup .any [.int x, y] := by simpa using hd
      simp only [cAnd_e, cCall_e, aCons_e, aNil_e, c2_e, cV_0, cV_s, List.set, cD_e, bind_ok, oIx_0, oIx_1, ge_MOST_FROM, ge_MOST_EACH_bands, oSub_e, ev_is_within, hx', tvD_e, if_true, hy]⟩)
  have hzip : iZip (cV 0) (cCut (cV 0) (pSome (cD (.int 1))) pNo) [some (.tup .any [.tup .any [.int x, y]]), none, none] S = .ok ([], []) S := by
    simp [iZip, oCut, cutD_1, isTp, zipD]
  rw [fe_are_bands, runB_e _ _ _ _ _ (by rfl)]
  simp only [b_are_bands]
  rw [sSeq_nx (ρ1 := [some (.tup .any [.tup .any [.int x, y]]), none, none]) (S1 := S) (by
    simp only [sIf_e, tOr_e, tNot_e, tV_e, cCall_e, aCons_e, aNil_e, cK_e, aComp_e, iE_e, List.map_cons, List.map_nil, List.length_cons, List.length_nil, Nat.reduceAdd, Nat.reduceSub, List.replicate, List.cons_append, List.nil_append, cV_0, cV_s, cD_e, bind_ok, ge_MOST_BANDS, hz1, tvD_e, Bool.not_true, Bool.false_eq_true, if_false, seqL_tup, wipe_cons, wipe_nil, List.set, hk1]
    simp [kAll, blsOf])]
  cases t with
  | false =>
    rw [sSeq_rt (d := .bl false) (S1 := S) (by
      simp only [sIf_e, tNot_e, tV_e, cK_e, aComp_e, iE_e, cV_0, cV_s, cD_e, bind_ok, seqL_tup, wipe_cons, wipe_nil, List.set, hk2]
      simp [kAll, blsOf])]
    simp
  | true =>
    rw [sSeq_nx (ρ1 := [some (.tup .any [.tup .any [.int x, y]]), none, none]) (S1 := S) (by
      simp only [sIf_e, tNot_e, tV_e, cK_e, aComp_e, iE_e, cV_0, cV_s, cD_e, bind_ok, seqL_tup, wipe_cons, wipe_nil, List.set, hk2]
      simp [kAll, blsOf])]
    simp only [sRet_e, cAnd_e, c2_e, cV_0, cV_s, cD_e, bind_ok, oIx_0, oEq_int, tvD_e, cK_e, aComp_e, wipe_cons, wipe_nil, List.set, hzip, compF, gd_nil, if_true]
    by_cases hc : x = 0
    · simp [hc, kAll, blsOf]
    · simp [hc]
/-- what is no tax -/
def BadTax (S : Store) (d : D) : Prop := d = .non ∨ d = .tup .any [] ∨ (∃ n ds, d = .ref n ∧ S[n]? = some (.lst ds)) ∨ d = .tup .any [.tup .any [.int 1, .int 1]] ∨ (∃ e : Int, d = .tup .any [.tup .any [.int 0, .int e]] ∧ (e = 100 ∨ e = -1)) ∨ d = .tup .any [.tup .any [.int 0, .bl true]]
theorem ev_check_tax_bad {d : D} (h : BadTax S d) : (Cs Pg (k + 4)).f i_check_tax [d] S = .exc (PySem.Str.ofString "NoTax") S := by
  have key : (Cs Pg (k + 3)).f i_are_bands [d] S = .ok (.bl false) S ∨ ∃ e : Int, d = .tup .any [.tup .any [.int 0, .int e]] ∧ (e = 100 ∨ e = -1) := by
    rcases h with rfl | rfl | ⟨n, ds, rfl, hn⟩ | rfl | ⟨e, rfl, he⟩ | rfl
    · left
      rw [fe_are_bands, runB_e _ _ _ _ _ (by rfl)]
      simp [b_are_bands, ev_is_sized_non]
    · left
      rw [fe_are_bands, runB_e _ _ _ _ _ (by rfl)]
      simp [b_are_bands, ev_is_sized]
    · left
      rw [fe_are_bands, runB_e _ _ _ _ _ (by rfl)]
      simp [b_are_bands, ev_is_sized_ref hn]
    · left
      exact ev_bands1 (x := 1) (t := true) (fun S => by rw [ev_is_within]; rfl) (by omega)
    · exact .inr ⟨e, rfl, he⟩
    · left
      exact ev_bands1 (x := 0) (t := false) (fun S => ev_is_within_bl true _ _) (by omega)
  rw [fe_check_tax, runB_e _ _ _ _ _ (by rfl)]
  rcases key with e | ⟨e, rfl, he⟩
  · simp [b_check_tax, e]
  · have hb : Bands [(0, e)] := ⟨by simp, ⟨_, _, rfl⟩, by simp, by simp, by intro p hp; simp at hp; subst hp; simp; omega⟩
    have e1 := ev_are_bands (k := k) (S := S) (fl := .any) hb
    have e2 : (D.tup .any [.tup .any [.int 0, .int e]]) = bD .any [(0, e)] := rfl
    have e3 : ¬ (0 ≤ e ∧ e ≤ 99) := by omega
    rw [e2]
    simp only [b_check_tax, sIf_e, tOr_e, tNot_e, tV_e, cCall_e, cK_e, aComp_e, iE_e, List.map_cons, List.map_nil, List.length_cons, List.length_nil, Nat.reduceAdd, Nat.reduceSub, List.replicate, List.cons_append, List.nil_append, cV_0, cV_s, cD_e, bind_ok, aCons_e, aNil_e, e1, tvD_e, Bool.not_true, Bool.false_eq_true, if_false, wipe_cons, wipe_nil, List.set]
    simp only [bD, seqL_tup, bind_ok]
    rw [compF_mapR (gd_nil _) bnD (fun _ => .bl false) [(0, e)] (by simp) (fun p hp => ⟨_, rfl, by
      simp at hp
      subst hp
      simp [ev_is_within, e3]⟩)]
    simp [kAll, blsOf]
theorem ev_check_number_bad {d : D} (h : d = .int (-1) ∨ d = .non ∨ d = .bl true) : (Cs Pg (k + 3)).f i_check_number [d] S = .exc (PySem.Str.ofString "NoNumber") S := by
  rw [fe_check_number, runB_e _ _ _ _ _ (by rfl)]
  rcases h with rfl | rfl | rfl
  · simp [b_check_number, ev_is_number]
  · simp [b_check_number, ev_is_number_non]
  · simp [b_check_number, ev_is_number_bl]
variable {fl : TF} {a : List (Nat × Int)}
theorem ev_tax_form_bad {d : D} (h : BadTax S d) : (Cs Pg (k + 5)).f i_tax_form [d] S = .exc (PySem.Str.ofString "NoTax") S := by
  rw [fe_tax_form, runB_e _ _ _ _ _ (by rfl)]
  simp [b_tax_form, ev_check_tax_bad h]
theorem ev_net_set_bad {d : D} (h : BadTax S d) : (Cs Pg (k + 5)).f i_net_set [d] S = .exc (PySem.Str.ofString "NoTax") S := by
  rw [fe_net_set, runB_e _ _ _ _ _ (by rfl)]
  simp [b_net_set, ev_check_tax_bad h]
theorem ev_gross_bad (ha : Tax a) {d : D} (h : d = .int (-1) ∨ d = .non ∨ d = .bl true) : (Cs Pg (k + 5)).f i_gross_for [bD fl a, d] S = .exc (PySem.Str.ofString "NoNumber") S := by
  rw [fe_gross_for, runB_e _ _ _ _ _ (by rfl)]
  simp [b_gross_for, ev_check_tax ha, ev_check_number_bad h]
theorem set_app {S X : Store} {p : Nat} {o : MO} (h : p < S.length) : (S ++ X).set p o = S.set p o ++ X := List.set_append_left _ _ h
theorem ev_w0 (hU : U ≤ 1000000000) (h : HS c U S p) : ∃ o, HO c (U + 1) o ∧ (Cs Pg (k + 7)).f i__law_word [.clo li_law_0 [.ref p]] S = .ok (.str (PySem.Str.ofString "tax")) (S.set p o) := by
  obtain ⟨d, o, hd, ho, e⟩ := ev_any (k := k + 3) (S := S ++ [.lst [.tup .any [.int 0, .int 1]], .lst [.non, .tup .any [], .ref S.length, .tup .any [.tup .any [.int 1, .int 1]], .tup .any [.tup .any [.int 0, .int 100]], .tup .any [.tup .any [.int 0, .int (-1)]]]]) hU (h.app _) (q := S.length + 1) (ds := [.non, .tup .any [], .ref S.length, .tup .any [.tup .any [.int 1, .int 1]], .tup .any [.tup .any [.int 0, .int 100]], .tup .any [.tup .any [.int 0, .int (-1)]]]) (by simp) (by have := h.lt; omega) (by simp) (by simp) (by simp [isD, isDs])
  rw [set_app h.lt] at e
  have hbad : BadTax (S.set p o ++ [.lst [.tup .any [.int 0, .int 1]], .lst [.non, .tup .any [], .ref S.length, .tup .any [.tup .any [.int 1, .int 1]], .tup .any [.tup .any [.int 0, .int 100]], .tup .any [.tup .any [.int 0, .int (-1)]]]]) d := by
    simp only [List.mem_cons, List.not_mem_nil, or_false] at hd
    rcases hd with rfl | rfl | rfl | rfl | rfl | rfl
    · exact .inl rfl
    · exact .inr (.inl rfl)
    · exact .inr (.inr (.inl ⟨_, _, rfl, get_mid⟩))
    · exact .inr (.inr (.inr (.inl rfl)))
    · exact .inr (.inr (.inr (.inr (.inl ⟨_, rfl, .inl rfl⟩))))
    · exact .inr (.inr (.inr (.inr (.inl ⟨_, rfl, .inr rfl⟩))))
  have e2 := ev_tax_form_bad (k := k) hbad
  refine ⟨o, ho, ev_word (X := [.lst [.tup .any [.int 0, .int 1]], .lst [.non, .tup .any [], .ref S.length, .tup .any [.tup .any [.int 1, .int 1]], .tup .any [.tup .any [.int 0, .int 100]], .tup .any [.tup .any [.int 0, .int (-1)]]]]) ?_ (ho.wf h.ltc) sub1.1 sub1.2.1 sub1.2.2.1 sub1.2.2.2 (.inl ⟨rfl, rfl, rfl⟩)⟩
  rw [le_law_0 _ _ _ _ (by simp [isDs, isD]) rfl (by rw [lp_law_0]; rfl)]
  unfold lamStart; rw [lN_law_0]
  have hl1 : oLst [.tup .any [.int 0, .int 1]] S = .ok (.ref S.length) (S ++ [.lst [.tup .any [.int 0, .int 1]]]) := oLst_e rfl (by simp)
  have hl2 : oLst [.non, .tup .any [], .ref S.length, .tup .any [.tup .any [.int 1, .int 1]], .tup .any [.tup .any [.int 0, .int 100]], .tup .any [.tup .any [.int 0, .int (-1)]]] (S ++ [.lst [.tup .any [.int 0, .int 1]]]) = .ok (.ref (S.length + 1)) (S ++ [.lst [.tup .any [.int 0, .int 1]], .lst [.non, .tup .any [], .ref S.length, .tup .any [.tup .any [.int 1, .int 1]], .tup .any [.tup .any [.int 0, .int 100]], .tup .any [.tup .any [.int 0, .int (-1)]]]]) := by
    rw [oLst_e (by simp [isDs, isD]) (by simp)]
    simp
  have hs : ∀ (xs : List D) (T : Store), xs.length ≤ 2 → oTup xs T = .ok (.tup .any xs) T := fun xs T hx => oTup_e _ (by omega)
  have hs0 : ∀ T : Store, oTup [] T = .ok (.tup .any []) T := fun T => hs _ T (by simp)
  have hs1 : ∀ (x : D) (T : Store), oTup [x] T = .ok (.tup .any [x]) T := fun x T => hs _ T (by simp)
  have hs2 : ∀ (x y : D) (T : Store), oTup [x, y] T = .ok (.tup .any [x, y]) T := fun x y T => hs _ T (by simp)
  have c1 : (1 : Nat) ≤ 16777216 := by omega
  have c6 : (6 : Nat) ≤ 16777216 := by omega
  simp only [lc_law_0, cCall_e, aCons_e, aNil_e, cNew_e, aDisp_e, cN_e, c1_e, oNeg_e, cD_e, List.map_cons, List.map_nil, List.length_cons, List.length_nil, Nat.reduceAdd, Nat.reduceSub, List.replicate, List.cons_append, List.nil_append, List.append_nil, cV_0, cV_s, bind_ok, hs0, hs1, hs2, sL, c1, c6, if_true, hl1, hl2, e, e2]
  rfl
theorem ev_w1 (hU : U ≤ 1000000000) (h : HS c U S p) (ha : Tax a) : ∃ o, HO c (U + 1) o ∧ (Cs Pg (k + 7)).f i__law_word [.clo li_law_1 [.ref p, bD fl a]] S = .ok (.str (PySem.Str.ofString "number")) (S.set p o) := by
  obtain ⟨d, o, hd, ho, e⟩ := ev_any (k := k + 3) (S := S ++ [.lst [.int (-1), .non, .bl true]]) hU (h.app _) (q := S.length) (ds := [.int (-1), .non, .bl true]) (by simp) (by have := h.lt; omega) (by simp) (by simp) (by simp [isD, isDs])
  rw [set_app h.lt] at e
  have hbad : d = .int (-1) ∨ d = .non ∨ d = .bl true := by
    simpa only [List.mem_cons, List.not_mem_nil, or_false] using hd
  have e2 := ev_gross_bad (k := k) (S := S.set p o ++ [.lst [.int (-1), .non, .bl true]]) (fl := fl) ha hbad
  refine ⟨o, ho, ev_word (X := [.lst [.int (-1), .non, .bl true]]) ?_ (ho.wf h.ltc) sub2.1 sub2.2.1 sub2.2.2.1 sub2.2.2.2 (.inr ⟨rfl, rfl, rfl⟩)⟩
  rw [le_law_1 _ _ _ _ (by simp [isDs, bD_isD, isD]) rfl (by rw [lp_law_1]; rfl)]
  unfold lamStart; rw [lN_law_1]
  have hl1 : oLst [.int (-1), .non, .bl true] S = .ok (.ref S.length) (S ++ [.lst [.int (-1), .non, .bl true]]) := oLst_e rfl (by simp)
  have c4 : (3 : Nat) ≤ 16777216 := by omega
  simp only [lc_law_1, cCall_e, aCons_e, aNil_e, cNew_e, aDisp_e, cN_e, c1_e, oNeg_e, cD_e, List.map_cons, List.map_nil, List.length_cons, List.length_nil, Nat.reduceAdd, Nat.reduceSub, List.replicate, List.cons_append, List.nil_append, List.append_nil, cV_0, cV_s, bind_ok, sL, c4, if_true, hl1, e, e2]
  rfl
theorem ev_w2 (h : HS c U S p) : (Cs Pg (k + 7)).f i__law_word [.clo li_law_2 []] S = .ok (.str (PySem.Str.ofString "tax")) S := by
  obtain ⟨o0, hp0, ho0⟩ := h.at_
  have hid := set_id hp0
  have e2 := ev_net_set_bad (k := k) (S := S) (d := .tup .any [.tup .any [.int 0, .bl true]]) (.inr (.inr (.inr (.inr (.inr rfl)))))
  have hw := ev_word (k := k + 6) (li := li_law_2) (caps := []) (S := S) (p := p) (o := o0) (X := []) (cl := PySem.Str.ofString "NoTax") (w := PySem.Str.ofString "tax") ?_ (ho0.wf h.ltc) sub1.1 sub1.2.1 sub1.2.2.1 sub1.2.2.2 (.inl ⟨rfl, rfl, rfl⟩)
  · rw [hid] at hw
    exact hw
  rw [hid, List.append_nil, le_law_2 _ _ _ _ rfl rfl (by rw [lp_law_2]; rfl)]
  unfold lamStart; rw [lN_law_2]
  have hs1 : ∀ (x : D) (T : Store), oTup [x] T = .ok (.tup .any [x]) T := fun x T => oTup_e _ (by simp)
  have hs2 : ∀ (x y : D) (T : Store), oTup [x, y] T = .ok (.tup .any [x, y]) T := fun x y T => oTup_e _ (by simp)
  simp only [lc_law_2, cCall_e, aCons_e, aNil_e, cN_e, cD_e, bind_ok, hs1, hs2, e2]
  rfl
end LW
end Pf
end

section
set_option Elab.async false
set_option linter.all false
set_option maxRecDepth 20000
set_option maxHeartbeats 0
set_option autoImplicit false
/-! F10: the law (k76). -/
namespace Pf
open PySem PySem.Spec PyProof.Rows L2 LW
namespace LW
variable {k : Nat} {S T : Store} {c U p : Nat} {d d' : D} {b r b' r' : Nat} {s s' : Int} {f f' : Nat → Int}
theorem ev_lessened (h : Fm d b r s f) (h' : Fm d' b' r' s' f') (hw : max b b' + Nat.lcm r r' ≤ 5000) : (Cs Pg (k + 6)).f i_lessened [d, d'] S = .ok (LF fun n => f n - f' n) S := by
  have hR : 0 < Nat.lcm r r' := Nat.lcm_pos h.qp.1 h'.qp.1
  have hq := qp_sub (dvd_qp h.qp hR (Nat.dvd_lcm_left r r')) (dvd_qp h'.qp hR (Nat.dvd_lcm_right r r'))
  rw [fe_lessened, runB_e _ _ _ _ _ (by rfl)]
  simp [b_lessened, ev_two_ok h h', ev_raw_lessened h h' hw]
  exact gc_same (LF_isD hq)
/-- the law's names -/
def EV (x h t : D) (fo ne o3 o4 o5 o6 : Option D) : Env := [some x, fo, ne, o3, o4, o5, o6, some h, some t]
theorem eq_words (q : Nat) (h : S[q]? = some (.lst [.str (PySem.Str.ofString "tax"), .str (PySem.Str.ofString "number"), .str (PySem.Str.ofString "tax")])) : oEq (.ref q) (.rol [.str (PySem.Str.ofString "tax"), .str (PySem.Str.ofString "number"), .str (PySem.Str.ofString "tax")]) S = .ok (.bl true) S := by
  have e1 : okD 60 (.rol [.str (PySem.Str.ofString "tax"), .str (PySem.Str.ofString "number"), .str (PySem.Str.ofString "tax")]) = true := by kernel_rfl
  have e2 : eqD (.rol [.str (PySem.Str.ofString "tax"), .str (PySem.Str.ofString "number"), .str (PySem.Str.ofString "tax")]) (.rol [.str (PySem.Str.ofString "tax"), .str (PySem.Str.ofString "number"), .str (PySem.Str.ofString "tax")]) = true := by kernel_rfl
  have e3 : drf S (.ref q) = .rol [.str (PySem.Str.ofString "tax"), .str (PySem.Str.ofString "number"), .str (PySem.Str.ofString "tax")] := by simp [drf, h]
  have e4 : ∀ ds, drf S (.rol ds) = .rol ds := fun _ => rfl
  simp only [oEq, e3, e4, e1, e2, Bool.and_self, if_true]
theorem law_ok (ns : List Int) (hl : ns.length ≤ 63) (x : D) (hx : lstOf S x = some (ns.map D.int)) : ∃ S', (Cs Pg (k + 20)).f i_law [x] S = .ok (.bl true) S' := by
  obtain ⟨X, c, p, hH, _, _, eh⟩ := ev_hand (k := k + 18) (S := S) ns hl x hx
  generalize hT : S ++ X = T at hH eh
  obtain ⟨a, oa, ha, hoa, ea⟩ := ev_law_tax (k := k + 16) (S := T) (by omega) hH
  have hlt := hH.lt
  have hH2 : HS c (0 + 7) (T.set p oa) p := hH.set hoa
  have hl2 : (lastB a).1 ≤ 200 := ha.bands.far _ ha.bands.last_mem
  obtain ⟨tb, tr, ts, hFt, t1, t2, t3, t4, t5⟩ := Fm_tx ha
  obtain ⟨nb, nr, nsx, hFn, n1, n2, n3, n4, n5, n6⟩ := Fm_net ha
  rw [fe_law, runB_e _ _ _ _ _ (by rfl)]
  simp only [b_law]
  rw [sSeq_nx (ρ1 := [some x, none, none, none, none, none, none, some (.ref p), none]) (S1 := T) (by
    simp only [sSet_e, cCall_e, aCons_e, aNil_e, List.map_cons, List.map_nil, List.length_cons, List.length_nil, Nat.reduceAdd, Nat.reduceSub, List.replicate, List.cons_append, List.nil_append, cV_0, bind_ok, eh, sX_ok, gV_e, List.set])]
  rw [sSeq_nx (ρ1 := EV x (.ref p) (bD .hard a) none none none none none none) (S1 := T.set p oa) (by
    simp only [EV, sSet_e, cCall_e, aCons_e, aNil_e, cV_0, cV_s, bind_ok, ea, sX_ok, gV_e, List.set])]
  have htf : ∀ S', (Cs Pg (k + 19)).f i_tax_form [bD .hard a] S' = .ok (LF (tx a)) S' := fun S' => ev_tax_form (k := k + 12) ha
  have hnf : ∀ S', (Cs Pg (k + 19)).f i_net_form [bD .hard a] S' = .ok (LF (net a)) S' := fun S' => ev_net_form (k := k + 11) ha
  have ht2 : ∀ (u v : D) (S' : Store), oTup [u, v] S' = .ok (.tup .any [u, v]) S' := fun u v S' => oTup_e _ (by simp)
  rw [sSeq_nx (ρ1 := EV x (.ref p) (bD .hard a) (some (LF (tx a))) (some (LF (net a))) none none none none) (S1 := T.set p oa) (by
    simp only [EV, sSet_e, cN_e, cCall_e, aCons_e, aNil_e, cV_0, cV_s, bind_ok, htf, hnf, ht2, sX_ok, gTupN, List.length_cons, List.length_nil, Nat.reduceAdd, if_true, gCons_e, gNil_e, gV_e, Option.bind_some, List.set])]
  -- least, the pieces less the tax
  have hl1 : ∀ S', (Cs Pg (k + 19)).f i_is_least [LF (tx a)] S' = .ok (.bl true) S' := fun S' => ev_is_least (k := k + 14) hFt.qp hFt.wid hFt.sm
  have hl3 : ∀ S', (Cs Pg (k + 19)).f i_is_least [LF (net a)] S' = .ok (.bl true) S' := fun S' => ev_is_least (k := k + 14) hFn.qp hFn.wid hFn.sm
  have hfo : ∀ S', (Cs Pg (k + 19)).f i_form_of [.tup .any [.str (PySem.Str.ofString "pieces")]] S' = .ok g1D S' := fun S' => ev_form_of_pieces (k := k + 14)
  have hles : ∀ S', (Cs Pg (k + 19)).f i_lessened [g1D, LF (tx a)] S' = .ok (LF (net a)) S' := fun S' => by
    have el : Nat.lcm 1 tr = tr := Nat.lcm_one_left tr
    exact ev_lessened (k := k + 13) (S := S') Fm_g1 hFt (by rw [el]; omega)
  have ht1 : ∀ (u : D) (S' : Store), oTup [u] S' = .ok (.tup .any [u]) S' := fun u S' => oTup_e _ (by simp)
  have hne : ∀ S', oNe (LF (net a)) (LF (net a)) S' = .ok (.bl false) S' := fun S' => by
    obtain ⟨cc, _, h2, h3⟩ := LF_eqs (S := S') hFn.qp hFn.qp
    have : cc = true := h3.mpr rfl
    subst this
    exact h2
  rw [sSeq_nx (ρ1 := EV x (.ref p) (bD .hard a) (some (LF (tx a))) (some (LF (net a))) none none none none) (S1 := T.set p oa) (by
    simp only [EV, sIf_e, tOr_e, tNot_e, tV_e, cCall_e, cN_e, c2_e, aCons_e, aNil_e, cD_e, cV_0, cV_s, bind_ok, hl1, hl3, tvD_e, Bool.not_true, Bool.false_eq_true, if_false, ht1, hfo, hles, hne, sX_ok, sNx_e])]
  -- near
  have hpt : ∀ n : Nat, n < 4611686018427387904 → ∀ S', (Cs Pg (k + 19)).f i_price_at [LF (tx a), .int n] S' = .ok (.int (tx a n)) S' := fun n hn S' => ev_at (k := k + 14) hFt hn
  have hpn : ∀ n : Nat, n < 4611686018427387904 → ∀ S', (Cs Pg (k + 19)).f i_price_at [LF (net a), .int n] S' = .ok (.int (net a n)) S' := fun n hn S' => ev_at (k := k + 14) hFn hn
  have hdu : ∀ n : Nat, n < 4611686018427387904 → ∀ S', (Cs Pg (k + 19)).f i__law_due [bD .hard a, .int n] S' = .ok (.int (tx a n)) S' := fun n hn S' => ev_due (k := k + 18) ha.bands hn
  have h300 : rg1 300 (T.set p oa) = .ok ((List.range 300).map fun (m : Nat) => D.int (m : Int), []) (T.set p oa) := rgN 300 (by omega)
  have hk3 : compF [] (gV 3) tYes (c2 oEq (cCall (Cs Pg (k + 19)) i_price_at (aCons (cV 1) (aCons (cV 3) aNil))) (cCall (Cs Pg (k + 19)) i__law_due (aCons (cV 8) (aCons (cV 3) aNil)))) [some x, some (LF (tx a)), some (LF (net a)), none, none, none, none, some (.ref p), some (bD .hard a)] ((List.range 300).map fun (m : Nat) => D.int (m : Int)) [] (T.set p oa) = .ok ((List.range 300).map fun _ => .bl true) (T.set p oa) :=
    compF_ran (gd_nil _) _ (fun _ => .bl true) (by omega) (fun n hn => ⟨_, rfl, by
      simp only [c2_e, cCall_e, aCons_e, aNil_e, cV_0, cV_s, List.set, bind_ok, hpt n (by omega), hdu n (by omega), oEq_int, decide_true]⟩)
  have ha3 : (List.range 300).all (fun _ => true) = true := by simp
  rw [sSeq_nx (ρ1 := EV x (.ref p) (bD .hard a) (some (LF (tx a))) (some (LF (net a))) none none none none) (S1 := T.set p oa) (by
    simp only [EV, sIf_e, tNot_e, tV_e, cK_e, aComp_e, iR1_e, cD_e, bind_ok, inD'_e, h300, wipe_cons, wipe_nil, List.set, hk3, kAll_map (fun _ => true), ha3, tvD_e, Bool.not_true, Bool.false_eq_true, if_false, sX_ok, sNx_e])]
  -- far
  obtain ⟨v, o2, hv, ho2, ed⟩ := ev_draw (k := k + 18) (S := T.set p oa) (by omega) hH2 (n := 1000) (z := 1000) rfl (by omega) (by omega)
  rw [List.set_set] at ed
  have ef : (1000000000000000000 : Int) + v = ((1000000000000000000 + v : Nat) : Int) := by omega
  rw [sSeq_nx (ρ1 := EV x (.ref p) (bD .hard a) (some (LF (tx a))) (some (LF (net a))) none (some (.int ((1000000000000000000 + v : Nat) : Int))) none none) (S1 := T.set p o2) (by
    simp only [EV, sSet_e, c2_e, cCall_e, aCons_e, aNil_e, cV_0, cV_s, cD_e, bind_ok, oPow18, ed, oAddA_e, ef, sX_ok, gV_e, List.set])]
  have hnx : ∀ n : Nat, (n : Int) - tx a n = net a n := fun n => rfl
  generalize hfar : 1000000000000000000 + v = far
  have hfl : far < 4000000000000000000 := by omega
  rw [sSeq_nx (ρ1 := EV x (.ref p) (bD .hard a) (some (LF (tx a))) (some (LF (net a))) none (some (.int (far : Int))) none none) (S1 := T.set p o2) (by
    simp only [EV, sIf_e, tOr_e, tV_e, c2_e, cCall_e, aCons_e, aNil_e, cV_0, cV_s, bind_ok, hpt far (by omega), hdu far (by omega), hpn far (by omega), oSub_e, hnx, oNe_int, decide_true, Bool.not_true, tvD_e, Bool.false_eq_true, if_false, sX_ok, sNx_e])]
  -- neither falls, the nets
  have hH3 : HS c (0 + 7 + 1) (T.set p o2) p := hH.set ho2
  obtain ⟨o3, ho3, enr⟩ := ev_nets_right (k := k + 10) (S := T.set p o2) (fl := .hard) (by omega) hH3 ha
  rw [List.set_set] at enr
  have hnv1 : ∀ S', (Cs Pg (k + 19)).f i_never_falls [LF (net a)] S' = .ok .non S' := fun S' => ev_never_falls (k := k + 12) hFn 1 (fun n => by
    have := net_mono ha n
    unfold chg
    omega) (by omega) (fun n => (net_mono ha n).1)
  have hnv2 : ∀ S', (Cs Pg (k + 19)).f i_never_falls [LF (tx a)] S' = .ok .non S' := fun S' => ev_never_falls (k := k + 12) hFt 1 (fun n => by
    have := tx_mono ha n
    unfold chg
    omega) (by omega) (fun n => (tx_mono ha n).1)
  rw [sSeq_nx (ρ1 := EV x (.ref p) (bD .hard a) (some (LF (tx a))) (some (LF (net a))) none (some (.int (far : Int))) none none) (S1 := T.set p o3) (by
    simp only [EV, sIf_e, tOr_e, tNot_e, tV_e, c2_e, cCall_e, aCons_e, aNil_e, cV_0, cV_s, cD_e, bind_ok, hnv1, hnv2, oNotNon_non, tvD_e, Bool.false_eq_true, if_false, enr, Bool.not_true, sX_ok, sNx_e])]
  -- a gross near
  obtain ⟨m, o4, hm, ho4, ed4⟩ := ev_draw (k := k + 18) (S := T.set p o3) (by omega) (hH.set ho3) (n := 200) (z := 200) rfl (by omega) (by omega)
  rw [List.set_set] at ed4
  rw [sSeq_nx (ρ1 := EV x (.ref p) (bD .hard a) (some (LF (tx a))) (some (LF (net a))) (some (.int (m : Int))) (some (.int (far : Int))) none none) (S1 := T.set p o4) (by
    simp only [EV, sSet_e, cCall_e, aCons_e, aNil_e, cV_0, cV_s, cD_e, bind_ok, ed4, sX_ok, gV_e, List.set])]
  have hmono : ∀ n, net a n ≤ net a (n + 1) := fun n => (net_mono ha n).1
  have hnat : ∀ n, net a n = ((net a n).toNat : Int) := fun n => by have := net_bd ha n; omega
  obtain ⟨g1, g1a, g1b, g1c, g1e⟩ := ev_gross_for ha (B := (net a m).toNat) (N := m) (by have := net_bd ha m; omega) (by omega)
  have hg1 : ∀ S', (Cs Pg (k + 19)).f i_gross_for [bD .hard a, .int (net a m)] S' = .ok (.int (g1 : Nat)) S' := fun S' => by
    rw [hnat m]
    exact g1e (k + 11) S' .hard
  have hng : ¬ (m : Int) < (g1 : Int) := by omega
  rw [sSeq_nx (ρ1 := EV x (.ref p) (bD .hard a) (some (LF (tx a))) (some (LF (net a))) (some (.int (m : Int))) (some (.int (far : Int))) none none) (S1 := T.set p o4) (by
    simp only [EV, sIf_e, tV_e, c2_e, cCall_e, aCons_e, aNil_e, cV_0, cV_s, bind_ok, hdu m (by omega), oSub_e, hnx, hg1, oGt_e, hng, decide_false, tvD_e, Bool.false_eq_true, if_false, sX_ok, sNx_e])]
  -- a gross far
  obtain ⟨g2, g2a, g2b, g2c, g2e⟩ := ev_gross_for ha (B := (net a far).toNat) (N := far) (by have := net_bd ha far; omega) (by omega)
  have hg2 : ∀ S', (Cs Pg (k + 19)).f i_gross_for [bD .hard a, .int (net a far)] S' = .ok (.int (g2 : Nat)) S' := fun S' => by
    rw [hnat far]
    exact g2e (k + 11) S' .hard
  have hg2n : net a g2 = net a far := by
    have e1 : net a g2 ≤ net a far := mono_le hmono g2a
    have e2 := hnat far
    omega
  have hng2 : ¬ (far : Int) < (g2 : Int) := by omega
  rw [sSeq_nx (ρ1 := EV x (.ref p) (bD .hard a) (some (LF (tx a))) (some (LF (net a))) (some (.int (m : Int))) (some (.int (far : Int))) (some (.int (g2 : Int))) none) (S1 := T.set p o4) (by
    simp only [EV, sSet_e, c2_e, cCall_e, aCons_e, aNil_e, cV_0, cV_s, bind_ok, hdu far (by omega), oSub_e, hnx, hg2, sX_ok, gV_e, List.set])]
  rw [sSeq_nx (ρ1 := EV x (.ref p) (bD .hard a) (some (LF (tx a))) (some (LF (net a))) (some (.int (m : Int))) (some (.int (far : Int))) (some (.int (g2 : Int))) none) (S1 := T.set p o4) (by
    simp only [EV, sIf_e, tOr_e, tV_e, c2_e, cCall_e, aCons_e, aNil_e, cV_0, cV_s, bind_ok, oGt_e, hng2, decide_false, tvD_e, Bool.false_eq_true, if_false, hpn g2 (by omega), hdu far (by omega), oSub_e, hnx, hg2n, oNe_int, decide_true, Bool.not_true, sX_ok, sNx_e])]
  -- the words
  obtain ⟨o5, ho5, ew0⟩ := ev_w0 (k := k + 12) (S := T.set p o4) (by omega) (hH.set ho4)
  rw [List.set_set] at ew0
  have hcap : isDs [.ref p, bD .hard a] = true := by simp [isDs, isD, bD_isD]
  have hcap1 : isDs [.ref p] = true := by simp [isDs, isD]
  have hcap0 : isDs [] = true := rfl
  rw [sSeq_nx (ρ1 := EV x (.ref p) (bD .hard a) (some (LF (tx a))) (some (LF (net a))) (some (.int (m : Int))) (some (.int (far : Int))) (some (.int (g2 : Int))) (some (.ref T.length))) (S1 := T.set p o5 ++ [.lst [.str (PySem.Str.ofString "tax")]]) (by
    simp only [EV, sSet_e, cNew_e, aDisp_e, aCons_e, aNil_e, cCallL_e, bind_ok, capsOf_cons, capsOf_nil, slot_0, slot_s, Option.map_some, hcap1, if_true, List.nil_append, ew0]
    rw [noX_ok rfl]
    simp only [bind_ok, List.length_cons, List.length_nil, sL]
    rw [if_pos (by omega)]
    simp only [bind_ok]
    rw [oLst_e rfl (by simp)]
    simp only [sX_ok, gV_e, List.set, List.length_set])]
  have get_w : ∀ (o : MO) (B : List D), (T.set p o ++ [MO.lst B])[T.length]? = some (.lst B) := fun o B => get_mid
  have app_w : ∀ (o : MO) (B : List D) (y : D), isD y = true → B.length < 100 → oAppend (.ref T.length) y (T.set p o ++ [MO.lst B]) = .ok .non (T.set p o ++ [MO.lst (B ++ [y])]) := by
    intro o B y hy hB
    simp only [oAppend, get_w]
    rw [if_pos ⟨by rw [sL]; omega, hy⟩, set_mid]
  have lst_w : ∀ (o : MO) (B : List D), (lstOf (T.set p o ++ [MO.lst B]) (.ref T.length)).isSome = true := by
    intro o B
    simp only [lstOf, get_w, Option.isSome_some]
  obtain ⟨o6, ho6, ew1⟩ := ev_w1 (k := k + 12) (S := T.set p o5 ++ [.lst [.str (PySem.Str.ofString "tax")]]) (fl := .hard) (by omega) ((hH.set ho5).app _) ha
  rw [set_front hlt] at ew1
  rw [sSeq_nx (ρ1 := EV x (.ref p) (bD .hard a) (some (LF (tx a))) (some (LF (net a))) (some (.int (m : Int))) (some (.int (far : Int))) (some (.int (g2 : Int))) (some (.ref T.length))) (S1 := T.set p o6 ++ [.lst [.str (PySem.Str.ofString "tax"), .str (PySem.Str.ofString "number")]]) (by
    simp only [EV, sDrop_e, cM, cV_0, cV_s, bind_ok, lst_w, if_true, aCons_e, aNil_e, cCallL_e, capsOf_cons, capsOf_nil, slot_0, slot_s, Option.map_some, hcap, List.nil_append, ew1]
    rw [noX_ok rfl]
    simp only [bind_ok, m1]
    rw [app_w _ _ _ rfl (by simp)]
    rfl)]
  have ew2 := ev_w2 (k := k + 12) (S := T.set p o6 ++ [.lst [.str (PySem.Str.ofString "tax"), .str (PySem.Str.ofString "number")]]) ((hH.set ho6).app _)
  rw [sSeq_nx (ρ1 := EV x (.ref p) (bD .hard a) (some (LF (tx a))) (some (LF (net a))) (some (.int (m : Int))) (some (.int (far : Int))) (some (.int (g2 : Int))) (some (.ref T.length))) (S1 := T.set p o6 ++ [.lst [.str (PySem.Str.ofString "tax"), .str (PySem.Str.ofString "number"), .str (PySem.Str.ofString "tax")]]) (by
    simp only [EV, sDrop_e, cM, cV_0, cV_s, bind_ok, lst_w, if_true, aCons_e, aNil_e, cCallL_e, capsOf_cons, capsOf_nil, hcap0, List.nil_append, ew2]
    rw [noX_ok rfl]
    simp only [bind_ok, m1]
    rw [app_w _ _ _ rfl (by simp)]
    rfl)]
  have c3 : (3 : Nat) ≤ 16777216 := by omega
  simp only [EV, sRet_e, cEqL, cV_0, cV_s, bind_ok, aDisp_e, aCons_e, aNil_e, cD_e, List.length_cons, List.length_nil, Nat.reduceAdd, sL, c3, if_true, eq_words _ (get_w _ _), sX_ok, fin_rt]
  exact gc_some
theorem law_eq : LawEq Pg 60 i_law 63 := fun ns hl _ => ⟨law_ok (k := 40) ns hl (.ref 0) rfl, law_ok (k := 40) ns hl (.rol (ns.map D.int)) rfl⟩
end LW
end Pf
end
open PySem PySem.W PySem.Calls PyProof.Rows
set_option Elab.async false
theorem PySem.Challenge.cw_pricesforever_k76_whole_taxes_gross_and_holds : PySem.Challenge.rw_pricesforever_k76_whole_taxes_gross_and.Holds := by
  exact Pf.LW.holds_of Pf.LW.law_eq
