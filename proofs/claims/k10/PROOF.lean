import PyProof.Rows.All
import Wide.All
import OpenK.AllK
import Wide.FinOn
import HandS.ForMost
import HandS.ForExc
import HandS.Wide
import HandS.IsInst
import HandS.Deep
import HandS.Lambda
import HandS.WordsExc
import HandS.ExcIs
import HandS.HotCalls
import HandS.ExcCtx
import HandS.Conv
import HandS.TupAny
import HandS.More
import HandS.EndTab
import PySem.Challenge.RW_grovelocks_k10_things
set_option Elab.async false
set_option linter.all false
set_option maxRecDepth 100000
set_option maxHeartbeats 4000000
/-! # GDen: what Python's constructs do to deep values. Pure. -/
namespace G

/-- a value: tuples, and lists and dicts that nobody changes, are trees; what is changed is named by its place -/
inductive D where
  | non
  | bl (b : Bool)
  | int (i : Int)
  | str (s : List Nat)
  | tup (xs : List D)
  | lst (xs : List D)
  | dct (kvs : List (D × D))
  | ref (i : Nat)
  /-- the law's script -/
  | scr (ns : List Int)
  deriving Inhabited

/-- an object that may be changed -/
inductive AO where
  | lst (xs : List D)
  /-- a dict whose keys are ints and texts; the same while a loop walks it -/
  | dct (kvs : List (D × D))
  | lck (kvs : List (D × D))
  /-- a dict whose keys are tuples; the same while a loop walks it -/
  | dtt (kvs : List (D × D))
  | lkt (kvs : List (D × D))
  /-- an instance of the class c -/
  | ins (c : Nat) (fs : List (List Nat × D))
  | gone
  deriving Inhabited

abbrev Hs := List AO
abbrev Lc := List (Option D)

inductive Out (α : Type) where
  | ok (a : α) (S : Hs)
  | exc (c : Nat) (S : Hs)
  | bad

def Out.bind {α β : Type} (o : Out α) (f : α → Hs → Out β) : Out β :=
  match o with
  | .ok a S => f a S
  | .exc c S => .exc c S
  | .bad => .bad
def noExc {α : Type} : Out α → Out α
  | .ok a S => .ok a S
  | _ => .bad
def ofOpt {α : Type} (o : Option α) (S : Hs) : Out α :=
  match o with
  | some a => .ok a S
  | none => .bad

abbrev DE := Lc → Hs → Out D
abbrev DA := Lc → Hs → Out (List D)
abbrev DT := Lc → Hs → Out Bool

/-! ### equality -/
mutual
def D.eqv : D → D → Bool
  | .non, .non => true
  | .bl a, .bl b => a == b
  | .bl a, .int j => (if a then 1 else 0) == j
  | .int i, .bl b => i == (if b then 1 else 0)
  | .int i, .int j => i == j
  | .str x, .str y => x == y
  | .tup xs, .tup ys => D.eqvs xs ys
  | .lst xs, .lst ys => D.eqvs xs ys
  | _, _ => false
def D.eqvs : List D → List D → Bool
  | [], [] => true
  | x :: xs, y :: ys => D.eqv x y && D.eqvs xs ys
  | _, _ => false
end
/- data of depth at most k: no dict, nothing that is changed -/
mutual
def D.okd : Nat → D → Bool
  | _, .non => true
  | _, .bl _ => true
  | _, .int _ => true
  | _, .str _ => true
  | k, .tup xs => match k with | 0 => false | k + 1 => D.okds k xs
  | k, .lst xs => match k with | 0 => false | k + 1 => D.okds k xs
  | _, .dct _ => false
  | _, .ref _ => false
  | _, .scr _ => false
def D.okds : Nat → List D → Bool
  | _, [] => true
  | k, x :: xs => D.okd k x && D.okds k xs
end
/- the same to the sign -/
mutual
def D.same : D → D → Bool
  | .non, .non => true
  | .bl a, .bl b => a == b
  | .int i, .int j => i == j
  | .str x, .str y => x == y
  | .tup xs, .tup ys => D.sames xs ys
  | .lst xs, .lst ys => D.sames xs ys
  | .dct xs, .dct ys => D.sameps xs ys
  | .ref i, .ref j => i == j
  | .scr i, .scr j => i == j
  | _, _ => false
def D.sames : List D → List D → Bool
  | [], [] => true
  | x :: xs, y :: ys => D.same x y && D.sames xs ys
  | _, _ => false
def D.sameps : List (D × D) → List (D × D) → Bool
  | [], [] => true
  | x :: xs, y :: ys => (match x, y with | (a, b), (c, d) => D.same a c && D.same b d) && D.sameps xs ys
  | _, _ => false
end

/-! ### expressions -/
def dVar (i : Nat) : DE := fun L S => match L[i]? with | some (some d) => .ok d S | _ => .bad
def dC (v : D) : DE := fun _ S => .ok v S
def dBad : DE := fun _ _ => .bad
def dOp1 (f : Hs → D → Option D) (a : DE) : DE := fun L S => (a L S).bind fun x S1 => ofOpt (f S1 x) S1
def dOp2 (f : Hs → D → D → Option D) (a b : DE) : DE := fun L S => (a L S).bind fun x S1 => (b L S1).bind fun y S2 => ofOpt (f S2 x y) S2
def dT (a : DE) : DT := fun L S => (a L S).bind fun x S1 => match x with | .bl b => .ok b S1 | _ => .bad
def dTand (a b : DT) : DT := fun L S => (a L S).bind fun c S1 => if c then b L S1 else .ok false S1
def dTor (a b : DT) : DT := fun L S => (a L S).bind fun c S1 => if c then .ok true S1 else b L S1
def dTnot (a : DT) : DT := fun L S => (a L S).bind fun c S1 => .ok (!c) S1
def dAndV (a b : DE) : DE := fun L S => (a L S).bind fun x S1 => match x with | .bl c => if c then b L S1 else .ok (.bl false) S1 | _ => .bad
def dOrV (a b : DE) : DE := fun L S => (a L S).bind fun x S1 => match x with | .bl c => if c then .ok (.bl true) S1 else b L S1 | _ => .bad
def dNotV (a : DE) : DE := fun L S => (a L S).bind fun x S1 => match x with | .bl c => .ok (.bl (!c)) S1 | _ => .bad
def dIfE (t : DT) (a b : DE) : DE := fun L S => (t L S).bind fun c S1 => if c then a L S1 else b L S1
/-- a r b r' c -/
def dChain (f f' : Hs → D → D → Option D) (a b c : DE) : DE := fun L S => (a L S).bind fun x S1 => (b L S1).bind fun y S2 =>
  (ofOpt (f S2 x y) S2).bind fun z S3 => match z with
    | .bl k => if k then (c L S3).bind fun w S4 => ofOpt (f' S4 y w) S4 else .ok (.bl false) S3
    | _ => .bad

def aNil : DA := fun _ S => .ok [] S
def aCons (e : DE) (r : DA) : DA := fun L S => (e L S).bind fun x S1 => (r L S1).bind fun xs S2 => .ok (x :: xs) S2
def big : Nat := 16777216
def dTup (a : DA) : DE := fun L S => (a L S).bind fun xs S1 => if xs.length ≤ big then .ok (.tup xs) S1 else .bad
def dLst (a : DA) : DE := fun L S => (a L S).bind fun xs S1 => if xs.length ≤ big then .ok (.lst xs) S1 else .bad
/-- [..] of which something will be changed -/
def dNewL (a : DA) : DE := fun L S => (a L S).bind fun xs S1 => if xs.length ≤ big then .ok (.ref S1.length) (S1 ++ [.lst xs]) else .bad
/-- a frozen list becomes an object, or an object's list a frozen one -/
def dThaw (e : DE) : DE := fun L S => (e L S).bind fun x S1 => match x with | .lst xs => .ok (.ref S1.length) (S1 ++ [.lst xs]) | _ => .bad
def dFn (f : Hs → List D → Option D) (a : DA) : DE := fun L S => (a L S).bind fun xs S1 => ofOpt (f S1 xs) S1

abbrev DF := List D → Hs → Out D
def dCall (m : DF) (a : DA) : DE := fun L S => (a L S).bind m
def lookF (f : List Nat) : List (List Nat × D) → Option D
  | [] => none
  | (g, d) :: r => if g = f then some d else lookF f r
def putF (f : List Nat) (v : D) : List (List Nat × D) → List (List Nat × D)
  | [] => [(f, v)]
  | (g, d) :: r => if g = f then (f, v) :: r else (g, d) :: putF f v r
/-- f() that raises nothing -/
def dCall0 (m : DF) : DE := fun _ S => noExc (m [] S)
/-- o.m(..) -/
def dMeth (c : Nat) (mn : List Nat) (m : DF) (o : DE) (a : DA) : DE := fun L S => (o L S).bind fun x S1 => match x with
  | .ref i => match S1[i]? with
    | some (.ins c' fs) => if c' = c ∧ lookF mn fs = none then (a L S1).bind fun xs S2 => m (x :: xs) S2 else .bad
    | _ => .bad
  | _ => .bad
/-- C(..) -/
def dMake (c : Nat) (m : DF) (a : DA) : DE := fun L S => (a L S).bind fun xs S1 =>
  (m (.ref S1.length :: xs) (S1 ++ [.ins c []])).bind fun r S2 => match r with | .non => .ok (.ref S1.length) S2 | _ => .bad
/-- o.f -/
def vFld (c : Nat) (f : List Nat) (S : Hs) (x : D) : Option D := match x with
  | .ref i => match S[i]? with
    | some (.ins c' fs) => if c' = c then lookF f fs else none
    | _ => none
  | _ => none

/-! ### what is walked -/
inductive Tg where
  | one (i : Nat)
  | tup (is : List Nat)
def setAll : List Nat → List D → Lc → Option Lc
  | [], [], L => some L
  | i :: is, x :: xs, L => setAll is xs (L.set i (some x))
  | _, _, _ => none
def bindTg (t : Tg) (x : D) (L : Lc) : Option Lc := match t with
  | .one i => some (L.set i (some x))
  | .tup is => match x with | .tup xs => setAll is xs L | _ => none
/-- the items, and the object that must stay as it is -/
abbrev Src := Option Nat × List D
abbrev DI := Lc → Hs → Out Src
def srcOk (g : Option Nat) (all : List D) (S : Hs) : Bool := match g with
  | none => true
  | some i => match S[i]? with | some (.lst ys) => D.sames ys all | _ => false
/-- a list, frozen or an object -/
def iList (e : DE) : DI := fun L S => (e L S).bind fun x S1 => match x with
  | .lst xs => .ok (none, xs) S1
  | .ref i => match S1[i]? with | some (.lst xs) => .ok (some i, xs) S1 | _ => .bad
  | _ => .bad
def iTup (e : DE) : DI := fun L S => (e L S).bind fun x S1 => match x with
  | .tup xs => .ok (none, xs) S1
  | _ => .bad
def iStr (e : DE) : DI := fun L S => (e L S).bind fun x S1 => match x with
  | .str s => if s.length ≤ big then .ok (none, s.map fun c => .str [c]) S1 else .bad
  | _ => .bad
def rangeD (lo : Int) (n : Nat) : List D := (List.range n).map fun (k : Nat) => .int (lo + (k : Int))
def iRange1 (e : DE) : DI := fun L S => (e L S).bind fun x S1 => match x with
  | .int j => if -(2 ^ 62) ≤ j ∧ j ≤ 16777216 then .ok (none, rangeD 0 j.toNat) S1 else .bad
  | _ => .bad
def iRange2 (a b : DE) : DI := fun L S => (a L S).bind fun x S1 => (b L S1).bind fun y S2 => match x, y with
  | .int i, .int j => if 0 ≤ i ∧ i ≤ 16777216 ∧ -(2 ^ 62) ≤ j ∧ j ≤ 16777216 then .ok (none, rangeD i (j - i).toNat) S2 else .bad
  | _, _ => .bad

def wipeL (L : Lc) : List Nat → Lc
  | [] => L
  | i :: r => (wipeL L r).set i none
/-- the turns of a comprehension -/
def lcGo (g : Option Nat) (all : List D) (tg : Tg) (tt : DT) (te : DE) (L : Lc) : List D → Hs → Out (List D)
  | [], S => if srcOk g all S then .ok [] S else .bad
  | x :: r, S => if srcOk g all S then match bindTg tg x L with
      | none => .bad
      | some L1 => (tt L1 S).bind fun b S1 => if b then (te L1 S1).bind fun y S2 => (lcGo g all tg tt te L r S2).bind fun ys S3 => .ok (y :: ys) S3 else lcGo g all tg tt te L r S1
    else .bad
def tYes : DT := fun _ S => .ok true S
def dLc (it : DI) (own : List Nat) (tg : Tg) (tt : DT) (te : DE) : DE := fun L S => (it L S).bind fun gx S1 =>
  (noExc (lcGo gx.1 gx.2 tg tt te (wipeL L own) gx.2 S1)).bind fun ys S2 => .ok (.lst ys) S2

/-! ### statements -/
inductive OutS where
  | nx (L : Lc) (S : Hs)
  | rt (v : D) (S : Hs)
  | bk (L : Lc) (S : Hs)
  | ct (L : Lc) (S : Hs)
  | exc (c : Nat) (S : Hs)
  | bad
abbrev DS := Lc → Hs → OutS
def Out.toS {α : Type} (o : Out α) (f : α → Hs → OutS) : OutS := match o with
  | .ok a S => f a S
  | .exc c S => .exc c S
  | .bad => .bad
def sNext : DS := fun L S => .nx L S
def sSeq (a b : DS) : DS := fun L S => match a L S with | .nx L1 S1 => b L1 S1 | o => o
def sBad : DS := fun _ _ => .bad
def sAsg (i : Nat) (e : DE) : DS := fun L S => (e L S).toS fun x S1 => .nx (L.set i (some x)) S1
def sAsgT (is : List Nat) (e : DE) : DS := fun L S => (e L S).toS fun x S1 => match bindTg (.tup is) x L with | some L1 => .nx L1 S1 | none => .bad
def sExpr (e : DE) : DS := fun L S => (e L S).toS fun _ S1 => .nx L S1
def sRet (e : DE) : DS := fun L S => (e L S).toS fun x S1 => .rt x S1
/-- return of a list of this def's own, which is nobody else's -/
def sRetF (e : DE) : DS := fun L S => (e L S).toS fun x S1 => match x with
  | .ref i => match S1[i]? with | some (.lst xs) => .rt (.lst xs) (S1.set i .gone) | _ => .bad
  | _ => .bad
def sRetN : DS := fun _ S => .rt .non S
def sIf (t : DT) (a b : DS) : DS := fun L S => (t L S).toS fun c S1 => if c then a L S1 else b L S1
def sRaise (c : Nat) : DS := fun _ S => .exc c S
def sCont : DS := fun L S => .ct L S
def sBreak : DS := fun L S => .bk L S
def forGo (g : Option Nat) (all : List D) (tg : Tg) (body : DS) : List D → Lc → Hs → OutS
  | [], L, S => if srcOk g all S then .nx L S else .bad
  | x :: r, L, S => if srcOk g all S then match bindTg tg x L with
      | none => .bad
      | some L1 => match body L1 S with
        | .nx L2 S2 => forGo g all tg body r L2 S2
        | .ct L2 S2 => forGo g all tg body r L2 S2
        | .bk L2 S2 => .nx L2 S2
        | o => o
    else .bad
def sFor (it : DI) (tg : Tg) (body : DS) : DS := fun L S => (it L S).toS fun gx S1 => forGo gx.1 gx.2 tg body gx.2 L S1
def whGo (t : DT) (body : DS) : Nat → Lc → Hs → OutS
  | 0, _, _ => .bad
  | k + 1, L, S => (t L S).toS fun c S1 => if c then match body L S1 with
      | .nx L2 S2 => whGo t body k L2 S2
      | .ct L2 S2 => whGo t body k L2 S2
      | .bk L2 S2 => .nx L2 S2
      | o => o
    else .nx L S1
def sWhile (k : Nat) (t : DT) (body : DS) : DS := fun L S => whGo t body k L S
/-- o.f = e -/
def sFld (c : Nat) (f : List Nat) (o e : DE) : DS := fun L S => (e L S).toS fun v S1 => (o L S1).toS fun x S2 => match x with
  | .ref i => match S2[i]? with
    | some (.ins c' fs) => if c' = c ∧ fs.length < 1000 then .nx L (S2.set i (.ins c (putF f v fs))) else .bad
    | _ => .bad
  | _ => .bad
/-- xs.append(e) -/
def dApp (o e : DE) : DE := fun L S => (o L S).bind fun x S1 => match x with
  | .ref i => match S1[i]? with
    | some (.lst _) => (e L S1).bind fun v S2 => match S2[i]? with
      | some (.lst ys) => if ys.length < big then .ok .non (S2.set i (.lst (ys ++ [v]))) else .bad
      | _ => .bad
    | _ => .bad
  | _ => .bad
/-- a def: np parameters, n names in all -/
def mDef (np n : Nat) (body : DS) : DF := fun ds S => if ds.length = np then
    match body (ds.map some ++ List.replicate (n - np) none) S with
    | .nx _ S' => .ok .non S'
    | .rt v S' => .ok v S'
    | .exc c S' => .exc c S'
    | _ => .bad
  else .bad
/-- told(lambda: e): the value, or what names the refusal -/
def dTold (nm : Nat → Option D) (e : DE) : DE := fun L S => match e L S with
  | .ok v S1 => .ok v S1
  | .exc c S1 => match nm c with | some d => .ok d S1 | none => .bad
  | .bad => .bad

/-! ### operations on values -/
/-- the items of a list -/
def seqOf (S : Hs) : D → Option (List D)
  | .lst xs => some xs
  | .ref i => match S[i]? with | some (.lst xs) => some xs | _ => none
  | .scr ns => some (ns.map .int)
  | _ => none
/-- .. of one that isn't the script -/
def seqX (S : Hs) : D → Option (List D)
  | .lst xs => some xs
  | .ref i => match S[i]? with | some (.lst xs) => some xs | _ => none
  | _ => none
def nrm (S : Hs) (d : D) : D := match seqOf S d with | some xs => .lst xs | none => d
def dctOf (S : Hs) : D → Option (List (D × D))
  | .dct kvs => some kvs
  | .ref i => match S[i]? with | some (.dct kvs) => some kvs | some (.lck kvs) => some kvs | _ => none
  | _ => none
def isKey : D → Bool
  | .int _ => true
  | .str _ => true
  | _ => false
def lookD (k : D) : List (D × D) → Option D
  | [] => none
  | (g, d) :: r => if D.same g k then some d else lookD k r
def intBits (i : Int) : Nat := if i == 0 then 0 else i.natAbs.log2 + 1
def vAdd (S : Hs) (x y : D) : Option D := match x, y with
  | .int i, .int j => some (.int (i + j))
  | .str a, .str b => if a.length + b.length ≤ big then some (.str (a ++ b)) else none
  | .tup a, .tup b => if a.length + b.length ≤ big then some (.tup (a ++ b)) else none
  | x, y => match seqX S x, seqX S y with
    | some a, some b => if a.length + b.length ≤ big then some (.lst (a ++ b)) else none
    | _, _ => none
def vSub (_ : Hs) (x y : D) : Option D := match x, y with
  | .int i, .int j => some (.int (i - j))
  | _, _ => none
def vMul (S : Hs) (x y : D) : Option D := match x, y with
  | .int i, .int j => if intBits i + intBits j ≤ 134217728 then some (.int (i * j)) else none
  | .lst a, .int k => if 0 ≤ k ∧ k < 2 ^ 63 ∧ a.length * k.toNat ≤ big then some (.lst ((List.replicate k.toNat a).flatten)) else none
  | _, _ => none
def vFdiv (_ : Hs) (x y : D) : Option D := match x, y with
  | .int i, .int j => if 0 < j ∧ j.natAbs.log2 < 9000 then some (.int (i / j)) else none
  | _, _ => none
def vMod (_ : Hs) (x y : D) : Option D := match x, y with
  | .int i, .int j => if 0 < j then some (.int (i % j)) else none
  | _, _ => none
/-- & and | of numbers that are not negative -/
def vAnd (_ : Hs) (x y : D) : Option D := match x, y with
  | .int i, .int j => if 0 ≤ i ∧ 0 ≤ j then some (.int ((i.toNat &&& j.toNat : Nat) : Int)) else none
  | _, _ => none
def vOr (_ : Hs) (x y : D) : Option D := match x, y with
  | .int i, .int j => if 0 ≤ i ∧ 0 ≤ j then some (.int ((i.toNat ||| j.toNat : Nat) : Int)) else none
  | _, _ => none
def vNeg (_ : Hs) (x : D) : Option D := match x with
  | .int i => some (.int (-i))
  | _ => none
def vEq (S : Hs) (x y : D) : Option D := if D.okd 64 (nrm S x) && D.okd 64 (nrm S y) then some (.bl (D.eqv (nrm S x) (nrm S y))) else none
def vNe (S : Hs) (x y : D) : Option D := if D.okd 64 (nrm S x) && D.okd 64 (nrm S y) then some (.bl (!D.eqv (nrm S x) (nrm S y))) else none
def vLt (_ : Hs) (x y : D) : Option D := match x, y with
  | .int i, .int j => some (.bl (decide (i < j)))
  | _, _ => none
def vLe (_ : Hs) (x y : D) : Option D := match x, y with
  | .int i, .int j => some (.bl (decide (i ≤ j)))
  | _, _ => none
def vGt (_ : Hs) (x y : D) : Option D := match x, y with
  | .int i, .int j => some (.bl (decide (j < i)))
  | _, _ => none
def vGe (_ : Hs) (x y : D) : Option D := match x, y with
  | .int i, .int j => some (.bl (decide (j ≤ i)))
  | _, _ => none
def isNon : D → Bool
  | .non => true
  | _ => false
def vIsN (_ : Hs) (x : D) : Option D := some (.bl (isNon x))
def vNotN (_ : Hs) (x : D) : Option D := some (.bl (!isNon x))
/-- x in a list or tuple of data -/
def inSeq (x : D) (ys : List D) : Option Bool := if D.okd 60 x && D.okds 60 ys then some (ys.any fun z => D.eqv z x) else none
/-- .. of flat things -/
def inFlat (x : D) (ys : List D) : Option Bool := if D.okd 0 x && D.okds 0 ys then some (ys.any fun z => D.eqv z x) else none
def vInSeq (S : Hs) (x y : D) : Option D := match y with
  | .tup ys => (inFlat x ys).map .bl
  | y => match seqOf S y with | some ys => (inSeq x ys).map .bl | none => none
def vNotInSeq (S : Hs) (x y : D) : Option D := match y with
  | .tup ys => (inFlat x ys).map fun b => .bl (!b)
  | y => match seqOf S y with | some ys => (inSeq x ys).map fun b => .bl (!b) | none => none
/-- one sign in a text -/
def vInStr (_ : Hs) (x y : D) : Option D := match x, y with
  | .str [c], .str z => some (.bl (decide (c ∈ z)))
  | _, _ => none
/-- k in d -/
def vInDct (S : Hs) (x y : D) : Option D := match dctOf S y with
  | some kvs => if isKey x then some (.bl (lookD x kvs).isSome) else none
  | none => none
def vNotInDct (S : Hs) (x y : D) : Option D := match dctOf S y with
  | some kvs => if isKey x then some (.bl (!(lookD x kvs).isSome)) else none
  | none => none
def ixD (n : Nat) (i : Int) : Option Nat := if 0 ≤ i then (if i < n then some i.toNat else none) else if -(n : Int) ≤ i then some (i + n).toNat else none
def atD {α : Type} (xs : List α) (i : Int) : Option α := (ixD xs.length i).bind fun j => xs[j]?
def vIxL (S : Hs) (x i : D) : Option D := match i with
  | .int k => match seqOf S x with | some xs => atD xs k | none => none
  | _ => none
def vIxS (_ : Hs) (x i : D) : Option D := match x, i with
  | .str s, .int k => if s.length ≤ big then (atD s k).map fun c => .str [c] else none
  | _, _ => none
def vIxT (_ : Hs) (x i : D) : Option D := match x, i with
  | .tup xs, .int k => atD xs k
  | _, _ => none
def vIxD (S : Hs) (x k : D) : Option D := match dctOf S x with
  | some kvs => if isKey k then lookD k kvs else none
  | none => none
/-- T[k], T a dict of the module's, its keys texts -/
def vGet (kvs : List (List Nat × D)) (_ : Hs) (k : D) : Option D := match k with
  | .str s => lookF s kvs
  | _ => none
/-- a part of a slice: nothing, or a number -/
def clip (n : Nat) (d : Nat) : Option Int → Nat
  | none => d
  | some i => if i < 0 then (i + (n : Int)).toNat else min i.toNat n
def cut {α : Type} (xs : List α) (lo hi : Option Int) : List α := (xs.drop (clip xs.length 0 lo)).take (clip xs.length xs.length hi - clip xs.length 0 lo)
def vSlL (lo hi : Option Int) (S : Hs) (x : D) : Option D := match seqOf S x with
  | some xs => some (.lst (cut xs lo hi))
  | none => none
def vSlT (lo hi : Option Int) (_ : Hs) (x : D) : Option D := match x with
  | .tup xs => some (.tup (cut xs lo hi))
  | _ => none
def vSlS (lo hi : Option Int) (_ : Hs) (x : D) : Option D := match x with
  | .str s => if s.length ≤ big then some (.str (cut s lo hi)) else none
  | _ => none
/-- x[a:b] -/
def oNone : Lc → Hs → Out (Option Int) := fun _ S => .ok none S
def oSome (e : DE) : Lc → Hs → Out (Option Int) := fun L S => (e L S).bind fun x S1 => match x with | .int i => .ok (some i) S1 | _ => .bad
def dSlice (f : Option Int → Option Int → Hs → D → Option D) (e : DE) (lo hi : Lc → Hs → Out (Option Int)) : DE := fun L S => (e L S).bind fun x S1 => (lo L S1).bind fun a S2 => (hi L S2).bind fun b S3 => ofOpt (f a b S3 x) S3
def vLen (S : Hs) : List D → Option D
  | [.str s] => if s.length ≤ big then some (.int s.length) else none
  | [.tup xs] => some (.int xs.length)
  | [x] => match seqOf S x with
    | some xs => some (.int xs.length)
    | none => match dctOf S x with | some kvs => some (.int kvs.length) | none => none
  | _ => none
def boolsOf : List D → Option (List Bool)
  | [] => some []
  | .bl b :: r => (boolsOf r).map (b :: ·)
  | _ => none
def intsOf : List D → Option (List Int)
  | [] => some []
  | .int b :: r => (intsOf r).map (b :: ·)
  | _ => none
def vAll (S : Hs) : List D → Option D
  | [x] => match seqOf S x with | some xs => (boolsOf xs).map fun bs => .bl (bs.all id) | none => none
  | _ => none
def vAny (S : Hs) : List D → Option D
  | [x] => match seqOf S x with | some xs => (boolsOf xs).map fun bs => .bl (bs.any id) | none => none
  | _ => none
def vSum (S : Hs) : List D → Option D
  | [x] => match seqOf S x with | some xs => (intsOf xs).map fun bs => .int bs.sum | none => none
  | _ => none
def vTuple (S : Hs) : List D → Option D
  | [.tup xs] => some (.tup xs)
  | [x] => (seqOf S x).map .tup
  | _ => none
def vList (S : Hs) : List D → Option D
  | [.tup xs] => some (.lst xs)
  | [x] => (seqOf S x).map .lst
  | _ => none
def vMax2 (_ : Hs) : List D → Option D
  | [.int i, .int j] => some (.int (if j > i then j else i))
  | _ => none
def vMin2 (_ : Hs) : List D → Option D
  | [.int i, .int j] => some (.int (if j < i then j else i))
  | _ => none
/-- the name of a value's type -/
def tyD (S : Hs) : D → Option String
  | .non => some "NoneType"
  | .bl _ => some "bool"
  | .int _ => some "int"
  | .str _ => some "str"
  | .tup _ => some "tuple"
  | .lst _ => some "list"
  | .dct _ => some "dict"
  | .ref i => match S[i]? with | some (.lst _) => some "list" | some (.dct _) => some "dict" | some (.dtt _) => some "dict" | _ => none
  | .scr _ => none
def vIsStr (S : Hs) (x : D) : Option D := (tyD S x).map fun t => .bl (t == "str")
def vIsTup (S : Hs) (x : D) : Option D := (tyD S x).map fun t => .bl (t == "tuple")
def vIsLst (S : Hs) (x : D) : Option D := (tyD S x).map fun t => .bl (t == "list")
def vIsDct (S : Hs) (x : D) : Option D := (tyD S x).map fun t => .bl (t == "dict")
def vIsInt (S : Hs) (x : D) : Option D := (tyD S x).map fun t => .bl (t == "int" || t == "bool")
def vIsBool (S : Hs) (x : D) : Option D := (tyD S x).map fun t => .bl (t == "bool")
def joinS (sep : List Nat) : List (List Nat) → List Nat
  | [] => []
  | [x] => x
  | x :: r => x ++ sep ++ joinS sep r
def strsOf : List D → Option (List (List Nat))
  | [] => some []
  | .str s :: r => (strsOf r).map (s :: ·)
  | _ => none
def vJoin (S : Hs) (sep x : D) : Option D := match sep with
  | .str a => match (match x with | .tup xs => some xs | x => seqOf S x) with
    | some xs => match strsOf xs with
      | some ss => if (joinS a ss).length + ss.length * (a.length + 1) ≤ 1000000 then some (.str (joinS a ss)) else none
      | none => none
    | none => none
  | _ => none
/-- s.split(c), c one sign -/
def splitC (c : Nat) : List Nat → List Nat → List (List Nat)
  | acc, [] => [acc]
  | acc, x :: r => if x = c then acc :: splitC c [] r else splitC c (acc ++ [x]) r
def vSplit (_ : Hs) (x sep : D) : Option D := match x, sep with
  | .str s, .str [c] => if c < 256 ∧ s.length + 2 ≤ big then some (.lst ((splitC c [] s).map .str)) else none
  | _, _ => none
/-- o.join(e), o.split(e): o a text -/
def dJoin (a b : DE) : DE := fun L S => (a L S).bind fun x S1 => match x with
  | .str s => (b L S1).bind fun y S2 => ofOpt (vJoin S2 (.str s) y) S2
  | _ => .bad
def dSplit (a b : DE) : DE := fun L S => (a L S).bind fun x S1 => match x with
  | .str s => (b L S1).bind fun y S2 => ofOpt (vSplit S2 (.str s) y) S2
  | _ => .bad
/-! ### by the value at hand -/
def vIn (S : Hs) (x y : D) : Option D := match y with
  | .str z => vInStr S x (.str z)
  | .tup z => vInSeq S x (.tup z)
  | y => match seqOf S y with | some _ => vInSeq S x y | none => vInDct S x y
def vNotInStr (_ : Hs) (x y : D) : Option D := match x, y with
  | .str [c], .str z => some (.bl (!decide (c ∈ z)))
  | _, _ => none
def vNotIn (S : Hs) (x y : D) : Option D := match y with
  | .str z => vNotInStr S x (.str z)
  | .tup z => vNotInSeq S x (.tup z)
  | y => match seqOf S y with | some _ => vNotInSeq S x y | none => vNotInDct S x y
def vIx (S : Hs) (x i : D) : Option D := match x with
  | .str z => vIxS S (.str z) i
  | .tup z => vIxT S (.tup z) i
  | x => match seqOf S x with | some _ => vIxL S x i | none => vIxD S x i
def vSl (lo hi : Option Int) (S : Hs) (x : D) : Option D := match x with
  | .str z => vSlS lo hi S (.str z)
  | .tup z => vSlT lo hi S (.tup z)
  | x => vSlL lo hi S x
def iAny (e : DE) : DI := fun L S => (e L S).bind fun x S1 => match x with
  | .tup xs => .ok (none, xs) S1
  | .str s => if s.length ≤ big then .ok (none, s.map fun c => .str [c]) S1 else .bad
  | .lst xs => .ok (none, xs) S1
  | .ref i => match S1[i]? with | some (.lst xs) => .ok (some i, xs) S1 | _ => .bad
  | _ => .bad
end G

namespace G
open PySem L2
/-! # GSem 1: values and heaps -/
structure Ctx where
  K : PySem.W.Frag
  P : Program
  w : World
  cA : Nat → Addr
  xA : Nat → Addr
  T : List (Addr × Str)
structure Wd where
  R : List Addr
  ι : List Addr
  S : Hs
  H : Hp
def isGone : AO → Bool
  | .gone => true
  | _ => false
def Wd.Live (g : Wd) (a : Addr) : Prop := ∃ (i : Nat) (o : AO), g.ι[i]? = some a ∧ g.S[i]? = some o ∧ isGone o = false
def sOf (s : List Nat) : Str := ⟨s.toArray⟩
theorem sOf_inj {s t : List Nat} (h : sOf s = sOf t) : s = t := by
  have := congrArg (fun x : Str => x.cps.toList) h
  simpa [sOf] using this
def okS (s : List Nat) : Bool := s.all (· < 0x110000)
theorem okS_str {s : List Nat} (h : okS s = true) : PyData.strOk (sOf s) = true := by
  unfold PyData.strOk sOf
  rw [Array.all_eq_true]
  intro i hi
  have := List.all_eq_true.mp h (s[i]'(by simpa using hi)) (List.getElem_mem _)
  simpa using this
def TupAt (K : PySem.W.Frag) (H : Hp) (a : Addr) (vs : List V) : Prop :=
  H a = some (.tup vs) ∨ ∃ (o : Obj) (its : Array Value) (n : Nat), K.lookup a = some o ∧ o.cls = .type "tuple" ∧ o.data = .seq its n ∧ its.size ≤ sizeLine ∧ Vals vs its.toList
def LstAt (g : Wd) (a : Addr) (vs : List V) : Prop := g.H a = some (.lst vs) ∧ ¬ g.Live a ∧ a ∉ g.R
def ScrAt (K : PySem.W.Frag) (g : Wd) (a : Addr) (vs : List V) : Prop :=
  (Rd g.H a (.lst vs) ∧ ¬ g.Live a ∧ a ∉ g.R) ∨ ∃ (o : Obj) (its : Array Value) (n : Nat), K.lookup a = some o ∧ o.cls = .type "list" ∧ o.dict = none ∧ o.data = .seq its n ∧ its.size ≤ sizeLine ∧ Vals vs its.toList
def DctAt (g : Wd) (a : Addr) (kvs : List (Key × V)) : Prop := g.H a = some (.dK kvs) ∧ ¬ g.Live a ∧ a ∉ g.R
theorem TupAt.sq {K : PySem.W.Frag} {H : Hp} {a : Addr} {vs : List V} (h : TupAt K H a vs) : SqT K H a vs := by
  rcases h with h | h
  · exact .inl (.inl h)
  · exact .inr h
theorem LstAt.sq {K : PySem.W.Frag} {g : Wd} {a : Addr} {vs : List V} (h : LstAt g a vs) : SqL K g.H a vs := SqL.of h.1
theorem ScrAt.sq {K : PySem.W.Frag} {g : Wd} {a : Addr} {vs : List V} (h : ScrAt K g a vs) : SqL K g.H a vs := by
  rcases h with h | h
  · exact .inl h.1
  · exact .inr h
def keyD : Key → D
  | .inl i => .int i
  | .inr x => .str x.cps.toList
mutual
inductive Rep (Γ : Ctx) (g : Wd) : D → V → Prop
  | non : Rep Γ g .non .non
  | bl (b : Bool) : Rep Γ g (.bl b) (.bl b)
  | int (i : Int) : Rep Γ g (.int i) (.int i)
  | str (s : List Nat) : okS s = true → Rep Γ g (.str s) (.str (sOf s))
  | tup {a : Addr} {vs : List V} {xs : List D} : TupAt Γ.K g.H a vs → Reps Γ g xs vs → Rep Γ g (.tup xs) (.ref a)
  | lst {a : Addr} {vs : List V} {xs : List D} : LstAt g a vs → Reps Γ g xs vs → Rep Γ g (.lst xs) (.ref a)
  | dct {a : Addr} {vs : List (Key × V)} {xs : List (D × D)} : DctAt g a vs → RepK Γ g xs vs → Rep Γ g (.dct xs) (.ref a)
  | ref {a : Addr} {i : Nat} : g.ι[i]? = some a → Rep Γ g (.ref i) (.ref a)
  | scr {a : Addr} {ns : List Int} : ScrAt Γ.K g a (ns.map V.int) → Rep Γ g (.scr ns) (.ref a)
inductive Reps (Γ : Ctx) (g : Wd) : List D → List V → Prop
  | nil : Reps Γ g [] []
  | cons {d : D} {ds : List D} {v : V} {vs : List V} : Rep Γ g d v → Reps Γ g ds vs → Reps Γ g (d :: ds) (v :: vs)
inductive RepK (Γ : Ctx) (g : Wd) : List (D × D) → List (Key × V) → Prop
  | nil : RepK Γ g [] []
  | cons {k d : D} {ds : List (D × D)} {key : Key} {v : V} {vs : List (Key × V)} : k = keyD key → Rep Γ g k (kV key) → Rep Γ g d v → RepK Γ g ds vs → RepK Γ g ((k, d) :: ds) ((key, v) :: vs)
end
structure Tr (g g' : Wd) : Prop where
  pre : ∃ more, g'.ι = g.ι ++ more
  kp : ∀ b o, g.H b = some o → ¬ g.Live b → (∀ ps, o ≠ .tbl ps) → g'.H b = some o ∧ ¬ g'.Live b ∧ (b ∉ g.R → b ∉ g'.R)
  tups : ∀ b xs, g.H b = some (.tup xs) → g'.H b = some (.tup xs)
structure Step (g g' : Wd) : Prop where
  R : g'.R = g.R
  pre : ∃ more, g'.ι = g.ι ++ more
  keep : ∀ b o, g.H b = some o → ¬ g.Live b → (∀ ps, o ≠ .tbl ps) → g'.H b = some o ∧ ¬ g'.Live b
  tups : ∀ b xs, g.H b = some (.tup xs) → g'.H b = some (.tup xs)
theorem Step.tr {g g' : Wd} (s : Step g g') : Tr g g' := ⟨s.pre, fun b o h n t => ⟨(s.keep b o h n t).1, (s.keep b o h n t).2, fun r => by rw [s.R]; exact r⟩, s.tups⟩
theorem Step.refl (g : Wd) : Step g g := ⟨rfl, ⟨[], by simp⟩, fun b o h n _ => ⟨h, n⟩, fun _ _ h => h⟩
theorem Step.trans {a b c : Wd} (x : Step a b) (y : Step b c) : Step a c where
  R := y.R.trans x.R
  pre := by
    obtain ⟨m, e⟩ := x.pre
    obtain ⟨m', e'⟩ := y.pre
    exact ⟨m ++ m', by rw [e', e, List.append_assoc]⟩
  keep := fun z o h n t => let ⟨h1, n1⟩ := x.keep z o h n t; y.keep z o h1 n1 t
  tups := fun z xs h => y.tups z xs (x.tups z xs h)
theorem Tr.trans {a b c : Wd} (x : Tr a b) (y : Tr b c) : Tr a c where
  pre := by
    obtain ⟨m, e⟩ := x.pre
    obtain ⟨m', e'⟩ := y.pre
    exact ⟨m ++ m', by rw [e', e, List.append_assoc]⟩
  kp := fun z o h n t => let ⟨h1, n1, r1⟩ := x.kp z o h n t; let ⟨h2, n2, r2⟩ := y.kp z o h1 n1 t; ⟨h2, n2, fun r => r2 (r1 r)⟩
  tups := fun z xs h => y.tups z xs (x.tups z xs h)
theorem Tr.step {g g' : Wd} (s : Tr g g') (h : g'.R = g.R) : Step g g' := ⟨h, s.pre, fun b o x n t => ⟨(s.kp b o x n t).1, (s.kp b o x n t).2.1⟩, s.tups⟩
theorem Tr.ref {g g' : Wd} (s : Tr g g') {i : Nat} {a : Addr} (h : g.ι[i]? = some a) : g'.ι[i]? = some a := by
  obtain ⟨m, e⟩ := s.pre
  rw [e, List.getElem?_append_left (List.getElem?_eq_some_iff.mp h).1]
  exact h
theorem TupAt.step {K : PySem.W.Frag} {g g' : Wd} {a : Addr} {vs : List V} (s : Tr g g') (h : TupAt K g.H a vs) : TupAt K g'.H a vs := by
  rcases h with h | h
  · exact .inl (s.tups _ _ h)
  · exact .inr h
theorem LstAt.step {g g' : Wd} {a : Addr} {vs : List V} (s : Tr g g') (h : LstAt g a vs) : LstAt g' a vs := by
  obtain ⟨h, n, r⟩ := h
  obtain ⟨h1, n1, r1⟩ := s.kp a _ h n (fun _ z => by cases z)
  exact ⟨h1, n1, r1 r⟩
theorem ScrAt.step {K : PySem.W.Frag} {g g' : Wd} {a : Addr} {vs : List V} (s : Tr g g') (h : ScrAt K g a vs) : ScrAt K g' a vs := by
  rcases h with ⟨h, n, r⟩ | h
  · rcases h with h | ⟨o, h⟩
    · obtain ⟨h1, n1, r1⟩ := s.kp a _ h n (fun _ z => by cases z)
      exact .inl ⟨.inl h1, n1, r1 r⟩
    · obtain ⟨h1, n1, r1⟩ := s.kp a _ h n (fun _ z => by cases z)
      exact .inl ⟨.inr ⟨o, h1⟩, n1, r1 r⟩
  · exact .inr h
theorem DctAt.step {g g' : Wd} {a : Addr} {vs : List (Key × V)} (s : Tr g g') (h : DctAt g a vs) : DctAt g' a vs := by
  obtain ⟨h, n, r⟩ := h
  obtain ⟨h1, n1, r1⟩ := s.kp a _ h n (fun _ z => by cases z)
  exact ⟨h1, n1, r1 r⟩
mutual
theorem Rep.tr {Γ : Ctx} {g g' : Wd} (s : Tr g g') : ∀ (d : D) {v : V}, Rep Γ g d v → Rep Γ g' d v
  | .non, _, h => by cases h; exact .non
  | .bl b, _, h => by cases h; exact .bl b
  | .int b, _, h => by cases h; exact .int b
  | .str b, _, h => by cases h; exact .str b (by assumption)
  | .tup xs, _, h => by
    cases h with
    | tup h1 h2 => exact .tup (h1.step s) (Reps.tr s xs h2)
  | .lst xs, _, h => by
    cases h with
    | lst h1 h2 => exact .lst (h1.step s) (Reps.tr s xs h2)
  | .dct xs, _, h => by
    cases h with
    | dct h1 h2 => exact .dct (h1.step s) (RepK.tr s xs h2)
  | .ref i, _, h => by
    cases h with
    | ref h1 => exact .ref (s.ref h1)
  | .scr i, _, h => by
    cases h with
    | scr h1 => exact .scr (h1.step s)
theorem Reps.tr {Γ : Ctx} {g g' : Wd} (s : Tr g g') : ∀ (ds : List D) {vs : List V}, Reps Γ g ds vs → Reps Γ g' ds vs
  | [], _, h => by cases h; exact .nil
  | d :: ds, _, h => by
    cases h with
    | cons h1 h2 => exact .cons (Rep.tr s d h1) (Reps.tr s ds h2)
theorem RepK.tr {Γ : Ctx} {g g' : Wd} (s : Tr g g') : ∀ (ds : List (D × D)) {vs : List (Key × V)}, RepK Γ g ds vs → RepK Γ g' ds vs
  | [], _, h => by cases h; exact .nil
  | (k, d) :: ds, _, h => by
    cases h with
    | cons e h0 h1 h2 => exact .cons e (Rep.tr s k h0) (Rep.tr s d h1) (RepK.tr s ds h2)
end
theorem Rep.step {Γ : Ctx} {g g' : Wd} (s : Step g g') (d : D) {v : V} (h : Rep Γ g d v) : Rep Γ g' d v := Rep.tr s.tr d h
theorem Reps.step {Γ : Ctx} {g g' : Wd} (s : Step g g') (d : List D) {v : List V} (h : Reps Γ g d v) : Reps Γ g' d v := Reps.tr s.tr d h
theorem RepK.step {Γ : Ctx} {g g' : Wd} (s : Step g g') (d : List (D × D)) {v : List (Key × V)} (h : RepK Γ g d v) : RepK Γ g' d v := RepK.tr s.tr d h
theorem Reps.length {Γ : Ctx} {g : Wd} : ∀ {ds : List D} {vs : List V}, Reps Γ g ds vs → ds.length = vs.length
  | [], _, h => by cases h; rfl
  | _ :: ds, _, h => by
    cases h with
    | cons _ h2 => simp [Reps.length h2]
theorem RepK.length {Γ : Ctx} {g : Wd} : ∀ {ds : List (D × D)} {vs : List (Key × V)}, RepK Γ g ds vs → ds.length = vs.length
  | [], _, h => by cases h; rfl
  | _ :: ds, _, h => by
    cases h with
    | cons _ _ _ h2 => simp [RepK.length h2]
theorem Reps.get {Γ : Ctx} {g : Wd} : ∀ {ds : List D} {vs : List V} {i : Nat} {d : D}, Reps Γ g ds vs → ds[i]? = some d → ∃ v, vs[i]? = some v ∧ Rep Γ g d v
  | [], _, _, _, h, e => by simp at e
  | _ :: ds, _, 0, _, h, e => by
    cases h with
    | cons h1 h2 => simp at e; subst e; exact ⟨_, rfl, h1⟩
  | _ :: ds, _, i + 1, d, h, e => by
    cases h with
    | cons h1 h2 =>
      obtain ⟨v, q, r⟩ := Reps.get (i := i) (d := d) h2 (by simpa using e)
      exact ⟨v, by simpa using q, r⟩
theorem Reps.get' {Γ : Ctx} {g : Wd} : ∀ {ds : List D} {vs : List V} {i : Nat} {v : V}, Reps Γ g ds vs → vs[i]? = some v → ∃ d, ds[i]? = some d ∧ Rep Γ g d v
  | _, [], _, _, h, e => by simp at e
  | _, _ :: ds, 0, _, h, e => by
    cases h with
    | cons h1 h2 => simp at e; subst e; exact ⟨_, rfl, h1⟩
  | _, _ :: ds, i + 1, d, h, e => by
    cases h with
    | cons h1 h2 =>
      obtain ⟨v, q, r⟩ := Reps.get' (i := i) (v := d) h2 (by simpa using e)
      exact ⟨v, by simpa using q, r⟩
theorem Reps.append {Γ : Ctx} {g : Wd} : ∀ {ds es : List D} {vs us : List V}, Reps Γ g ds vs → Reps Γ g es us → Reps Γ g (ds ++ es) (vs ++ us)
  | [], _, _, _, h, q => by cases h; exact q
  | _ :: _, _, _, _, h, q => by
    cases h with
    | cons h1 h2 => exact .cons h1 (Reps.append h2 q)
theorem Reps.take {Γ : Ctx} {g : Wd} : ∀ {ds : List D} {vs : List V} (n : Nat), Reps Γ g ds vs → Reps Γ g (ds.take n) (vs.take n)
  | _, _, 0, _ => by simp; exact .nil
  | [], _, n + 1, h => by cases h; exact .nil
  | _ :: _, _, n + 1, h => by
    cases h with
    | cons h1 h2 => exact .cons h1 (Reps.take n h2)
theorem Reps.drop {Γ : Ctx} {g : Wd} : ∀ {ds : List D} {vs : List V} (n : Nat), Reps Γ g ds vs → Reps Γ g (ds.drop n) (vs.drop n)
  | _, _, 0, h => h
  | [], _, n + 1, h => by cases h; exact .nil
  | _ :: _, _, n + 1, h => by
    cases h with
    | cons h1 h2 => exact Reps.drop n h2

def RepF (Γ : Ctx) (g : Wd) : List (List Nat × D) → List (Str × V) → Prop := Paired fun p q => q.1 = sOf p.1 ∧ Rep Γ g p.2 q.2
theorem RepF.step {Γ : Ctx} {g g' : Wd} (s : Tr g g') {fs : List (List Nat × D)} {vs : List (Str × V)} (h : RepF Γ g fs vs) : RepF Γ g' fs vs := Paired.mapP h fun p q z => ⟨z.1, Rep.tr s _ z.2⟩
def RepO (Γ : Ctx) (g : Wd) (a : Addr) : AO → Prop
  | .lst xs => ∃ vs, g.H a = some (.lst vs) ∧ Reps Γ g xs vs
  | .dct kvs => ∃ vs, g.H a = some (.dK vs) ∧ RepK Γ g kvs vs
  | .lck kvs => ∃ o vs, g.H a = some (.frz o (.dK vs)) ∧ RepK Γ g kvs vs
  | .dtt _ => False
  | .lkt _ => False
  | .ins c fs => ∃ dx vs, g.H a = some (.ins (Γ.cA c) dx vs) ∧ RepF Γ g fs vs
  | .gone => ∃ o, g.H a = some o ∧ (∀ ps, o ≠ .tbl ps) ∧ ∀ xs, o ≠ .tup xs
def Small : HO → Prop
  | .lst xs => xs.length ≤ sizeLine
  | .tup xs => xs.length ≤ sizeLine
  | .dK kvs => kvs.length ≤ sizeLine
  | .dT kvs => kvs.length ≤ sizeLine
  | .frz _ u => Small u
  | _ => True
theorem small_of {P : Program} {w : World} {H : Hp} {h : Heap} {a : Addr} : ∀ {o : HO}, ObjOk P w H h a o → Small o
  | .lst _, x => x.1
  | .tup _, x => x.1
  | .dK _, x => x.1
  | .dT _, x => x.1
  | .frz _ u, x => small_of (o := u) x.2
  | .set _ _, _ => trivial
  | .ins _ _ _, _ => trivial
  | .own _, _ => trivial
  | .xd _, _ => trivial
  | .met _ _, _ => trivial
  | .rng _ _, _ => trivial
  | .tbl _, _ => trivial
  | .ext _, _ => trivial
structure Sim (Γ : Ctx) (g : Wd) : Prop where
  len : g.ι.length = g.S.length
  nd : g.ι.Nodup
  obj : ∀ (i : Nat) (a : Addr) (o : AO), g.ι[i]? = some a → g.S[i]? = some o → RepO Γ g a o
  res : ∀ a ∈ g.R, a ∉ g.ι ∧ ∃ o, g.H a = some o ∧ ∀ ps, o ≠ .tbl ps
  bd : ∀ a o, g.H a = some o → Small o
  tab : LamX.Tabs Γ.T g.H
  code : ∀ c q, g.H c = some (LamX.CodeO c q) → c ∉ g.ι

section
variable {Γ : Ctx} {g g' : Wd} {a p : Addr} {o : AO} {u : HO}
theorem RepO.there (h : RepO Γ g a o) : ∃ u, g.H a = some u ∧ (∀ ps, u ≠ .tbl ps) ∧ ∀ xs, u ≠ .tup xs := by
  cases o with
  | lst xs => obtain ⟨vs, e, _⟩ := h; exact ⟨_, e, (fun _ z => by cases z), fun _ z => by cases z⟩
  | dct xs => obtain ⟨vs, e, _⟩ := h; exact ⟨_, e, (fun _ z => by cases z), fun _ z => by cases z⟩
  | lck xs => obtain ⟨_, vs, e, _⟩ := h; exact ⟨_, e, (fun _ z => by cases z), fun _ z => by cases z⟩
  | dtt xs => exact h.elim
  | lkt xs => exact h.elim
  | ins c fs => obtain ⟨_, vs, e, _⟩ := h; exact ⟨_, e, (fun _ z => by cases z), fun _ z => by cases z⟩
  | gone => exact h
theorem Sim.there (s : Sim Γ g) {i : Nat} (h : g.ι[i]? = some a) : ∃ u, g.H a = some u ∧ (∀ ps, u ≠ .tbl ps) ∧ ∀ xs, u ≠ .tup xs := by
  have hl : i < g.S.length := by rw [← s.len]; exact (List.getElem?_eq_some_iff.mp h).1
  exact (s.obj i a g.S[i] h (by simp [hl])).there
theorem Sim.mem_there (s : Sim Γ g) (h : a ∈ g.ι) : ∃ u, g.H a = some u ∧ (∀ ps, u ≠ .tbl ps) ∧ ∀ xs, u ≠ .tup xs := by
  obtain ⟨i, hi⟩ := List.getElem?_of_mem h
  exact s.there hi
theorem Sim.fresh_not (s : Sim Γ g) (hp : g.H p = none) : p ∉ g.ι := fun h => by
  obtain ⟨u, e, _⟩ := s.mem_there h
  rw [hp] at e; cases e
theorem Wd.Live.mem (h : g.Live a) : a ∈ g.ι := by
  obtain ⟨i, o, e, _⟩ := h
  exact List.mem_of_getElem? e
theorem nodup_get {l : List Addr} (nd : l.Nodup) {i j : Nat} (h1 : l[i]? = some a) (h2 : l[j]? = some a) : i = j := by
  obtain ⟨l1, e1⟩ := List.getElem?_eq_some_iff.mp h1
  obtain ⟨l2, e2⟩ := List.getElem?_eq_some_iff.mp h2
  exact (List.getElem_inj nd).mp (e1.trans e2.symm)
/-- objects keep their reading where their own place is as it was -/
theorem RepO.tr (st : Tr g g') (h : RepO Γ g a o) (e : g'.H a = g.H a) : RepO Γ g' a o := by
  cases o with
  | lst xs => obtain ⟨vs, q, r⟩ := h; exact ⟨vs, e.trans q, Reps.tr st _ r⟩
  | dct xs => obtain ⟨vs, q, r⟩ := h; exact ⟨vs, e.trans q, RepK.tr st _ r⟩
  | lck xs => obtain ⟨x, vs, q, r⟩ := h; exact ⟨x, vs, e.trans q, RepK.tr st _ r⟩
  | dtt xs => exact h.elim
  | lkt xs => exact h.elim
  | ins c fs => obtain ⟨x, vs, q, r⟩ := h; exact ⟨x, vs, e.trans q, r.step st⟩
  | gone => obtain ⟨x, q, r⟩ := h; exact ⟨x, e.trans q, r⟩
theorem RepO.step (st : Step g g') (h : RepO Γ g a o) (e : g'.H a = g.H a) : RepO Γ g' a o := h.tr st.tr e
def Wd.put (g : Wd) (p : Addr) (u : HO) : Wd := { g with H := upd g.H p u }
/-- a new thing that nobody changes -/
theorem Step.fresh (hp : g.H p = none) : Step g (g.put p u) where
  R := rfl
  pre := ⟨[], by simp [Wd.put]⟩
  keep := fun b o h n _ => ⟨(upd_ne (ne_of_none h hp)).trans h, n⟩
  tups := fun b xs h => (upd_ne (ne_of_none h hp)).trans h
theorem Sim.fresh (s : Sim Γ g) (hp : g.H p = none) (hu : Small u) (hc : ∀ c q, u = LamX.CodeO c q → False) : Sim Γ (g.put p u) where
  len := s.len
  nd := s.nd
  obj := fun i a o h1 h2 => by
    have np : a ≠ p := fun z => s.fresh_not hp (z ▸ List.mem_of_getElem? h1)
    exact (s.obj i a o h1 h2).step (Step.fresh hp) (upd_ne np)
  res := fun a ha => let ⟨h1, o, h2, h3⟩ := s.res a ha; ⟨h1, o, (upd_ne (ne_of_none h2 hp)).trans h2, h3⟩
  bd := fun a o h => by
    by_cases e : a = p
    · subst e
      have h' : upd g.H a u a = some o := h
      rw [upd_same] at h'; cases h'; exact hu
    · exact s.bd a o ((upd_ne e).symm.trans h)
  tab := s.tab.ext fun b o h => (upd_ne (ne_of_none h hp)).trans h
  code := fun c q h => by
    by_cases e : c = p
    · subst e
      have h' : upd g.H c u c = some _ := h
      rw [upd_same] at h'; exact (hc c q (Option.some.inj h')).elim
    · exact s.code c q ((upd_ne e).symm.trans h)
/-- a new object -/
def Wd.push (g : Wd) (p : Addr) (u : HO) (o : AO) : Wd := { g with ι := g.ι ++ [p], S := g.S ++ [o], H := upd g.H p u }
theorem Step.push (s : Sim Γ g) (hp : g.H p = none) : Step g (g.push p u o) where
  R := rfl
  pre := ⟨[p], rfl⟩
  keep := fun b ob h n _ => by
    refine ⟨(upd_ne (ne_of_none h hp)).trans h, fun ⟨i, x, h1, h2, h3⟩ => ?_⟩
    have h1 : (g.ι ++ [p])[i]? = some b := h1
    have h2 : (g.S ++ [o])[i]? = some x := h2
    by_cases hi : i < g.ι.length
    · rw [List.getElem?_append_left hi] at h1
      rw [List.getElem?_append_left (by rw [← s.len]; exact hi)] at h2
      exact n ⟨i, x, h1, h2, h3⟩
    · rw [List.getElem?_append_right (by omega)] at h1
      have : b = p := by
        cases q : i - g.ι.length with
        | zero => rw [q] at h1; simpa using h1.symm
        | succ _ => rw [q] at h1; simp at h1
      rw [this, hp] at h; cases h
  tups := fun b xs h => (upd_ne (ne_of_none h hp)).trans h
theorem Sim.push (s : Sim Γ g) (hp : g.H p = none) (hu : Small u) (hc : ∀ c q, u = LamX.CodeO c q → False) (ho : RepO Γ (g.push p u o) p o) : Sim Γ (g.push p u o) where
  len := by simp [Wd.push, s.len]
  nd := by
    show (g.ι ++ [p]).Nodup
    rw [List.nodup_append]
    exact ⟨s.nd, by simp, fun x hx y hy => by simp at hy; subst hy; exact fun z => s.fresh_not hp (z ▸ hx)⟩
  obj := fun i a ob h1 h2 => by
    have h1 : (g.ι ++ [p])[i]? = some a := h1
    have h2 : (g.S ++ [o])[i]? = some ob := h2
    by_cases hi : i < g.ι.length
    · rw [List.getElem?_append_left hi] at h1
      rw [List.getElem?_append_left (by rw [← s.len]; exact hi)] at h2
      have np : a ≠ p := fun z => s.fresh_not hp (z ▸ List.mem_of_getElem? h1)
      exact (s.obj i a ob h1 h2).step (Step.push s hp) (upd_ne np)
    · rw [List.getElem?_append_right (by omega)] at h1
      rw [List.getElem?_append_right (by rw [← s.len]; omega), ← s.len] at h2
      cases q : i - g.ι.length with
      | zero => rw [q] at h1 h2; simp at h1 h2; subst h1; subst h2; exact ho
      | succ _ => rw [q] at h1; simp at h1
  res := fun a ha => by
    obtain ⟨h1, o, h2, h3⟩ := s.res a ha
    refine ⟨fun hm => ?_, o, (upd_ne (ne_of_none h2 hp)).trans h2, h3⟩
    have hm : a ∈ g.ι ++ [p] := hm
    rw [List.mem_append] at hm
    rcases hm with hm | hm
    · exact h1 hm
    · simp at hm; subst hm; rw [hp] at h2; cases h2
  bd := fun a o h => by
    by_cases e : a = p
    · subst e
      have h' : upd g.H a u a = some o := h
      rw [upd_same] at h'; cases h'; exact hu
    · exact s.bd a o ((upd_ne e).symm.trans h)
  tab := s.tab.ext fun b o h => (upd_ne (ne_of_none h hp)).trans h
  code := fun c q h hm => by
    by_cases e : c = p
    · subst e
      have h' : upd g.H c u c = some _ := h
      rw [upd_same] at h'; exact (hc c q (Option.some.inj h')).elim
    · have hm : c ∈ g.ι ++ [p] := hm
      rw [List.mem_append] at hm
      rcases hm with hm | hm
      · exact s.code c q ((upd_ne e).symm.trans h) hm
      · simp at hm; exact e hm
/-- an object changed -/
def Wd.chg (g : Wd) (i : Nat) (a : Addr) (u : HO) (o : AO) : Wd := { g with S := g.S.set i o, H := upd g.H a u }
theorem Step.chg {i : Nat} {o0 : AO} (s : Sim Γ g) (h1 : g.ι[i]? = some a) (h2 : g.S[i]? = some o0) (h3 : isGone o0 = false) : Step g (g.chg i a u o) where
  R := rfl
  pre := ⟨[], by simp [Wd.chg]⟩
  keep := fun b ob h n _ => by
    have nb : b ≠ a := fun z => n (z ▸ ⟨i, o0, h1, h2, h3⟩)
    refine ⟨(upd_ne nb).trans h, fun ⟨j, x, q1, q2, q3⟩ => ?_⟩
    have q1 : g.ι[j]? = some b := q1
    have q2 : (g.S.set i o)[j]? = some x := q2
    have nj : i ≠ j := fun z => nb (Option.some.inj ((q1.symm.trans (z ▸ h1))))
    rw [List.getElem?_set_ne nj] at q2
    exact n ⟨j, x, q1, q2, q3⟩
  tups := fun b xs h => by
    obtain ⟨w, e, _, nt⟩ := s.there h1
    have : b ≠ a := fun z => by rw [z, e] at h; exact nt xs (Option.some.inj h)
    exact (upd_ne this).trans h
theorem tabs_chg {T : List (Addr × Str)} {H : Hp} (t : LamX.Tabs T H) (h1 : ∀ ps, H a ≠ some (.tbl ps)) (h2 : ∀ q, H a ≠ some (LamX.CodeO a q)) : LamX.Tabs T (upd H a u) := fun x hx => by
  obtain ⟨ps, hP, tr, hc⟩ := t x hx
  have n1 : x.1 ≠ a := fun z => h1 ps (z ▸ hP)
  refine ⟨ps, (upd_ne n1).trans hP, tr, fun pos cv hcv => ?_⟩
  obtain ⟨c, e, hH⟩ := hc pos cv hcv
  have n2 : c ≠ a := fun z => h2 x.2 (by rw [z] at hH; exact hH)
  exact ⟨c, e, (upd_ne n2).trans hH⟩
theorem Sim.chg {i : Nat} {o0 : AO} (s : Sim Γ g) (h1 : g.ι[i]? = some a) (h2 : g.S[i]? = some o0) (h3 : isGone o0 = false) (hu : Small u) (hc : ∀ c q, u = LamX.CodeO c q → False) (ho : RepO Γ (g.chg i a u o) a o) : Sim Γ (g.chg i a u o) where
  len := by simp [Wd.chg, s.len]
  nd := s.nd
  obj := fun j b ob q1 q2 => by
    have q1 : g.ι[j]? = some b := q1
    have q2 : (g.S.set i o)[j]? = some ob := q2
    by_cases hj : j = i
    · have eb : b = a := Option.some.inj (q1.symm.trans (by rw [hj]; exact h1))
      rw [hj, List.getElem?_set_self (List.getElem?_eq_some_iff.mp h2).1] at q2
      cases q2; rw [eb]; exact ho
    · rw [List.getElem?_set_ne (Ne.symm hj)] at q2
      have nb : b ≠ a := fun z => hj (nodup_get s.nd (z ▸ q1) h1)
      exact (s.obj j b ob q1 q2).step (Step.chg s h1 h2 h3) (upd_ne nb)
  res := fun r hr => let ⟨q1, o, q2, q3⟩ := s.res r hr; ⟨q1, o, (upd_ne (fun (z : r = a) => q1 (by rw [z]; exact List.mem_of_getElem? h1))).trans q2, q3⟩
  bd := fun b o h => by
    by_cases e : b = a
    · subst e
      have h' : upd g.H b u b = some o := h
      rw [upd_same] at h'; cases h'; exact hu
    · exact s.bd b o ((upd_ne e).symm.trans h)
  tab := by
    obtain ⟨w, e, nt, _⟩ := s.there h1
    exact tabs_chg s.tab (fun ps z => nt ps (Option.some.inj (e.symm.trans z))) fun q z => s.code a q z (List.mem_of_getElem? h1)
  code := fun c q h => by
    by_cases e : c = a
    · subst e
      have h' : upd g.H c u c = some _ := h
      rw [upd_same] at h'; exact (hc c q (Option.some.inj h')).elim
    · exact s.code c q ((upd_ne e).symm.trans h)
end

/-! ### locals -/
def RepL (Γ : Ctx) (g : Wd) (L : Lc) (σ : St) : Prop := L.length = σ.length ∧ ∀ (i : Nat) (d : D), L[i]? = some (some d) → ∃ v, σ[i]? = some (some v) ∧ Rep Γ g d v
theorem RepL.step {Γ : Ctx} {g g' : Wd} (s : Step g g') {L : Lc} {σ : St} (h : RepL Γ g L σ) : RepL Γ g' L σ :=
  ⟨h.1, fun i d e => let ⟨v, q, r⟩ := h.2 i d e; ⟨v, q, Rep.step s _ r⟩⟩
theorem RepL.tr {Γ : Ctx} {g g' : Wd} (s : Tr g g') {L : Lc} {σ : St} (h : RepL Γ g L σ) : RepL Γ g' L σ :=
  ⟨h.1, fun i d e => let ⟨v, q, r⟩ := h.2 i d e; ⟨v, q, Rep.tr s _ r⟩⟩
theorem RepL.set {Γ : Ctx} {g : Wd} {L : Lc} {σ : St} {d : D} {v : V} (i : Nat) (h : RepL Γ g L σ) (r : Rep Γ g d v) : RepL Γ g (L.set i (some d)) (σ.set i (some v)) := by
  refine ⟨by simp [h.1], fun j e q => ?_⟩
  by_cases hj : j = i
  · subst hj
    have hl : j < L.length := by simpa using (List.getElem?_eq_some_iff.mp q).1
    rw [List.getElem?_set_self hl] at q
    cases q
    exact ⟨v, by rw [List.getElem?_set_self (by rw [← h.1]; exact hl)], r⟩
  · rw [List.getElem?_set_ne (Ne.symm hj)] at q
    obtain ⟨w, q1, q2⟩ := h.2 j e q
    exact ⟨w, by rw [List.getElem?_set_ne (Ne.symm hj)]; exact q1, q2⟩

/-! ### outcomes -/
abbrev Rl (α β : Type) := Ctx → Wd → α → β → Prop
def WP {α β : Type} (Γ : Ctx) (W : WX) (σ : St) (Rr : Rl α β) (g : Wd) (o : Out α) (Q : β → Hp → Prop) : Prop :=
  match o with
  | .ok a S' => ∀ g' b, g'.S = S' → Step g g' → Sim Γ g' → Rr Γ g' a b → Q b g'.H
  | .exc c S' => ∀ g', g'.S = S' → Step g g' → Sim Γ g' → W (.ref (Γ.xA c)) none σ g'.H
  | .bad => False
theorem WP.bind {α β γ δ : Type} {Γ : Ctx} {W : WX} {σ : St} {R1 : Rl α β} {R2 : Rl γ δ} {g : Wd} {o : Out α} {f : α → Hs → Out γ} {Q : δ → Hp → Prop}
    (h : WP Γ W σ R2 g (o.bind f) Q) : WP Γ W σ R1 g o (fun b H1 => ∃ g1 a, g1.H = H1 ∧ Sim Γ g1 ∧ Step g g1 ∧ R1 Γ g1 a b ∧ WP Γ W σ R2 g1 (f a g1.S) Q) := by
  cases o with
  | ok a S1 =>
    intro g1 b e st sim r
    refine ⟨g1, a, rfl, sim, st, r, ?_⟩
    have h : WP Γ W σ R2 g (f a S1) Q := h
    rw [e]
    cases q : f a S1 with
    | ok c S2 => rw [q] at h; exact fun g2 b2 e2 st2 sim2 r2 => h g2 b2 e2 (st.trans st2) sim2 r2
    | exc c S2 => rw [q] at h; exact fun g2 e2 st2 sim2 => h g2 e2 (st.trans st2) sim2
    | bad => rw [q] at h; exact h
  | exc c S1 => exact h
  | bad => exact h
theorem WP.mono {α β : Type} {Γ : Ctx} {W : WX} {σ : St} {Rr : Rl α β} {g : Wd} {o : Out α} {Q Q' : β → Hp → Prop} (h : WP Γ W σ Rr g o Q) (k : ∀ b H, Q b H → Q' b H) : WP Γ W σ Rr g o Q' := by
  cases o with
  | ok a S1 => exact fun g1 b e st sim r => k _ _ (h g1 b e st sim r)
  | exc c S1 => exact h
  | bad => exact h
theorem WP.step {α β : Type} {Γ : Ctx} {W : WX} {σ : St} {Rr : Rl α β} {g g0 : Wd} {o : Out α} {Q : β → Hp → Prop} (h : WP Γ W σ Rr g0 o Q) (st : Step g0 g) : WP Γ W σ Rr g o Q := by
  cases o with
  | ok a S1 => exact fun g1 b e st1 sim r => h g1 b e (st.trans st1) sim r
  | exc c S1 => exact fun g1 e st1 sim => h g1 e (st.trans st1) sim
  | bad => exact h
/-- at an end that is known -/
theorem WP.here {α β : Type} {Γ : Ctx} {W : WX} {σ : St} {Rr : Rl α β} {g : Wd} {a : α} {b : β} {Q : β → Hp → Prop} (h : WP Γ W σ Rr g (.ok a g.S) Q) (s : Sim Γ g) (r : Rr Γ g a b) : Q b g.H := h g b rfl (Step.refl g) s r
theorem WP.opt {α β : Type} {Γ : Ctx} {W : WX} {σ : St} {Rr : Rl α β} {g : Wd} {o : Option α} {Q : β → Hp → Prop} (h : WP Γ W σ Rr g (ofOpt o g.S) Q) : ∃ a, o = some a ∧ WP Γ W σ Rr g (.ok a g.S) Q := by
  cases o with
  | none => exact False.elim h
  | some a => exact ⟨a, rfl, h⟩
abbrev rD : Rl D V := fun Γ g d v => Rep Γ g d v
abbrev rDs : Rl (List D) (List V) := fun Γ g d v => Reps Γ g d v
abbrev rB : Rl Bool Bool := fun _ _ a b => a = b
/-- the readings -/
def tD (Γ : Ctx) (W : WX) (d : DE) : TE := fun σ H Q => ∃ g L, g.H = H ∧ Sim Γ g ∧ RepL Γ g L σ ∧ WP Γ W σ rD g (d L g.S) Q
def tA (Γ : Ctx) (W : WX) (d : DA) : TA := fun σ H Q => ∃ g L, g.H = H ∧ Sim Γ g ∧ RepL Γ g L σ ∧ WP Γ W σ rDs g (d L g.S) Q
def tTt (Γ : Ctx) (W : WX) (d : DT) : TT := fun σ H Q => ∃ g L, g.H = H ∧ Sim Γ g ∧ RepL Γ g L σ ∧ WP Γ W σ rB g (d L g.S) Q
def WPS (Γ : Ctx) (W : WX) (g : Wd) (o : OutS) (E : Ends) : Prop :=
  match o with
  | .nx L' S' => ∀ g' σ', g'.S = S' → Step g g' → Sim Γ g' → RepL Γ g' L' σ' → E.nx σ' g'.H
  | .bk L' S' => ∀ g' σ', g'.S = S' → Step g g' → Sim Γ g' → RepL Γ g' L' σ' → E.bk σ' g'.H
  | .ct L' S' => ∀ g' σ', g'.S = S' → Step g g' → Sim Γ g' → RepL Γ g' L' σ' → E.ct σ' g'.H
  | .rt d S' => ∀ g' v, g'.S = S' → Step g g' → Sim Γ g' → Rep Γ g' d v → E.rt v g'.H
  | .exc c S' => ∀ g' σ', g'.S = S' → Step g g' → Sim Γ g' → W (.ref (Γ.xA c)) none σ' g'.H
  | .bad => False
def tDS (Γ : Ctx) (W : WX) (d : DS) : TS := fun E σ H => ∃ g L, g.H = H ∧ Sim Γ g ∧ RepL Γ g L σ ∧ WPS Γ W g (d L g.S) E
theorem WPS.toS {α β : Type} {Γ : Ctx} {W : WX} {σ : St} {R1 : Rl α β} {g : Wd} {o : Out α} {f : α → Hs → OutS} {E : Ends}
    (h : WPS Γ W g (o.toS f) E) : WP Γ W σ R1 g o (fun b H1 => ∃ g1 a, g1.H = H1 ∧ Sim Γ g1 ∧ Step g g1 ∧ R1 Γ g1 a b ∧ WPS Γ W g1 (f a g1.S) E) := by
  cases o with
  | ok a S1 =>
    intro g1 b e st sim r
    refine ⟨g1, a, rfl, sim, st, r, ?_⟩
    have h : WPS Γ W g (f a S1) E := h
    rw [e]
    cases q : f a S1 with
    | nx L S2 => rw [q] at h; exact fun g2 σ2 e2 st2 sim2 r2 => h g2 σ2 e2 (st.trans st2) sim2 r2
    | bk L S2 => rw [q] at h; exact fun g2 σ2 e2 st2 sim2 r2 => h g2 σ2 e2 (st.trans st2) sim2 r2
    | ct L S2 => rw [q] at h; exact fun g2 σ2 e2 st2 sim2 r2 => h g2 σ2 e2 (st.trans st2) sim2 r2
    | rt d S2 => rw [q] at h; exact fun g2 v e2 st2 sim2 r2 => h g2 v e2 (st.trans st2) sim2 r2
    | exc c S2 => rw [q] at h; exact fun g2 σ2 e2 st2 sim2 => h g2 σ2 e2 (st.trans st2) sim2
    | bad => rw [q] at h; exact h
  | exc c S1 => exact fun g1 e st sim => h g1 σ e st sim
  | bad => exact h
theorem WPS.step {Γ : Ctx} {W : WX} {g g0 : Wd} {o : OutS} {E : Ends} (h : WPS Γ W g0 o E) (st : Step g0 g) : WPS Γ W g o E := by
  cases o with
  | nx L S2 => exact fun g2 σ2 e2 st2 sim2 r2 => h g2 σ2 e2 (st.trans st2) sim2 r2
  | bk L S2 => exact fun g2 σ2 e2 st2 sim2 r2 => h g2 σ2 e2 (st.trans st2) sim2 r2
  | ct L S2 => exact fun g2 σ2 e2 st2 sim2 r2 => h g2 σ2 e2 (st.trans st2) sim2 r2
  | rt d S2 => exact fun g2 v e2 st2 sim2 r2 => h g2 v e2 (st.trans st2) sim2 r2
  | exc c S2 => exact fun g2 σ2 e2 st2 sim2 => h g2 σ2 e2 (st.trans st2) sim2
  | bad => exact h
end G

namespace G
open PySem L2
/-! # GR1: rules of expressions -/
structure On (X : Cx) (Γ : Ctx) : Prop where
  K : X.K = Γ.K
  P : X.prog = Γ.P
  w : X.w = Γ.w
theorem PE.of {X : Cx} {Γ : Ctx} {W : WX} {e : Expr} {t : TE} {d : DE} (h : PE X e t) (k : ∀ g L σ Q, Sim Γ g → RepL Γ g L σ → WP Γ W σ rD g (d L g.S) Q → t σ g.H Q) : PE X e (tD Γ W d) :=
  ⟨fun pins s σ H Q I ⟨g, L, e, sim, rl, w⟩ => by subst e; exact h.run pins s σ g.H Q I (k g L σ Q sim rl w)⟩
theorem PT.of {X : Cx} {Γ : Ctx} {W : WX} {e : Expr} {t : TT} {d : DT} (h : PT X e t) (k : ∀ g L σ Q, Sim Γ g → RepL Γ g L σ → WP Γ W σ rB g (d L g.S) Q → t σ g.H Q) : PT X e (tTt Γ W d) :=
  ⟨fun pins s σ H Q I ⟨g, L, e, sim, rl, w⟩ => by subst e; exact h.run pins s σ g.H Q I (k g L σ Q sim rl w)⟩
theorem PW.of {X : Cx} {Γ : Ctx} {W : WX} {e : Expr} {t : TT} {d : DT} (h : PW X e t) (k : ∀ g L σ Q, Sim Γ g → RepL Γ g L σ → WP Γ W σ rB g (d L g.S) Q → t σ g.H Q) : PW X e (tTt Γ W d) :=
  ⟨fun wh pins s σ H Q I ⟨g, L, e, sim, rl, w⟩ => by subst e; exact h.run wh pins s σ g.H Q I (k g L σ Q sim rl w)⟩
theorem PA.of {X : Cx} {Γ : Ctx} {W : WX} {e : List Expr} {t : TA} {d : DA} (h : PA X e t) (k : ∀ g L σ Q, Sim Γ g → RepL Γ g L σ → WP Γ W σ rDs g (d L g.S) Q → t σ g.H Q) : PA X e (tA Γ W d) :=
  ⟨fun pos pins s σ H Q I ⟨g, L, e, sim, rl, w⟩ => by subst e; exact h.run pos pins s σ g.H Q I (k g L σ Q sim rl w)⟩
theorem tD.mono {Γ : Ctx} {W : WX} {d : DE} {σ : St} {H : Hp} {Q Q' : VK} (h : tD Γ W d σ H Q) (k : ∀ b H, Q b H → Q' b H) : tD Γ W d σ H Q' := let ⟨g, L, e, s, rl, w⟩ := h; ⟨g, L, e, s, rl, w.mono k⟩
theorem tA.mono {Γ : Ctx} {W : WX} {d : DA} {σ : St} {H : Hp} {Q Q' : List V → Hp → Prop} (h : tA Γ W d σ H Q) (k : ∀ b H, Q b H → Q' b H) : tA Γ W d σ H Q' := let ⟨g, L, e, s, rl, w⟩ := h; ⟨g, L, e, s, rl, w.mono k⟩
theorem tTt.mono {Γ : Ctx} {W : WX} {d : DT} {σ : St} {H : Hp} {Q Q' : Bool → Hp → Prop} (h : tTt Γ W d σ H Q) (k : ∀ b H, Q b H → Q' b H) : tTt Γ W d σ H Q' := let ⟨g, L, e, s, rl, w⟩ := h; ⟨g, L, e, s, rl, w.mono k⟩
section
variable {Γ : Ctx} {W : WX} {g : Wd} {L : Lc} {σ : St} {γ δ : Type} {R2 : Rl γ δ} {Q : δ → Hp → Prop} {E : Ends}
theorem run1 {da : DE} {f : D → Hs → Out γ} (sim : Sim Γ g) (rl : RepL Γ g L σ) (h : WP Γ W σ R2 g ((da L g.S).bind f) Q) :
    tD Γ W da σ g.H (fun x H1 => ∃ g1 dx, g1.H = H1 ∧ Sim Γ g1 ∧ Step g g1 ∧ RepL Γ g1 L σ ∧ Rep Γ g1 dx x ∧ WP Γ W σ R2 g1 (f dx g1.S) Q) :=
  ⟨g, L, rfl, sim, rl, (WP.bind h).mono fun b H ⟨g1, a, e, s1, st, r, w⟩ => ⟨g1, a, e, s1, st, rl.step st, r, w⟩⟩
theorem runA {da : DA} {f : List D → Hs → Out γ} (sim : Sim Γ g) (rl : RepL Γ g L σ) (h : WP Γ W σ R2 g ((da L g.S).bind f) Q) :
    tA Γ W da σ g.H (fun x H1 => ∃ g1 dx, g1.H = H1 ∧ Sim Γ g1 ∧ Step g g1 ∧ RepL Γ g1 L σ ∧ Reps Γ g1 dx x ∧ WP Γ W σ R2 g1 (f dx g1.S) Q) :=
  ⟨g, L, rfl, sim, rl, (WP.bind h).mono fun b H ⟨g1, a, e, s1, st, r, w⟩ => ⟨g1, a, e, s1, st, rl.step st, r, w⟩⟩
theorem runT {da : DT} {f : Bool → Hs → Out γ} (sim : Sim Γ g) (rl : RepL Γ g L σ) (h : WP Γ W σ R2 g ((da L g.S).bind f) Q) :
    tTt Γ W da σ g.H (fun x H1 => ∃ g1, g1.H = H1 ∧ Sim Γ g1 ∧ Step g g1 ∧ RepL Γ g1 L σ ∧ WP Γ W σ R2 g1 (f x g1.S) Q) :=
  ⟨g, L, rfl, sim, rl, (WP.bind h).mono fun b H ⟨g1, a, e, s1, st, r, w⟩ => ⟨g1, e, s1, st, rl.step st, by cases (show a = b from r); exact w⟩⟩
theorem run1S {da : DE} {f : D → Hs → OutS} (sim : Sim Γ g) (rl : RepL Γ g L σ) (h : WPS Γ W g ((da L g.S).toS f) E) :
    tD Γ W da σ g.H (fun x H1 => ∃ g1 dx, g1.H = H1 ∧ Sim Γ g1 ∧ Step g g1 ∧ RepL Γ g1 L σ ∧ Rep Γ g1 dx x ∧ WPS Γ W g1 (f dx g1.S) E) :=
  ⟨g, L, rfl, sim, rl, (WPS.toS h).mono fun b H ⟨g1, a, e, s1, st, r, w⟩ => ⟨g1, a, e, s1, st, rl.step st, r, w⟩⟩
theorem runTS {da : DT} {f : Bool → Hs → OutS} (sim : Sim Γ g) (rl : RepL Γ g L σ) (h : WPS Γ W g ((da L g.S).toS f) E) :
    tTt Γ W da σ g.H (fun x H1 => ∃ g1, g1.H = H1 ∧ Sim Γ g1 ∧ Step g g1 ∧ RepL Γ g1 L σ ∧ WPS Γ W g1 (f x g1.S) E) :=
  ⟨g, L, rfl, sim, rl, (WPS.toS h).mono fun b H ⟨g1, a, e, s1, st, r, w⟩ => ⟨g1, e, s1, st, rl.step st, by cases (show a = b from r); exact w⟩⟩
end

/-! ### ends -/
/-- what is wanted of a value that comes of a world -/
abbrev Fin1 (Γ : Ctx) (g : Wd) (v : D) (Q : VK) : Prop := ∀ g' b, g'.S = g.S → Step g g' → Sim Γ g' → Rep Γ g' v b → Q b g'.H
section
variable {Γ : Ctx} {g : Wd} {Q : VK} {p : Addr} {vs : List V} {xs : List D} {v : D} {b : V}
theorem Fin1.same (q : Fin1 Γ g v Q) (s : Sim Γ g) (r : Rep Γ g v b) : Q b g.H := q g b rfl (Step.refl g) s r
theorem small_line {n : Nat} (h : n ≤ big) : n ≤ sizeLine := by rw [sizeLine_eq]; exact h
theorem Sim.notR (s : Sim Γ g) (hp : g.H p = none) : p ∉ g.R := fun h => by
  obtain ⟨_, o, e, _⟩ := s.res p h
  rw [hp] at e; cases e
theorem Sim.notLive (s : Sim Γ g) (hp : g.H p = none) : ¬ g.Live p := fun h => s.fresh_not hp h.mem
theorem put_live {u : HO} {a : Addr} : (g.put p u).Live a ↔ g.Live a := Iff.rfl
theorem Fin1.lst (q : Fin1 Γ g (.lst xs) Q) (s : Sim Γ g) (r : Reps Γ g xs vs) (hz : vs.length ≤ sizeLine) (hp : g.H p = none) : Q (.ref p) (upd g.H p (.lst vs)) := by
  have s' : Sim Γ (g.put p (.lst vs)) := s.fresh hp hz (fun c q z => by cases z)
  exact q (g.put p (.lst vs)) (.ref p) rfl (Step.fresh hp) s' (.lst ⟨upd_same, s.notLive hp, s.notR hp⟩ (Reps.step (Step.fresh hp) _ r))
theorem Fin1.tup (q : Fin1 Γ g (.tup xs) Q) (s : Sim Γ g) (r : Reps Γ g xs vs) (hz : vs.length ≤ sizeLine) (hp : g.H p = none) : Q (.ref p) (upd g.H p (.tup vs)) := by
  have s' : Sim Γ (g.put p (.tup vs)) := s.fresh hp hz (fun c q z => by cases z)
  exact q (g.put p (.tup vs)) (.ref p) rfl (Step.fresh hp) s' (.tup (.inl upd_same) (Reps.step (Step.fresh hp) _ r))
theorem WP.fin {W : WX} {σ : St} (h : WP Γ W σ rD g (.ok v g.S) Q) : Fin1 Γ g v Q := h
/-- a list's items -/
theorem seqX_rep (s : Sim Γ g) {d : D} (r : Rep Γ g d b) (h : seqX g.S d = some xs) : ∃ a vs, b = .ref a ∧ g.H a = some (.lst vs) ∧ Reps Γ g xs vs := by
  cases r with
  | lst h1 h2 => cases h; exact ⟨_, _, rfl, h1.1, h2⟩
  | @ref a i h1 =>
    simp only [seqX] at h
    cases q : g.S[i]? with
    | none => rw [q] at h; cases h
    | some o =>
      rw [q] at h
      cases o with
      | lst ys => cases h; obtain ⟨vs, e1, e2⟩ := s.obj i a _ h1 q; exact ⟨a, vs, rfl, e1, e2⟩
      | _ => cases h
  | _ => cases h
theorem reps_ints : ∀ ns : List Int, Reps Γ g (ns.map D.int) (ns.map V.int)
  | [] => .nil
  | n :: ns => .cons (.int n) (reps_ints ns)
theorem seqOf_rep (s : Sim Γ g) {d : D} (r : Rep Γ g d b) (h : seqOf g.S d = some xs) : ∃ a vs, b = .ref a ∧ SqL Γ.K g.H a vs ∧ Reps Γ g xs vs := by
  cases r with
  | lst h1 h2 => cases h; exact ⟨_, _, rfl, h1.sq, h2⟩
  | @ref a i h1 =>
    simp only [seqOf] at h
    cases q : g.S[i]? with
    | none => rw [q] at h; cases h
    | some o =>
      rw [q] at h
      cases o with
      | lst ys => cases h; obtain ⟨vs, e1, e2⟩ := s.obj i a _ h1 q; exact ⟨a, vs, rfl, SqL.of e1, e2⟩
      | _ => cases h
  | scr h1 => cases h; exact ⟨_, _, rfl, h1.sq, reps_ints _⟩
  | _ => cases h
/-- sizes -/
theorem Sim.lstLe (s : Sim Γ g) {a : Addr} (h : g.H a = some (.lst vs)) : vs.length ≤ sizeLine := s.bd a _ h
theorem sqL_le {X : Cx} {pins : List (Addr × Obj)} {σ : St} {H : Hp} {sh : Shared} {a : Addr} (I : Inv X pins σ H sh) (h : SqL X.K H a vs) : vs.length ≤ sizeLine := let ⟨_, _, _, z⟩ := I.list h; z
theorem sqT_le {X : Cx} {pins : List (Addr × Obj)} {σ : St} {H : Hp} {sh : Shared} {a : Addr} (I : Inv X pins σ H sh) (h : SqT X.K H a vs) : vs.length ≤ sizeLine := let ⟨_, _, _, z⟩ := I.tuple h; z
/-! ### data -/
def toPy : D → PyData
  | .non => .none
  | .bl b => .bool b
  | .int i => .int i
  | .str s => .str (sOf s)
  | .tup xs => .tuple (toPys xs)
  | .lst xs => .list (toPys xs)
  | _ => .none
where toPys : List D → List PyData
  | [] => []
  | x :: xs => toPy x :: toPys xs
mutual
theorem dp_of : ∀ (k : Nat) (d : D) {v : V}, D.okd k d = true → Rep Γ g d v → Dp Γ.K g.H v (toPy d)
  | _, .non, _, _, r => by cases r; exact .non
  | _, .bl b, _, _, r => by cases r; exact .bl b
  | _, .int b, _, _, r => by cases r; exact .int b
  | _, .str b, _, _, r => by cases r; exact .str _
  | k, .tup xs, _, h, r => by
    cases r with
    | tup h1 h2 =>
      cases k with
      | zero => simp [D.okd] at h
      | succ k => exact .tup h1.sq (dps_of k xs (by simpa [D.okd] using h) h2)
  | k, .lst xs, _, h, r => by
    cases r with
    | lst h1 h2 =>
      cases k with
      | zero => simp [D.okd] at h
      | succ k => exact .lst h1.sq (dps_of k xs (by simpa [D.okd] using h) h2)
  | _, .dct _, _, h, _ => by simp [D.okd] at h
  | _, .ref _, _, h, _ => by simp [D.okd] at h
  | _, .scr _, _, h, _ => by simp [D.okd] at h
theorem dps_of : ∀ (k : Nat) (ds : List D) {vs : List V}, D.okds k ds = true → Reps Γ g ds vs → DpAll Γ.K g.H vs (toPy.toPys ds)
  | _, [], _, _, r => by cases r; exact .nil
  | k, d :: ds, _, h, r => by
    cases r with
    | cons h1 h2 =>
      simp only [D.okds, Bool.and_eq_true] at h
      exact .cons (dp_of k d h.1 h1) (dps_of k ds h.2 h2)
end
mutual
theorem shp_of : ∀ (k : Nat) (d : D) {v : V}, D.okd k d = true → Rep Γ g d v → (toPy d).canLay0 = true ∧ (toPy d).depth ≤ k
  | _, .non, _, _, _ => ⟨rfl, Nat.zero_le _⟩
  | _, .bl b, _, _, _ => ⟨rfl, Nat.zero_le _⟩
  | _, .int b, _, _, _ => ⟨rfl, Nat.zero_le _⟩
  | _, .str b, _, _, r => by cases r with | str _ h => exact ⟨okS_str h, Nat.zero_le _⟩
  | k, .tup xs, _, h, r => by
    cases r with
    | tup h1 h2 =>
      cases k with
      | zero => simp [D.okd] at h
      | succ k =>
        obtain ⟨a, b⟩ := shps_of k xs (by simpa [D.okd] using h) h2
        exact ⟨by simpa [toPy, PyData.canLay0] using a, by simpa [toPy, PyData.depth] using b⟩
  | k, .lst xs, _, h, r => by
    cases r with
    | lst h1 h2 =>
      cases k with
      | zero => simp [D.okd] at h
      | succ k =>
        obtain ⟨a, b⟩ := shps_of k xs (by simpa [D.okd] using h) h2
        exact ⟨by simpa [toPy, PyData.canLay0] using a, by simpa [toPy, PyData.depth] using b⟩
  | _, .dct _, _, h, _ => by simp [D.okd] at h
  | _, .ref _, _, h, _ => by simp [D.okd] at h
  | _, .scr _, _, h, _ => by simp [D.okd] at h
theorem shps_of : ∀ (k : Nat) (ds : List D) {vs : List V}, D.okds k ds = true → Reps Γ g ds vs → PyData.canLayAll0 (toPy.toPys ds) = true ∧ PyData.depthAll (toPy.toPys ds) ≤ k
  | _, [], _, _, _ => ⟨rfl, Nat.zero_le _⟩
  | k, d :: ds, _, h, r => by
    cases r with
    | cons h1 h2 =>
      simp only [D.okds, Bool.and_eq_true] at h
      obtain ⟨a, b⟩ := shp_of k d h.1 h1
      obtain ⟨c, e⟩ := shps_of k ds h.2 h2
      exact ⟨by simp [toPy.toPys, PyData.canLayAll0, a, c], by simp only [toPy.toPys, PyData.depthAll]; omega⟩
end
theorem shaped_of {k : Nat} {d : D} {v : V} (hk : k ≤ 64) (h : D.okd k d = true) (r : Rep Γ g d v) : SeqAt.shaped (toPy d) = true := by
  obtain ⟨a, b⟩ := shp_of k d h r
  unfold SeqAt.shaped
  rw [a, Bool.true_and]
  exact decide_eq_true (by omega)
mutual
theorem eqv_of : ∀ (j k : Nat) (d e : D), D.okd j d = true → D.okd k e = true → PyData.eqv (toPy d) (toPy e) = D.eqv d e
  | _, _, .non, e, _, h => by cases e <;> first | (simp [D.okd] at h; done) | simp [toPy, PyData.eqv, D.eqv]
  | _, _, .bl _, e, _, h => by cases e <;> first | (simp [D.okd] at h; done) | simp [toPy, PyData.eqv, D.eqv]
  | _, _, .int _, e, _, h => by cases e <;> first | (simp [D.okd] at h; done) | simp [toPy, PyData.eqv, D.eqv]
  | _, _, .str a, e, _, h => by
    cases e with
    | str b =>
      simp only [toPy, PyData.eqv, D.eqv]
      by_cases q : a = b
      · subst q; simp
      · rw [beq_eq_false_iff_ne.mpr q, beq_eq_false_iff_ne.mpr (fun z => q (sOf_inj z))]
    | _ => first | (simp [D.okd] at h; done) | simp [toPy, PyData.eqv, D.eqv]
  | j, k, .tup xs, e, hd, h => by
    cases e with
    | tup ys =>
      cases j with
      | zero => simp [D.okd] at hd
      | succ j =>
        cases k with
        | zero => simp [D.okd] at h
        | succ k => simpa [toPy, PyData.eqv, D.eqv] using eqvs_of j k xs ys (by simpa [D.okd] using hd) (by simpa [D.okd] using h)
    | _ => first | (simp [D.okd] at h; done) | simp [toPy, PyData.eqv, D.eqv]
  | j, k, .lst xs, e, hd, h => by
    cases e with
    | lst ys =>
      cases j with
      | zero => simp [D.okd] at hd
      | succ j =>
        cases k with
        | zero => simp [D.okd] at h
        | succ k => simpa [toPy, PyData.eqv, D.eqv] using eqvs_of j k xs ys (by simpa [D.okd] using hd) (by simpa [D.okd] using h)
    | _ => first | (simp [D.okd] at h; done) | simp [toPy, PyData.eqv, D.eqv]
  | _, _, .dct _, _, h, _ => by simp [D.okd] at h
  | _, _, .ref _, _, h, _ => by simp [D.okd] at h
  | _, _, .scr _, _, h, _ => by simp [D.okd] at h
theorem eqvs_of : ∀ (j k : Nat) (d e : List D), D.okds j d = true → D.okds k e = true → PyData.eqvAll (toPy.toPys d) (toPy.toPys e) = D.eqvs d e
  | _, _, [], [], _, _ => by simp [toPy.toPys, PyData.eqvAll, D.eqvs]
  | _, _, [], _ :: _, _, _ => by simp [toPy.toPys, PyData.eqvAll, D.eqvs]
  | _, _, _ :: _, [], _, _ => by simp [toPy.toPys, PyData.eqvAll, D.eqvs]
  | j, k, d :: ds, e :: es, h1, h2 => by
    simp only [D.okds, Bool.and_eq_true] at h1 h2
    simp only [toPy.toPys, PyData.eqvAll, D.eqvs]
    rw [eqv_of j k d e h1.1 h2.1, eqvs_of j k ds es h1.2 h2.2]
end
end
end G

namespace G
open PySem L2
/-! # GR2: rules by values -/
def rV2 (Γ : Ctx) (f : Hs → D → D → Option D) : R2 := fun x y H Q => ∃ g dx dy v, g.H = H ∧ Sim Γ g ∧ Rep Γ g dx x ∧ Rep Γ g dy y ∧ f g.S dx dy = some v ∧ Fin1 Γ g v Q
def rV1 (Γ : Ctx) (f : Hs → D → Option D) : V → Hp → VK → Prop := fun x H Q => ∃ g dx v, g.H = H ∧ Sim Γ g ∧ Rep Γ g dx x ∧ f g.S dx = some v ∧ Fin1 Γ g v Q
def rVs (Γ : Ctx) (f : Hs → List D → Option D) : List V → Hp → VK → Prop := fun x H Q => ∃ g dx v, g.H = H ∧ Sim Γ g ∧ Reps Γ g dx x ∧ f g.S dx = some v ∧ Fin1 Γ g v Q
def rSlV (Γ : Ctx) (f : Option Int → Option Int → Hs → D → Option D) : V → Option Int → Option Int → Hp → VK → Prop := fun x lo hi H Q => ∃ g dx v, g.H = H ∧ Sim Γ g ∧ Rep Γ g dx x ∧ f lo hi g.S dx = some v ∧ Fin1 Γ g v Q
section
variable {X : Cx} {Γ : Ctx}
theorem sqL_x {H : Hp} {a : Addr} {vs : List V} (hx : On X Γ) (h : SqL Γ.K H a vs) : SqL X.K H a vs := by rw [hx.K]; exact h
theorem sqT_x {H : Hp} {a : Addr} {vs : List V} (hx : On X Γ) (h : SqT Γ.K H a vs) : SqT X.K H a vs := by rw [hx.K]; exact h
theorem dp_x {H : Hp} {v : V} {d : PyData} (hx : On X Γ) (h : Dp Γ.K H v d) : Dp X.K H v d := by rw [hx.K]; exact h
theorem line_big : sizeLine = big := by rw [sizeLine_eq]; rfl
theorem seqX_none_of {S : Hs} {d : D} (h : seqOf S d = none) : True := trivial
theorem op_addD (hx : On X Γ) : OpR X (binaryOp .Add) (rV2 Γ vAdd) := by
  intro pins s σ H x y v u Q I rx ry h
  obtain ⟨g, dx, dy, z, rfl, sim, r1, r2, hf, q⟩ := h
  unfold vAdd at hf
  split at hf
  · cases r1; cases r2; cases hf
    exact op_add pins s σ g.H _ _ v u Q I rx ry ⟨_, _, rfl, rfl, q.same sim (.int _)⟩
  · rename_i a b
    cases r1 with
    | str _ h1 =>
      cases r2 with
      | str _ h2 =>
        split at hf
        · rename_i hz
          cases hf
          have e : sOf a ++ sOf b = sOf (a ++ b) := by
            show (⟨a.toArray ++ b.toArray⟩ : Str) = ⟨(a ++ b).toArray⟩
            simp
          refine op_add_str pins s σ g.H _ _ v u Q I rx ry ⟨sOf a, sOf b, rfl, rfl, ?_, ?_⟩
          · rw [line_big]; simpa [sOf, Str.length] using hz
          · rw [e]
            exact q.same sim (.str _ (by simp only [okS, List.all_append, Bool.and_eq_true]; exact ⟨h1, h2⟩))
        · cases hf
  · rename_i a b
    cases r1 with
    | @tup a1 vs1 _ t1 s1 =>
      cases r2 with
      | @tup a2 vs2 _ t2 s2 =>
        split at hf
        · rename_i hz
          cases hf
          have hl : vs1.length + vs2.length ≤ sizeLine := by rw [← s1.length, ← s2.length, line_big]; exact hz
          refine op_catA pins s σ g.H _ _ v u Q I rx ry ⟨a1, a2, vs1, vs2, rfl, rfl, sqT_x hx t1.sq, sqT_x hx t2.sq, hl, ?_⟩
          refine ⟨fun e => ?_, fun _ e => ?_, fun _ _ p hp => ?_⟩
          · subst e
            have : a = [] := List.eq_nil_of_length_eq_zero (by rw [s1.length]; rfl)
            subst this
            exact q.same sim (.tup t2 s2)
          · subst e
            have : b = [] := List.eq_nil_of_length_eq_zero (by rw [s2.length]; rfl)
            subst this
            rw [List.append_nil] at q
            exact q.same sim (.tup t1 s1)
          · exact q.tup sim (s1.append s2) (by rw [List.length_append]; exact hl) hp
        · cases hf
  · split at hf
    · rename_i a b e1 e2
      split at hf
      · rename_i hz
        cases hf
        obtain ⟨l, vs, rfl, hl, rs⟩ := seqX_rep sim r1 e1
        obtain ⟨l2, vs2, rfl, hl2, rs2⟩ := seqX_rep sim r2 e2
        have hz' : vs.length + vs2.length ≤ sizeLine := by rw [← rs.length, ← rs2.length, line_big]; exact hz
        exact op_cat pins s σ g.H _ _ v u Q I rx ry ⟨l, l2, vs, vs2, rfl, rfl, hl, hl2, hz', fun p hp => q.lst sim (rs.append rs2) (by rw [List.length_append]; exact hz') hp⟩
      · cases hf
    · cases hf
theorem op_subD : OpR X (binaryOp .Sub) (rV2 Γ vSub) := by
  intro pins s σ H x y v u Q I rx ry h
  obtain ⟨g, dx, dy, z, rfl, sim, r1, r2, hf, q⟩ := h
  unfold vSub at hf
  split at hf
  · cases r1; cases r2; cases hf
    exact op_sub pins s σ g.H _ _ v u Q I rx ry ⟨_, _, rfl, rfl, q.same sim (.int _)⟩
  · cases hf
theorem bits_eq (i : Int) : Builtin.Int.intBits i = intBits i := rfl
theorem op_mulI : OpR X (binaryOp .Mult) (rI (fun i j => intBits i + intBits j ≤ 134217728) fun i j => .int (i * j)) := opI fun i j _ _ _ _ _ hc q => PyProof.Rows.mul_int q (IntMulOk.of_le (Nat.le_refl _) (Nat.le_refl _) hc)
theorem reps_rep {g : Wd} {xs : List D} {vs : List V} (h : Reps Γ g xs vs) : ∀ k : Nat, Reps Γ g (List.replicate k xs).flatten (List.replicate k vs).flatten
  | 0 => .nil
  | k + 1 => by
    rw [List.replicate_succ, List.replicate_succ, List.flatten_cons, List.flatten_cons]
    exact h.append (reps_rep h k)
theorem op_mulD : OpR X (binaryOp .Mult) (rV2 Γ vMul) := by
  intro pins s σ H x y v u Q I rx ry h
  obtain ⟨g, dx, dy, z, rfl, sim, r1, r2, hf, q⟩ := h
  unfold vMul at hf
  split at hf
  · split at hf
    · rename_i hc
      cases r1; cases r2; cases hf
      exact op_mulI pins s σ g.H _ _ v u Q I rx ry ⟨_, _, rfl, rfl, hc, q.same sim (.int _)⟩
    · cases hf
  · split at hf
    · rename_i a k hc
      cases hf
      cases r2
      cases r1 with
      | @lst p vs _ h1 h2 =>
        have hz : vs.length * k.toNat ≤ sizeLine := by rw [← h2.length, line_big]; exact hc.2.2
        refine op_rep pins s σ g.H _ _ v u Q I rx ry ⟨p, k, vs, rfl, rfl, h1.1, by omega, hc.2.1, hz, fun p hp => q.lst sim (reps_rep h2 _) ?_ hp⟩
        rw [PyProof.Rows.lm_len_rep_flat, Nat.mul_comm]; exact hz
    · cases hf
  · cases hf
theorem op_fdivD : OpR X (binaryOp .FloorDiv) (rV2 Γ vFdiv) := by
  intro pins s σ H x y v u Q I rx ry h
  obtain ⟨g, dx, dy, z, rfl, sim, r1, r2, hf, q⟩ := h
  unfold vFdiv at hf
  split at hf
  · split at hf
    · rename_i hc
      cases r1; cases r2; cases hf
      exact op_fdivW pins s σ g.H _ _ v u Q I rx ry ⟨_, _, rfl, rfl, hc, q.same sim (.int _)⟩
    · cases hf
  · cases hf
theorem op_modD : OpR X (binaryOp .Mod) (rV2 Γ vMod) := by
  intro pins s σ H x y v u Q I rx ry h
  obtain ⟨g, dx, dy, z, rfl, sim, r1, r2, hf, q⟩ := h
  unfold vMod at hf
  split at hf
  · split at hf
    · rename_i hc
      cases r1; cases r2; cases hf
      exact op_mod pins s σ g.H _ _ v u Q I rx ry ⟨_, _, rfl, rfl, hc, q.same sim (.int _)⟩
    · cases hf
  · cases hf
theorem bitAnd_pp {x y : Int} (hx : 0 ≤ x) (hy : 0 ≤ y) : Builtin.bitAnd x y = ((x.toNat &&& y.toNat : Nat) : Int) := by
  obtain ⟨m, rfl⟩ := Int.eq_ofNat_of_zero_le hx
  obtain ⟨n, rfl⟩ := Int.eq_ofNat_of_zero_le hy
  rfl
theorem op_andD : OpR X (binaryOp .BitAnd) (rV2 Γ vAnd) := by
  intro pins s σ H x y v u Q I rx ry h
  obtain ⟨g, dx, dy, z, rfl, sim, r1, r2, hf, q⟩ := h
  unfold vAnd at hf
  split at hf
  · split at hf
    · rename_i hc
      cases r1; cases r2; cases hf
      exact op_and pins s σ g.H _ _ v u Q I rx ry ⟨_, _, rfl, rfl, by show Q (.int (Builtin.bitAnd _ _)) _; rw [bitAnd_pp hc.1 hc.2]; exact q.same sim (.int _)⟩
    · cases hf
  · cases hf
theorem op_orD : OpR X (binaryOp .BitOr) (rV2 Γ vOr) := by
  intro pins s σ H x y v u Q I rx ry h
  obtain ⟨g, dx, dy, z, rfl, sim, r1, r2, hf, q⟩ := h
  unfold vOr at hf
  split at hf
  · split at hf
    · rename_i hc
      cases r1; cases r2; cases hf
      exact op_or pins s σ g.H _ _ v u Q I rx ry ⟨_, _, rfl, rfl, by show Q (.int (Builtin.bitOr _ _)) _; rw [Bits.bitOr_pp hc.1 hc.2]; exact q.same sim (.int _)⟩
    · cases hf
  · cases hf
theorem un_negD : UnR X (unaryOp .USub) (rV1 Γ vNeg) := by
  intro pins s σ H x v Q I rx h
  obtain ⟨g, dx, z, rfl, sim, r1, hf, q⟩ := h
  unfold vNeg at hf
  split at hf
  · cases r1; cases hf
    exact un_neg pins s σ g.H _ v Q I rx ⟨_, rfl, q.same sim (.int _)⟩
  · cases hf
/-! ### comparisons -/
theorem cmpI {op : CmpOp} {f : Hs → D → D → Option D} {p : Int → Int → Bool} (ho : OpR X (compareOp op) (rI0 fun i j => .bl (p i j))) (hf : ∀ S x y v, f S x y = some v → ∃ i j, x = .int i ∧ y = .int j ∧ v = .bl (p i j)) : OpR X (compareOp op) (rV2 Γ f) := by
  intro pins s σ H x y v u Q I rx ry h
  obtain ⟨g, dx, dy, z, rfl, sim, r1, r2, e, q⟩ := h
  obtain ⟨i, j, rfl, rfl, rfl⟩ := hf _ _ _ _ e
  cases r1; cases r2
  exact ho pins s σ g.H _ _ v u Q I rx ry ⟨_, _, rfl, rfl, q.same sim (.bl _)⟩
theorem op_ltD : OpR X (compareOp .Lt) (rV2 Γ vLt) := cmpI op_lt fun S x y v e => by
  unfold vLt at e; split at e <;> cases e; exact ⟨_, _, rfl, rfl, rfl⟩
theorem op_leD : OpR X (compareOp .LtE) (rV2 Γ vLe) := cmpI op_le fun S x y v e => by
  unfold vLe at e; split at e <;> cases e; exact ⟨_, _, rfl, rfl, rfl⟩
theorem op_gtD : OpR X (compareOp .Gt) (rV2 Γ vGt) := cmpI op_gt fun S x y v e => by
  unfold vGt at e; split at e <;> cases e; exact ⟨_, _, rfl, rfl, rfl⟩
theorem op_geD : OpR X (compareOp .GtE) (rV2 Γ vGe) := cmpI op_ge fun S x y v e => by
  unfold vGe at e; split at e <;> cases e; exact ⟨_, _, rfl, rfl, rfl⟩
theorem nrm_dp {g : Wd} {d : D} {v : V} {k : Nat} (sim : Sim Γ g) (r : Rep Γ g d v) (hk : k ≤ 64) (h : D.okd k (nrm g.S d) = true) : Dp Γ.K g.H v (toPy (nrm g.S d)) ∧ SeqAt.shaped (toPy (nrm g.S d)) = true := by
  unfold nrm at h ⊢
  cases e : seqOf g.S d with
  | none =>
    simp only [e] at h ⊢
    exact ⟨dp_of k d h r, shaped_of hk h r⟩
  | some xs =>
    simp only [e] at h ⊢
    obtain ⟨a, vs, rfl, sq, rs⟩ := seqOf_rep sim r e
    cases k with
    | zero => simp [D.okd] at h
    | succ k =>
      have h' : D.okds k xs = true := by simpa [D.okd] using h
      refine ⟨.lst sq (dps_of k xs h' rs), ?_⟩
      obtain ⟨p, q⟩ := shps_of k xs h' rs
      unfold SeqAt.shaped
      have p' : (toPy (.lst xs)).canLay0 = true := by simpa [toPy, PyData.canLay0] using p
      rw [p', Bool.true_and]
      refine decide_eq_true ?_
      have : (toPy (.lst xs)).depth = PyData.depthAll (toPy.toPys xs) + 1 := by simp [toPy, PyData.depth]
      omega
theorem op_eqV (hx : On X Γ) (hu : X.A.units + 64 < cLine) : OpR X (compareOp .Eq) (rV2 Γ vEq) := by
  intro pins s σ H x y v u Q I rx ry h
  obtain ⟨g, dx, dy, z, rfl, sim, r1, r2, hf, q⟩ := h
  unfold vEq at hf
  split at hf
  · rename_i hc
    rw [Bool.and_eq_true] at hc
    cases hf
    obtain ⟨d1, s1⟩ := nrm_dp sim r1 (Nat.le_refl _) hc.1
    obtain ⟨d2, s2⟩ := nrm_dp sim r2 (Nat.le_refl _) hc.2
    exact op_eqD hu pins s σ g.H _ _ v u Q I rx ry ⟨_, _, dp_x hx d1, dp_x hx d2, s1, s2, by rw [eqv_of _ _ _ _ hc.1 hc.2]; exact q.same sim (.bl _)⟩
  · cases hf
theorem op_neV (hx : On X Γ) (hu : X.A.units + 64 < cLine) : OpR X (compareOp .NotEq) (rV2 Γ vNe) := by
  intro pins s σ H x y v u Q I rx ry h
  obtain ⟨g, dx, dy, z, rfl, sim, r1, r2, hf, q⟩ := h
  unfold vNe at hf
  split at hf
  · rename_i hc
    rw [Bool.and_eq_true] at hc
    cases hf
    obtain ⟨d1, s1⟩ := nrm_dp sim r1 (Nat.le_refl _) hc.1
    obtain ⟨d2, s2⟩ := nrm_dp sim r2 (Nat.le_refl _) hc.2
    exact op_neD hu pins s σ g.H _ _ v u Q I rx ry ⟨_, _, dp_x hx d1, dp_x hx d2, s1, s2, by rw [eqv_of _ _ _ _ hc.1 hc.2]; exact q.same sim (.bl _)⟩
  · cases hf
theorem isNon_rep {g : Wd} {d : D} {v : V} (r : Rep Γ g d v) : decide (v = .non) = isNon d := by
  cases r <;> first | rfl | simp [isNon]
/-! ### x in a list or tuple -/
theorem any_toPy {j k : Nat} {x : D} (hx : D.okd j x = true) : ∀ {ys : List D}, D.okds k ys = true → ((toPy.toPys ys).any fun z => PyData.eqv z (toPy x)) = ys.any fun z => D.eqv z x
  | [], _ => rfl
  | y :: ys, h => by
    simp only [D.okds, Bool.and_eq_true] at h
    simp only [toPy.toPys, List.any_cons]
    rw [eqv_of _ _ _ _ h.1 hx, any_toPy hx h.2]
theorem flat_rep {g : Wd} {d : D} {v : V} (h : D.okd 0 d = true) (r : Rep Γ g d v) : flatV v = true := by
  cases r <;> first | rfl | (simp [D.okd] at h)
theorem flats_rep {g : Wd} : ∀ {ds : List D} {vs : List V}, D.okds 0 ds = true → Reps Γ g ds vs → vs.all flatV = true
  | [], _, _, r => by cases r; rfl
  | d :: ds, _, h, r => by
    cases r with
    | cons h1 h2 =>
      simp only [D.okds, Bool.and_eq_true] at h
      simp only [List.all_cons, Bool.and_eq_true]
      exact ⟨flat_rep h.1 h1, flats_rep h.2 h2⟩
theorem eqV_rep {g : Wd} {d e : D} {v u : V} (hd : D.okd 0 d = true) (he : D.okd 0 e = true) (r : Rep Γ g d v) (r' : Rep Γ g e u) : eqV v u = D.eqv d e := by
  cases r <;> first | (simp [D.okd] at hd; done) | (cases r' <;> first | (simp [D.okd] at he; done) | (simp [eqV, D.eqv]; done) | skip)
  rename_i a _ b _
  simp only [eqV, D.eqv]
  by_cases q : a = b
  · subst q; simp
  · rw [beq_eq_false_iff_ne.mpr q, beq_eq_false_iff_ne.mpr (fun z => q (sOf_inj z))]
theorem inV_rep {g : Wd} {x : D} {v : V} (hx : D.okd 0 x = true) (r : Rep Γ g x v) : ∀ {ds : List D} {vs : List V}, D.okds 0 ds = true → Reps Γ g ds vs → inV v vs = ds.any fun z => D.eqv z x
  | [], _, _, q => by cases q; rfl
  | d :: ds, _, h, q => by
    cases q with
    | cons h1 h2 =>
      simp only [D.okds, Bool.and_eq_true] at h
      have := inV_rep hx r h.2 h2
      unfold inV at this ⊢
      rw [List.any_cons, List.any_cons, eqV_rep h.1 hx h1 r, this]
theorem dpl_of {g : Wd} {k : Nat} {xs : List D} {a : Addr} {vs : List V} (hk : k < 64) (h : D.okds k xs = true) (sq : SqL Γ.K g.H a vs) (rs : Reps Γ g xs vs) : Dp Γ.K g.H (.ref a) (.list (toPy.toPys xs)) ∧ SeqAt.shaped (.list (toPy.toPys xs)) = true := by
  refine ⟨.lst sq (dps_of k xs h rs), ?_⟩
  obtain ⟨p, q⟩ := shps_of k xs h rs
  unfold SeqAt.shaped
  have p' : (PyData.list (toPy.toPys xs)).canLay0 = true := by simpa [PyData.canLay0] using p
  rw [p', Bool.true_and]
  refine decide_eq_true ?_
  have : (PyData.list (toPy.toPys xs)).depth = PyData.depthAll (toPy.toPys xs) + 1 := by simp [PyData.depth]
  omega
theorem op_inSeqD (hx : On X Γ) (hu : X.A.units + 65 < cLine) : OpR X (compareOp .In) (rV2 Γ vInSeq) := by
  intro pins s σ H x y v u Q I rx ry h
  obtain ⟨g, dx, dy, z, rfl, sim, r1, r2, hf, q⟩ := h
  unfold vInSeq at hf
  split at hf
  · rename_i ys
    unfold inFlat at hf
    split at hf
    · rename_i hc
      rw [Bool.and_eq_true] at hc
      cases hf
      cases r2 with
      | tup t1 t2 => exact op_in_seq pins s σ g.H _ _ v u Q I rx ry ⟨_, _, rfl, .inr (sqT_x hx t1.sq), flat_rep hc.1 r1, flats_rep hc.2 t2, by rw [if_neg (by decide), inV_rep hc.1 r1 hc.2 t2]; exact q.same sim (.bl _)⟩
    · cases hf
  · split at hf
    · rename_i ys e
      unfold inSeq at hf
      split at hf
      · rename_i hc
        rw [Bool.and_eq_true] at hc
        cases hf
        obtain ⟨a, vs, rfl, sq, rs⟩ := seqOf_rep sim r2 e
        obtain ⟨d2, s2⟩ := dpl_of (by decide) hc.2 sq rs
        exact op_inD hu pins s σ g.H _ _ v u Q I rx ry ⟨_, _, dp_x hx (dp_of _ _ hc.1 r1), dp_x hx d2, shaped_of (by decide) hc.1 r1, s2, by rw [any_toPy hc.1 hc.2]; exact q.same sim (.bl _)⟩
      · cases hf
    · cases hf
theorem op_notInSeqD (hx : On X Γ) (hu : X.A.units + 65 < cLine) : OpR X (compareOp .NotIn) (rV2 Γ vNotInSeq) := by
  intro pins s σ H x y v u Q I rx ry h
  obtain ⟨g, dx, dy, z, rfl, sim, r1, r2, hf, q⟩ := h
  unfold vNotInSeq at hf
  split at hf
  · rename_i ys
    unfold inFlat at hf
    split at hf
    · rename_i hc
      rw [Bool.and_eq_true] at hc
      cases hf
      cases r2 with
      | tup t1 t2 => exact op_notIn_seq pins s σ g.H _ _ v u Q I rx ry ⟨_, _, rfl, .inr (sqT_x hx t1.sq), flat_rep hc.1 r1, flats_rep hc.2 t2, by rw [if_pos rfl, inV_rep hc.1 r1 hc.2 t2]; exact q.same sim (.bl _)⟩
    · cases hf
  · split at hf
    · rename_i ys e
      unfold inSeq at hf
      split at hf
      · rename_i hc
        rw [Bool.and_eq_true] at hc
        cases hf
        obtain ⟨a, vs, rfl, sq, rs⟩ := seqOf_rep sim r2 e
        obtain ⟨d2, s2⟩ := dpl_of (by decide) hc.2 sq rs
        exact op_notInD hu pins s σ g.H _ _ v u Q I rx ry ⟨_, _, dp_x hx (dp_of _ _ hc.1 r1), dp_x hx d2, shaped_of (by decide) hc.1 r1, s2, by rw [any_toPy hc.1 hc.2]; exact q.same sim (.bl _)⟩
      · cases hf
    · cases hf
theorem op_inStrD : OpR X (compareOp .In) (rV2 Γ vInStr) := by
  intro pins s σ H x y v u Q I rx ry h
  obtain ⟨g, dx, dy, z, rfl, sim, r1, r2, hf, q⟩ := h
  unfold vInStr at hf
  split at hf
  · rename_i c z
    cases hf
    cases r1; cases r2
    exact op_in_sign pins s σ g.H _ _ v u Q I rx ry ⟨c, sOf z, rfl, rfl, q.same sim (.bl _)⟩
  · cases hf
/-! ### places, slices -/
theorem atD_rep {g : Wd} {xs : List D} {vs : List V} {i : Int} {d : D} (rs : Reps Γ g xs vs) (h : atD xs i = some d) : ∃ v, atI vs i = some v ∧ Rep Γ g d v := by
  unfold atD at h
  cases e : ixD xs.length i with
  | none => rw [e] at h; cases h
  | some j =>
    rw [e] at h
    obtain ⟨v, e2, r⟩ := rs.get (i := j) h
    refine ⟨v, ?_, r⟩
    unfold atI
    have : ixN vs.length i = some j := by rw [← rs.length]; exact e
    rw [this]; exact e2
theorem ix_listD (hx : On X Γ) : IxR X (rV2 Γ vIxL) := by
  intro value slice pins s σ H x y v u Q I rx ry h hs
  obtain ⟨g, dx, dy, z, rfl, sim, r1, r2, hf, q⟩ := h
  unfold vIxL at hf
  split at hf
  · rename_i k
    split at hf
    · rename_i xs e
      obtain ⟨a, vs, rfl, sq, rs⟩ := seqOf_rep sim r1 e
      obtain ⟨w, e2, rw'⟩ := atD_rep rs hf
      cases r2
      exact ix_list value slice pins s σ g.H _ _ v u Q I rx ry ⟨a, vs, k, w, rfl, rfl, sqL_x hx sq, e2, q.same sim rw'⟩ hs
    · cases hf
  · cases hf
theorem ix_tupD (hx : On X Γ) : IxR X (rV2 Γ vIxT) := by
  intro value slice pins s σ H x y v u Q I rx ry h hs
  obtain ⟨g, dx, dy, z, rfl, sim, r1, r2, hf, q⟩ := h
  unfold vIxT at hf
  split at hf
  · rename_i xs k
    cases r1 with
    | tup t1 t2 =>
      obtain ⟨w, e2, rw'⟩ := atD_rep t2 hf
      cases r2
      exact ix_tup value slice pins s σ g.H _ _ v u Q I rx ry ⟨_, _, k, w, rfl, rfl, sqT_x hx t1.sq, e2, q.same sim rw'⟩ hs
  · cases hf
theorem ix_strD : IxR X (rV2 Γ vIxS) := by
  intro value slice pins s σ H x y v u Q I rx ry h hs
  obtain ⟨g, dx, dy, z, rfl, sim, r1, r2, hf, q⟩ := h
  unfold vIxS at hf
  split at hf
  · rename_i xs k
    split at hf
    · rename_i hz
      cases e : atD xs k with
      | none => rw [e] at hf; cases hf
      | some c =>
        rw [e] at hf; cases hf
        cases r2
        cases r1 with
        | str _ ho =>
          have hc : okS [c] = true := by
            unfold atD at e
            cases e1 : ixD xs.length k with
            | none => rw [e1] at e; cases e
            | some j =>
              rw [e1] at e
              have := List.all_eq_true.mp ho c (List.mem_of_getElem? e)
              simpa [okS] using this
          exact ix_str value slice pins s σ g.H _ _ v u Q I rx ry ⟨sOf xs, k, c, rfl, rfl, by rw [line_big]; simpa [sOf, Str.length] using hz, e, q.same sim (.str [c] hc)⟩ hs
    · cases hf
  · cases hf
theorem clip_sIx (n d : Nat) (o : Option Int) : HT.sIx n d o = clip n d o := by
  cases o <;> rfl
theorem cut_rep {g : Wd} {xs : List D} {vs : List V} {lo hi : Option Int} (rs : Reps Γ g xs vs) : Reps Γ g (cut xs lo hi) (cutV vs lo hi) := by
  unfold cut cutV
  rw [clip_sIx, clip_sIx, ← rs.length]
  exact (rs.drop _).take _
theorem sl_listD (hx : On X Γ) : SlR X (rSlV Γ vSlL) := by
  intro pins s σ H x v vl vu lo hi sl Q I rx hs pl pu h
  obtain ⟨g, dx, z, rfl, sim, r1, hf, q⟩ := h
  unfold vSlL at hf
  split at hf
  · rename_i xs e
    cases hf
    obtain ⟨a, vs, rfl, sq, rs⟩ := seqOf_rep sim r1 e
    exact sl_list pins s σ g.H _ v vl vu lo hi sl Q I rx hs pl pu ⟨a, vs, rfl, sqL_x hx sq, fun p hp => q.lst sim (cut_rep rs) (Nat.le_trans (cutV_length _ _ _) (sqL_le I (sqL_x hx sq))) hp⟩
  · cases hf
theorem cut_all {α : Type} {xs : List α} {lo hi : Option Int} (h : clip xs.length 0 lo = 0 ∧ clip xs.length xs.length hi = xs.length) : cut xs lo hi = xs := by
  unfold cut
  rw [h.1, h.2]; simp
theorem sl_tupD (hx : On X Γ) : SlR X (rSlV Γ vSlT) := by
  intro pins s σ H x v vl vu lo hi sl Q I rx hs pl pu h
  obtain ⟨g, dx, z, rfl, sim, r1, hf, q⟩ := h
  unfold vSlT at hf
  split at hf
  · rename_i xs
    cases hf
    cases r1 with
    | @tup a vs _ t1 t2 =>
      refine sl_tupA pins s σ g.H _ v vl vu lo hi sl Q I rx hs pl pu ⟨a, vs, rfl, sqT_x hx t1.sq, fun hw => ?_, fun hw p hp => ?_⟩
      · rw [clip_sIx, clip_sIx, ← t2.length] at hw
        rw [cut_all hw] at q
        exact q.same sim (.tup t1 t2)
      · exact q.tup sim (cut_rep t2) (Nat.le_trans (cutV_length _ _ _) (sqT_le I (sqT_x hx t1.sq))) hp
  · cases hf
theorem sl_strD : SlR X (rSlV Γ vSlS) := by
  intro pins s σ H x v vl vu lo hi sl Q I rx hs pl pu h
  obtain ⟨g, dx, z, rfl, sim, r1, hf, q⟩ := h
  unfold vSlS at hf
  split at hf
  · rename_i xs
    split at hf
    · rename_i hz
      cases hf
      cases r1 with
      | str _ ho =>
        have e : cutS (sOf xs) lo hi = sOf (cut xs lo hi) := by
          unfold cutS cut sOf
          rw [clip_sIx, clip_sIx]; simp [Str.length]
        have hc : okS (cut xs lo hi) = true := by
          refine List.all_eq_true.mpr fun c hc => List.all_eq_true.mp ho c ?_
          unfold cut at hc
          exact List.mem_of_mem_drop (List.mem_of_mem_take hc)
        exact sl_str pins s σ g.H _ v vl vu lo hi sl Q I rx hs pl pu ⟨sOf xs, rfl, by rw [line_big]; simpa [sOf, Str.length] using hz, by rw [e]; exact q.same sim (.str _ hc)⟩
    · cases hf
  · cases hf
end
end G

namespace G
open PySem L2
/-! # GR3: expressions -/
section
variable {X : Cx} {Γ : Ctx} {W : WX} {a b c e o : Expr} {es : List Expr} {da db dc : DE} {ds : DA} {pos : Pos}
theorem de_var (i : Nat) {x : Str} (hN : X.N[i]? = some x := by rfl) (hv : Vis X.env.scope x := by first | exact Or.inl rfl | exact Or.inr (Or.inl rfl) | exact Or.inr (Or.inr rfl)) (hd : (x == ("__debug__" : Str)) = false := by decide)
    (hcd : (x == ("__classdict__" : Str)) = false := by decide) : PE X (.Name x pos) (tD Γ W (dVar i)) :=
  PE.of (pe_var hN hv hd hcd) fun g L σ Q sim rl h => by
    unfold dVar at h
    split at h
    · rename_i d e
      obtain ⟨v, e1, r⟩ := rl.2 i d e
      exact ⟨v, e1, h.here sim r⟩
    · exact h.elim
theorem de_c {v : V} {d : D} (h : PE X e (tC v)) (r : ∀ g, Sim Γ g → Rep Γ g d v) : PE X e (tD Γ W (dC d)) :=
  PE.of h fun g L σ Q sim rl h => h.here sim (r g sim)
theorem de_int {i : Int} {j pos} : PE X (.Constant (.int i) j pos) (tD Γ W (dC (.int i))) := de_c pe_int fun _ _ => .int i
theorem de_bl {i : Bool} {j pos} : PE X (.Constant (.bool i) j pos) (tD Γ W (dC (.bl i))) := de_c pe_bl fun _ _ => .bl i
theorem de_non {j pos} : PE X (.Constant .none j pos) (tD Γ W (dC .non)) := de_c pe_non fun _ _ => .non
theorem de_str {x : Str} {s : List Nat} {j pos} (hs : x = sOf s) (ho : okS s = true) : PE X (.Constant (.str x) j pos) (tD Γ W (dC (.str s))) := de_c pe_str fun _ _ => by rw [hs]; exact .str s ho
/-- a module's constant -/
theorem de_glob {x : Str} {v : V} {u : Value} {d : D} {pos : Pos} (hg : Gl X x) (hm : X.mg x = some u) (r : RelV v u) (rd : ∀ g, Sim Γ g → Rep Γ g d v) (hd : (x == ("__debug__" : Str)) = false := by decide) : PE X (.Name x pos) (tD Γ W (dC d)) := de_c (pe_glob hg hm r hd) rd
theorem tOp_of {f : Hs → D → D → Option D} {g : Wd} {L : Lc} {σ : St} {Q : VK} (sim : Sim Γ g) (rl : RepL Γ g L σ) (h : WP Γ W σ rD g (dOp2 f da db L g.S) Q) : tOp (rV2 Γ f) (tD Γ W da) (tD Γ W db) σ g.H Q := by
  refine tD.mono (run1 sim rl h) fun x H1 ⟨g1, dx, e1, s1, st1, rl1, r1, w1⟩ => ?_
  subst e1
  refine tD.mono (run1 s1 rl1 w1) fun y H2 ⟨g2, dy, e2, s2, st2, rl2, r2, w2⟩ => ?_
  obtain ⟨v, e, w⟩ := WP.opt w2
  exact ⟨g2, dx, dy, v, e2, s2, Rep.step st2 _ r1, r2, e, w.fin⟩
theorem de_op {op : Operator} {f : Hs → D → D → Option D} (ho : OpR X (binaryOp op) (rV2 Γ f)) (ha : PE X a (tD Γ W da)) (hb : PE X b (tD Γ W db)) : PE X (.BinOp a op b pos) (tD Γ W (dOp2 f da db)) :=
  PE.of (pe_op ho ha hb) fun g L σ Q sim rl h => tOp_of sim rl h
theorem de_cmp {op : CmpOp} {f : Hs → D → D → Option D} (ho : OpR X (compareOp op) (rV2 Γ f)) (ha : PE X a (tD Γ W da)) (hb : PE X b (tD Γ W db)) (hm : behindInMarks op b = false := by first | exact nomark _ | rfl) : PE X (.Compare a [op] [b] pos) (tD Γ W (dOp2 f da db)) :=
  PE.of (pe_cmpR ho ha hb hm) fun g L σ Q sim rl h => tOp_of sim rl h
theorem rD_bl {g : Wd} {x : V} {d : D} {bb : Bool} (r : Rep Γ g d x) (h : d = .bl bb) : x = .bl bb := by subst h; cases r; rfl
theorem tB_of {d : DE} {t : TE} (ht : ∀ g L σ Q, Sim Γ g → RepL Γ g L σ → WP Γ W σ rD g (d L g.S) Q → t σ g.H Q) : ∀ g L σ Q, Sim Γ g → RepL Γ g L σ → WP Γ W σ rB g (dT d L g.S) Q → (t σ g.H fun x H1 => ∃ c, x = .bl c ∧ Q c H1) := by
  intro g L σ Q sim rl h
  refine ht g L σ _ sim rl ((WP.bind (R1 := rD) h).mono fun x H1 ⟨g1, dx, e1, s1, st, r, w⟩ => ?_)
  subst e1
  cases dx with
  | bl k => cases r; exact ⟨k, rfl, w.here s1 rfl⟩
  | _ => exact w.elim
theorem dt_cmp {op : CmpOp} {f : Hs → D → D → Option D} (ho : OpR X (compareOp op) (rV2 Γ f)) (ha : PE X a (tD Γ W da)) (hb : PE X b (tD Γ W db)) (hm : behindInMarks op b = false := by first | exact nomark _ | rfl) : PT X (.Compare a [op] [b] pos) (tTt Γ W (dT (dOp2 f da db))) :=
  PT.of (pt_cmpR ho ha hb hm) (tB_of fun g L σ Q sim rl h => tOp_of sim rl h)
theorem dt_val (ha : PE X a (tD Γ W da)) (he : ∀ whole, isTrue a X.env whole = (do let v ← whole; standAt a.pos; holding [v] (truthy v)) := by intro _; rfl) : PT X a (tTt Γ W (dT da)) :=
  PT.of (pt_val ha he) (tB_of fun g L σ Q sim rl h => ⟨g, L, rfl, sim, rl, h⟩)
/-! ### is None -/
theorem tUn_of {f : Hs → D → Option D} {r : V → Hp → VK → Prop} {g : Wd} {L : Lc} {σ : St} {Q : VK} (hr : ∀ x H Q, rV1 Γ f x H Q → r x H Q) (sim : Sim Γ g) (rl : RepL Γ g L σ) (h : WP Γ W σ rD g (dOp1 f da L g.S) Q) : (tD Γ W da σ g.H fun x H1 => r x H1 Q) := by
  refine tD.mono (run1 sim rl h) fun x H1 ⟨g1, dx, e1, s1, st1, rl1, r1, w1⟩ => ?_
  obtain ⟨v, e, w⟩ := WP.opt w1
  exact hr _ _ _ ⟨g1, dx, v, e1, s1, r1, e, w.fin⟩
theorem isN_r : ∀ x H Q, rV1 Γ vIsN x H Q → Q (.bl (decide (x = .non))) H := fun x H Q ⟨g, dx, v, e, sim, r, hf, q⟩ => by
  subst e; cases hf; rw [isNon_rep r]; exact q.same sim (.bl _)
theorem notN_r : ∀ x H Q, rV1 Γ vNotN x H Q → Q (.bl (!decide (x = .non))) H := fun x H Q ⟨g, dx, v, e, sim, r, hf, q⟩ => by
  subst e; cases hf; rw [isNon_rep r]; exact q.same sim (.bl _)
theorem de_isN {j pos'} (ha : PE X a (tD Γ W da)) : PE X (.Compare a [.Is] [.Constant .none j pos'] pos) (tD Γ W (dOp1 vIsN da)) := PE.of (pe_cmp (pc_isN ha)) fun g L σ Q sim rl h => tUn_of isN_r sim rl h
theorem de_notN {j pos'} (ha : PE X a (tD Γ W da)) : PE X (.Compare a [.IsNot] [.Constant .none j pos'] pos) (tD Γ W (dOp1 vNotN da)) := PE.of (pe_cmp (pc_notN ha)) fun g L σ Q sim rl h => tUn_of notN_r sim rl h
theorem dt_isN {j pos'} (ha : PE X a (tD Γ W da)) : PT X (.Compare a [.Is] [.Constant .none j pos'] pos) (tTt Γ W (dT (dOp1 vIsN da))) := PT.of (pt_cmp (pc_isN ha)) (tB_of fun g L σ Q sim rl h => tUn_of isN_r sim rl h)
theorem dt_notN {j pos'} (ha : PE X a (tD Γ W da)) : PT X (.Compare a [.IsNot] [.Constant .none j pos'] pos) (tTt Γ W (dT (dOp1 vNotN da))) := PT.of (pt_cmp (pc_notN ha)) (tB_of fun g L σ Q sim rl h => tUn_of notN_r sim rl h)
theorem de_neg (ha : PE X a (tD Γ W da)) : PE X (.UnaryOp .USub a pos) (tD Γ W (dOp1 vNeg da)) := PE.of (pe_un (un_negD (Γ := Γ)) ha) fun g L σ Q sim rl h => tUn_of (fun _ _ _ q => q) sim rl h
/-! ### and, or, not -/
theorem dw_and1 {ta : DT} (ha : PT X a (tTt Γ W ta)) : PW X (.BoolOp .And [a] pos) (tTt Γ W ta) := pw_and1 ha
theorem dw_or1 {ta : DT} (ha : PT X a (tTt Γ W ta)) : PW X (.BoolOp .Or [a] pos) (tTt Γ W ta) := pw_or1 ha
theorem dw_and {ta tb : DT} (ha : PT X a (tTt Γ W ta)) (hb : PW X (.BoolOp .And (b :: es) pos) (tTt Γ W tb)) : PW X (.BoolOp .And (a :: b :: es) pos) (tTt Γ W (dTand ta tb)) :=
  PW.of (pw_and ha hb) fun g L σ Q sim rl h => by
    refine tTt.mono (runT sim rl h) fun c H1 ⟨g1, e1, s1, st1, rl1, w1⟩ => ?_
    subst e1
    cases c with
    | true => exact ⟨g1, L, rfl, s1, rl1, w1⟩
    | false => exact w1.here s1 rfl
theorem dw_or {ta tb : DT} (ha : PT X a (tTt Γ W ta)) (hb : PW X (.BoolOp .Or (b :: es) pos) (tTt Γ W tb)) : PW X (.BoolOp .Or (a :: b :: es) pos) (tTt Γ W (dTor ta tb)) :=
  PW.of (pw_or ha hb) fun g L σ Q sim rl h => by
    refine tTt.mono (runT sim rl h) fun c H1 ⟨g1, e1, s1, st1, rl1, w1⟩ => ?_
    subst e1
    cases c with
    | false => exact ⟨g1, L, rfl, s1, rl1, w1⟩
    | true => exact w1.here s1 rfl
theorem dt_not {ta : DT} (ha : PT X a (tTt Γ W ta)) : PT X (.UnaryOp .Not a pos) (tTt Γ W (dTnot ta)) :=
  PT.of (pt_not ha) fun g L σ Q sim rl h => by
    refine tTt.mono (runT sim rl h) fun c H1 ⟨g1, e1, s1, st1, rl1, w1⟩ => ?_
    subst e1
    exact w1.here s1 rfl
theorem de_one {op} (h : PE X a (tD Γ W da)) : PE X (.BoolOp op [a] pos) (tD Γ W da) := pe_one h
theorem de_and (ha : PE X a (tD Γ W da)) (hb : PE X (.BoolOp .And (b :: es) pos) (tD Γ W db)) : PE X (.BoolOp .And (a :: b :: es) pos) (tD Γ W (dAndV da db)) :=
  PE.of (pe_and ha hb) fun g L σ Q sim rl h => by
    refine tD.mono (run1 sim rl h) fun x H1 ⟨g1, dx, e1, s1, st1, rl1, r1, w1⟩ => ?_
    subst e1
    cases dx with
    | bl k =>
      cases r1
      refine ⟨k, rfl, ?_⟩
      cases k with
      | true => exact ⟨g1, L, rfl, s1, rl1, w1⟩
      | false => exact w1.here s1 (.bl _)
    | _ => exact w1.elim
theorem de_or (ha : PE X a (tD Γ W da)) (hb : PE X (.BoolOp .Or (b :: es) pos) (tD Γ W db)) : PE X (.BoolOp .Or (a :: b :: es) pos) (tD Γ W (dOrV da db)) :=
  PE.of (pe_or ha hb) fun g L σ Q sim rl h => by
    refine tD.mono (run1 sim rl h) fun x H1 ⟨g1, dx, e1, s1, st1, rl1, r1, w1⟩ => ?_
    subst e1
    cases dx with
    | bl k =>
      cases r1
      refine ⟨k, rfl, ?_⟩
      cases k with
      | false => exact ⟨g1, L, rfl, s1, rl1, w1⟩
      | true => exact w1.here s1 (.bl _)
    | _ => exact w1.elim
theorem de_not (ha : PE X a (tD Γ W da)) : PE X (.UnaryOp .Not a pos) (tD Γ W (dNotV da)) :=
  PE.of (pe_not ha) fun g L σ Q sim rl h => by
    refine tD.mono (run1 sim rl h) fun x H1 ⟨g1, dx, e1, s1, st1, rl1, r1, w1⟩ => ?_
    subst e1
    cases dx with
    | bl k => cases r1; exact ⟨k, rfl, w1.here s1 (.bl _)⟩
    | _ => exact w1.elim
theorem de_ifE {tc : DT} (hc : PT X c (tTt Γ W tc)) (ha : PE X a (tD Γ W da)) (hb : PE X b (tD Γ W db)) : PE X (.IfExp c a b pos) (tD Γ W (dIfE tc da db)) :=
  PE.of (pe_ifExp hc ha hb) fun g L σ Q sim rl h => by
    refine tTt.mono (runT sim rl h) fun k H1 ⟨g1, e1, s1, st1, rl1, w1⟩ => ?_
    subst e1
    cases k with
    | true => exact ⟨g1, L, rfl, s1, rl1, w1⟩
    | false => exact ⟨g1, L, rfl, s1, rl1, w1⟩
theorem tChain_of {f f' : Hs → D → D → Option D} {g : Wd} {L : Lc} {σ : St} {Q : VK} (sim : Sim Γ g) (rl : RepL Γ g L σ) (h : WP Γ W σ rD g (dChain f f' da db dc L g.S) Q) : tChain (rV2 Γ f) (rV2 Γ f') (tD Γ W da) (tD Γ W db) (tD Γ W dc) σ g.H Q := by
  refine tD.mono (run1 sim rl h) fun x H1 ⟨g1, dx, e1, s1, st1, rl1, r1, w1⟩ => ?_
  subst e1
  refine tD.mono (run1 s1 rl1 w1) fun y H2 ⟨g2, dy, e2, s2, st2, rl2, r2, w2⟩ => ?_
  subst e2
  cases ef : f g2.S dx dy with
  | none => rw [ef] at w2; exact w2.elim
  | some v =>
    rw [ef] at w2
    refine ⟨g2, dx, dy, v, rfl, s2, Rep.step st2 _ r1, r2, ef, fun g3 z e3 st3 s3 rz => ?_⟩
    have w3 := WP.step (show WP Γ W σ rD g2 _ Q from w2) st3
    cases v with
    | bl k =>
      cases rz
      refine ⟨k, rfl, ?_⟩
      cases k with
      | false =>
        have w4 : WP Γ W σ rD g3 (.ok (.bl false) g3.S) Q := by rw [e3]; exact w3
        exact w4.here s3 (.bl _)
      | true =>
        have w4 : WP Γ W σ rD g3 ((dc L g3.S).bind fun w S4 => ofOpt (f' S4 dy w) S4) Q := by rw [e3]; exact w3
        refine tD.mono (run1 s3 (rl2.step st3) w4) fun z H4 ⟨g4, dz, e4, s4, st4, rl4, r4, w5⟩ => ?_
        obtain ⟨v, e, w⟩ := WP.opt w5
        exact ⟨g4, dy, dz, v, e4, s4, Rep.step st4 _ (Rep.step st3 _ r2), r4, e, w.fin⟩
    | _ => exact w3.elim
theorem de_chain {op op' : CmpOp} {f f' : Hs → D → D → Option D} (ho : OpR X (compareOp op) (rV2 Γ f)) (ho' : OpR X (compareOp op') (rV2 Γ f')) (ha : PE X a (tD Γ W da)) (hb : PE X b (tD Γ W db)) (hc : PE X c (tD Γ W dc)) (h1 : lastMarks [op, op'] [b, c] = false := by rfl) :
    PE X (.Compare a [op, op'] [b, c] pos) (tD Γ W (dChain f f' da db dc)) := PE.of (pe_chain ho ho' ha hb hc h1) fun g L σ Q sim rl h => tChain_of sim rl h
/-! ### arguments, displays -/
theorem da_nil : PA X [] (tA Γ W aNil) := PA.of pa_nil fun g L σ Q sim rl h => h.here sim .nil
theorem da_cons (ha : PE X e (tD Γ W da)) (hr : PA X es (tA Γ W ds)) (hs : starEach (e :: es) X.env = (false, eval e X.env) :: starEach es X.env := by rfl) : PA X (e :: es) (tA Γ W (aCons da ds)) :=
  PA.of (pa_cons ha hr hs) fun g L σ Q sim rl h => by
    refine tD.mono (run1 sim rl h) fun x H1 ⟨g1, dx, e1, s1, st1, rl1, r1, w1⟩ => ?_
    subst e1
    refine tA.mono (runA s1 rl1 w1) fun y H2 ⟨g2, dy, e2, s2, st2, rl2, r2, w2⟩ => ?_
    subst e2
    exact w2.here s2 (.cons (Rep.step st2 _ r1) r2)
theorem de_tup {x1} (h : PA X es (tA Γ W ds)) : PE X (.Tuple es x1 pos) (tD Γ W (dTup ds)) :=
  PE.of (pe_tup h) fun g L σ Q sim rl h => by
    refine tA.mono (runA sim rl h) fun x H1 ⟨g1, dx, e1, s1, st1, rl1, r1, w1⟩ => ?_
    subst e1
    split at w1
    · rename_i hz
      have hz' : x.length ≤ sizeLine := by rw [← r1.length, line_big]; exact hz
      exact ⟨hz', fun p hp => (WP.fin w1).tup s1 r1 hz' hp⟩
    · exact w1.elim
theorem de_lst (h : PA X es (tA Γ W ds)) : PE X (.List es pos) (tD Γ W (dLst ds)) :=
  PE.of (pe_lst h) fun g L σ Q sim rl h => by
    refine tA.mono (runA sim rl h) fun x H1 ⟨g1, dx, e1, s1, st1, rl1, r1, w1⟩ => ?_
    subst e1
    split at w1
    · rename_i hz
      have hz' : x.length ≤ sizeLine := by rw [← r1.length, line_big]; exact hz
      exact ⟨hz', fun p hp => (WP.fin w1).lst s1 r1 hz' hp⟩
    · exact w1.elim
/-- a new list that will be changed -/
theorem push_lst {g : Wd} {xs : List D} {vs : List V} {p : Addr} {Q : VK} {σ : St} (w : WP Γ W σ rD g (.ok (.ref g.S.length) (g.S ++ [.lst xs])) Q) (s : Sim Γ g) (r : Reps Γ g xs vs) (hz : vs.length ≤ sizeLine) (hp : g.H p = none) : Q (.ref p) (upd g.H p (.lst vs)) := by
  have s' : Sim Γ (g.push p (.lst vs) (.lst xs)) := s.push hp hz (fun c q z => by cases z) ⟨vs, upd_same, Reps.step (Step.push s hp) _ r⟩
  refine w (g.push p (.lst vs) (.lst xs)) (.ref p) rfl (Step.push s hp) s' (.ref ?_)
  show (g.ι ++ [p])[g.S.length]? = some p
  rw [← s.len]; simp
theorem de_newL (h : PA X es (tA Γ W ds)) : PE X (.List es pos) (tD Γ W (dNewL ds)) :=
  PE.of (pe_lst h) fun g L σ Q sim rl h => by
    refine tA.mono (runA sim rl h) fun x H1 ⟨g1, dx, e1, s1, st1, rl1, r1, w1⟩ => ?_
    subst e1
    split at w1
    · rename_i hz
      have hz' : x.length ≤ sizeLine := by rw [← r1.length, line_big]; exact hz
      exact ⟨hz', fun p hp => push_lst w1 s1 r1 hz' hp⟩
    · exact w1.elim
/-! ### built-ins -/
theorem tCB_of {f : Hs → List D → Option D} {g : Wd} {L : Lc} {σ : St} {Q : VK} (sim : Sim Γ g) (rl : RepL Γ g L σ) (h : WP Γ W σ rD g (dFn f ds L g.S) Q) : tCB (rVs Γ f) (tA Γ W ds) σ g.H Q := by
  refine tA.mono (runA sim rl h) fun x H1 ⟨g1, dx, e1, s1, st1, rl1, r1, w1⟩ => ?_
  obtain ⟨v, e, w⟩ := WP.opt w1
  exact ⟨g1, dx, v, e1, s1, r1, e, w.fin⟩
theorem de_callB {f : Hs → List D → Option D} {x : Str} {p : Pos} {id : String} (hc : CallR X (.builtin id) (rVs Γ f)) (hg : Gl X x) (hm : X.mg x = none) (hv : bootBuiltins x = some (.builtin id)) (ha : PA X (e :: es) (tA Γ W ds)) (hn : x ≠ "__name__" := by decide) (hdb : (x == ("__debug__" : Str)) = false := by decide)
    (he : starEach (e :: es) X.env = (false, eval e X.env) :: starEach es X.env := by rfl) (hpl : (backTo pos (starEach es X.env)).any (·.1) = false := by rfl) : PE X (.Call (.Name x p) (e :: es) [] pos) (tD Γ W (dFn f ds)) :=
  PE.of (pe_callB hc hg hm hv ha hn hdb he hpl) fun g L σ Q sim rl h => tCB_of sim rl h
theorem de_callTy {f : Hs → List D → Option D} {x : Str} {p : Pos} {T : String} (hc : CallR X (.type T) (rVs Γ f)) (hg : Gl X x) (hm : X.mg x = none) (hv : bootBuiltins x = some (.type T)) (ha : PA X (e :: es) (tA Γ W ds)) (hn : x ≠ "__name__" := by decide) (hdb : (x == ("__debug__" : Str)) = false := by decide)
    (he : starEach (e :: es) X.env = (false, eval e X.env) :: starEach es X.env := by rfl) (hpl : (backTo pos (starEach es X.env)).any (·.1) = false := by rfl) : PE X (.Call (.Name x p) (e :: es) [] pos) (tD Γ W (dFn f ds)) :=
  PE.of (pe_callTy hc hg hm hv ha hn hdb he hpl) fun g L σ Q sim rl h => tCB_of sim rl h
theorem reps1 {g : Wd} {d : D} {vs : List V} (r : Reps Γ g [d] vs) : ∃ v, vs = [v] ∧ Rep Γ g d v := by
  cases r with
  | cons h1 h2 => cases h2; exact ⟨_, rfl, h1⟩
theorem reps2 {g : Wd} {d e : D} {vs : List V} (r : Reps Γ g [d, e] vs) : ∃ v u, vs = [v, u] ∧ Rep Γ g d v ∧ Rep Γ g e u := by
  cases r with
  | cons h1 h2 => obtain ⟨u, rfl, h⟩ := reps1 h2; exact ⟨_, _, rfl, h1, h⟩
theorem dctOf_rep {g : Wd} {v : V} (s : Sim Γ g) {d : D} {kvs : List (D × D)} (r : Rep Γ g d v) (h : dctOf g.S d = some kvs) : ∃ a vs, v = .ref a ∧ Rd g.H a (.dK vs) ∧ RepK Γ g kvs vs := by
  cases r with
  | dct h1 h2 => cases h; exact ⟨_, _, rfl, .inl h1.1, h2⟩
  | @ref a i h1 =>
    simp only [dctOf] at h
    cases q : g.S[i]? with
    | none => rw [q] at h; cases h
    | some o =>
      rw [q] at h
      cases o with
      | dct ys => cases h; obtain ⟨vs, e1, e2⟩ := s.obj i a _ h1 q; exact ⟨a, vs, rfl, .inl e1, e2⟩
      | lck ys => cases h; obtain ⟨o, vs, e1, e2⟩ := s.obj i a _ h1 q; exact ⟨a, vs, rfl, .inr ⟨o, e1⟩, e2⟩
      | _ => cases h
  | _ => cases h
theorem cr_lenD (hx : On X Γ) : CallR X (.builtin "len") (rVs Γ vLen) := by
  intro pins s σ H xs us Q I r h
  obtain ⟨g, dx, z, rfl, sim, r1, hf, q⟩ := h
  unfold vLen at hf
  split at hf
  · rename_i t
    obtain ⟨v, rfl, k1⟩ := reps1 r1
    split at hf
    · rename_i hz
      cases hf; cases k1
      refine call_len_str pins s σ g.H _ us Q I r ⟨sOf t, rfl, by rw [line_big]; simpa [sOf, Str.length] using hz, ?_⟩
      have : (sOf t).length = t.length := by simp [sOf, Str.length]
      rw [this]; exact q.same sim (.int _)
    · cases hf
  · obtain ⟨v, rfl, k1⟩ := reps1 r1
    cases hf
    cases k1 with
    | tup t1 t2 => exact call_len_seq pins s σ g.H _ us Q I r ⟨_, _, rfl, .inr (sqT_x hx t1.sq), by rw [← t2.length]; exact q.same sim (.int _)⟩
  · obtain ⟨v, rfl, k1⟩ := reps1 r1
    split at hf
    · rename_i xs e
      cases hf
      obtain ⟨a, vs, rfl, sq, rs⟩ := seqOf_rep sim k1 e
      exact call_len_seq pins s σ g.H _ us Q I r ⟨_, _, rfl, .inl (sqL_x hx sq), by rw [← rs.length]; exact q.same sim (.int _)⟩
    · split at hf
      · rename_i kvs e
        cases hf
        obtain ⟨a, vs, rfl, hd, rs⟩ := dctOf_rep sim k1 e
        obtain ⟨u, rfl, ru⟩ := vals1 r
        cases ru
        refine d_len I hd fun t s' I' => ⟨.int vs.length, g.H, I', ⟨t, rfl⟩, ?_⟩
        rw [← rs.length]; exact q.same sim (.int _)
      · cases hf
  · cases hf
theorem bools_rep {g : Wd} : ∀ {xs : List D} {vs : List V} {bs : List Bool}, Reps Γ g xs vs → boolsOf xs = some bs → vs = bs.map V.bl
  | [], _, _, r, h => by cases r; cases h; rfl
  | .bl k :: xs, _, _, r, h => by
    cases r with
    | cons h1 h2 =>
      simp only [boolsOf] at h
      cases e : boolsOf xs with
      | none => rw [e] at h; cases h
      | some bs => rw [e] at h; cases h; cases h1; rw [bools_rep h2 e]; rfl
  | .non :: _, _, _, _, h => by cases h
  | .int _ :: _, _, _, _, h => by cases h
  | .str _ :: _, _, _, _, h => by cases h
  | .tup _ :: _, _, _, _, h => by cases h
  | .lst _ :: _, _, _, _, h => by cases h
  | .dct _ :: _, _, _, _, h => by cases h
  | .ref _ :: _, _, _, _, h => by cases h
  | .scr _ :: _, _, _, _, h => by cases h
theorem ints_rep {g : Wd} : ∀ {xs : List D} {vs : List V} {bs : List Int}, Reps Γ g xs vs → intsOf xs = some bs → vs = bs.map V.int
  | [], _, _, r, h => by cases r; cases h; rfl
  | .int k :: xs, _, _, r, h => by
    cases r with
    | cons h1 h2 =>
      simp only [intsOf] at h
      cases e : intsOf xs with
      | none => rw [e] at h; cases h
      | some bs => rw [e] at h; cases h; cases h1; rw [ints_rep h2 e]; rfl
  | .non :: _, _, _, _, h => by cases h
  | .bl _ :: _, _, _, _, h => by cases h
  | .str _ :: _, _, _, _, h => by cases h
  | .tup _ :: _, _, _, _, h => by cases h
  | .lst _ :: _, _, _, _, h => by cases h
  | .dct _ :: _, _, _, _, h => by cases h
  | .ref _ :: _, _, _, _, h => by cases h
  | .scr _ :: _, _, _, _, h => by cases h
theorem cr_allD (hx : On X Γ) (hc : X.calm = true) : CallR X (.builtin "all") (rVs Γ vAll) := by
  intro pins s σ H xs us Q I r h
  obtain ⟨g, dx, z, rfl, sim, r1, hf, q⟩ := h
  unfold vAll at hf
  split at hf
  · obtain ⟨v, rfl, k1⟩ := reps1 r1
    split at hf
    · rename_i xs e
      obtain ⟨a, vs, rfl, sq, rs⟩ := seqOf_rep sim k1 e
      cases e2 : boolsOf xs with
      | none => rw [e2] at hf; cases hf
      | some bs =>
        rw [e2] at hf; cases hf
        exact cr_all hc pins s σ g.H _ us Q I r ⟨a, bs, rfl, by rw [← bools_rep rs e2]; exact sqL_x hx sq, q.same sim (.bl _)⟩
    · cases hf
  · cases hf
theorem cr_anyD (hx : On X Γ) (hc : X.calm = true) : CallR X (.builtin "any") (rVs Γ vAny) := by
  intro pins s σ H xs us Q I r h
  obtain ⟨g, dx, z, rfl, sim, r1, hf, q⟩ := h
  unfold vAny at hf
  split at hf
  · obtain ⟨v, rfl, k1⟩ := reps1 r1
    split at hf
    · rename_i xs e
      obtain ⟨a, vs, rfl, sq, rs⟩ := seqOf_rep sim k1 e
      cases e2 : boolsOf xs with
      | none => rw [e2] at hf; cases hf
      | some bs =>
        rw [e2] at hf; cases hf
        exact cr_any hc pins s σ g.H _ us Q I r ⟨a, bs, rfl, by rw [← bools_rep rs e2]; exact sqL_x hx sq, q.same sim (.bl _)⟩
    · cases hf
  · cases hf
theorem cr_sumD (hx : On X Γ) (hc : X.calm = true) : CallR X (.builtin "sum") (rVs Γ vSum) := by
  intro pins s σ H xs us Q I r h
  obtain ⟨g, dx, z, rfl, sim, r1, hf, q⟩ := h
  unfold vSum at hf
  split at hf
  · obtain ⟨v, rfl, k1⟩ := reps1 r1
    split at hf
    · rename_i xs e
      obtain ⟨a, vs, rfl, sq, rs⟩ := seqOf_rep sim k1 e
      cases e2 : intsOf xs with
      | none => rw [e2] at hf; cases hf
      | some bs =>
        rw [e2] at hf; cases hf
        exact cr_sum hc pins s σ g.H _ us Q I r ⟨a, bs, rfl, by rw [← ints_rep rs e2]; exact sqL_x hx sq, q.same sim (.int _)⟩
    · cases hf
  · cases hf
theorem cr_tupleD (hx : On X Γ) : CallR X (.type "tuple") (rVs Γ vTuple) := by
  intro pins s σ H xs us Q I r h
  obtain ⟨g, dx, z, rfl, sim, r1, hf, q⟩ := h
  unfold vTuple at hf
  split at hf
  · obtain ⟨v, rfl, k1⟩ := reps1 r1
    cases hf
    cases k1 with
    | tup t1 t2 => exact call_tuple_of pins s σ g.H _ us Q I r ⟨_, _, rfl, .inr ⟨sqT_x hx t1.sq, q.same sim (.tup t1 t2)⟩⟩
  · obtain ⟨v, rfl, k1⟩ := reps1 r1
    rename_i x _
    cases e : seqOf g.S x with
    | none => rw [e] at hf; cases hf
    | some ys =>
      rw [e] at hf; cases hf
      obtain ⟨a, vs, rfl, sq, rs⟩ := seqOf_rep sim k1 e
      exact call_tuple_of pins s σ g.H _ us Q I r ⟨a, vs, rfl, .inl ⟨sqL_x hx sq, fun p hp => q.tup sim rs (sqL_le I (sqL_x hx sq)) hp⟩⟩
  · cases hf
theorem cr_listD (hx : On X Γ) : CallR X (.type "list") (rVs Γ vList) := by
  intro pins s σ H xs us Q I r h
  obtain ⟨g, dx, z, rfl, sim, r1, hf, q⟩ := h
  unfold vList at hf
  split at hf
  · obtain ⟨v, rfl, k1⟩ := reps1 r1
    cases hf
    cases k1 with
    | tup t1 t2 => exact call_list_of pins s σ g.H _ us Q I r ⟨_, _, rfl, .inr (sqT_x hx t1.sq), fun p hp => q.lst sim t2 (sqT_le I (sqT_x hx t1.sq)) hp⟩
  · obtain ⟨v, rfl, k1⟩ := reps1 r1
    rename_i x _
    cases e : seqOf g.S x with
    | none => rw [e] at hf; cases hf
    | some ys =>
      rw [e] at hf; cases hf
      obtain ⟨a, vs, rfl, sq, rs⟩ := seqOf_rep sim k1 e
      exact call_list_of pins s σ g.H _ us Q I r ⟨a, vs, rfl, .inl (sqL_x hx sq), fun p hp => q.lst sim rs (sqL_le I (sqL_x hx sq)) hp⟩
  · cases hf
theorem cr_max2D (hc : X.calm = true) : CallR X (.builtin "max") (rVs Γ vMax2) := by
  intro pins s σ H xs us Q I r h
  obtain ⟨g, dx, z, rfl, sim, r1, hf, q⟩ := h
  unfold vMax2 at hf
  split at hf
  · obtain ⟨v, u, rfl, k1, k2⟩ := reps2 r1
    cases hf; cases k1; cases k2
    exact call_max2 hc pins s σ g.H _ us Q I r ⟨_, _, rfl, q.same sim (.int _)⟩
  · cases hf
theorem cr_min2D (hc : X.calm = true) : CallR X (.builtin "min") (rVs Γ vMin2) := by
  intro pins s σ H xs us Q I r h
  obtain ⟨g, dx, z, rfl, sim, r1, hf, q⟩ := h
  unfold vMin2 at hf
  split at hf
  · obtain ⟨v, u, rfl, k1, k2⟩ := reps2 r1
    cases hf; cases k1; cases k2
    exact call_min2 hc pins s σ g.H _ us Q I r ⟨_, _, rfl, q.same sim (.int _)⟩
  · cases hf
/-! ### subscripts -/
theorem de_ix {f : Hs → D → D → Option D} (hr : IxR X (rV2 Γ f)) (ha : PE X a (tD Γ W da)) (hb : PE X b (tD Γ W db)) (hs : PlainIx b := by exact fun _ _ => rfl) : PE X (.Subscript a b pos) (tD Γ W (dOp2 f da db)) :=
  PE.of (pe_ix hr ha hb hs) fun g L σ Q sim rl h => tOp_of sim rl h
abbrev DO := Lc → Hs → Out (Option Int)
abbrev rOI : Rl (Option Int) (Option Int) := fun _ _ a b => a = b
def tOo (Γ : Ctx) (W : WX) (d : DO) : TO := fun σ H Q => ∃ g L, g.H = H ∧ Sim Γ g ∧ RepL Γ g L σ ∧ WP Γ W σ rOI g (d L g.S) Q
theorem do_none : PO X none (tOo Γ W oNone) := ⟨fun pins s σ H Q I ⟨g, L, e, sim, rl, w⟩ => by
  subst e; exact po_none.run pins s σ g.H Q I (w.here sim rfl)⟩
theorem do_some (h : PE X e (tD Γ W da)) : PO X (some e) (tOo Γ W (oSome da)) := ⟨fun pins s σ H Q I ⟨g, L, e, sim, rl, w⟩ => by
  subst e
  refine (po_some h).run pins s σ g.H Q I (tD.mono (run1 sim rl w) fun x H1 ⟨g1, dx, e1, s1, st1, rl1, r1, w1⟩ => ?_)
  subst e1
  cases dx with
  | int i => cases r1; exact ⟨i, rfl, w1.here s1 rfl⟩
  | _ => exact w1.elim⟩
theorem runO {γ δ : Type} {R2 : Rl γ δ} {Q : δ → Hp → Prop} {g : Wd} {L : Lc} {σ : St} {d : DO} {f : Option Int → Hs → Out γ} (sim : Sim Γ g) (rl : RepL Γ g L σ) (h : WP Γ W σ R2 g ((d L g.S).bind f) Q) :
    tOo Γ W d σ g.H (fun x H1 => ∃ g1, g1.H = H1 ∧ Sim Γ g1 ∧ Step g g1 ∧ RepL Γ g1 L σ ∧ WP Γ W σ R2 g1 (f x g1.S) Q) :=
  ⟨g, L, rfl, sim, rl, (WP.bind h).mono fun b H ⟨g1, a, e, s1, st, r, w⟩ => ⟨g1, e, s1, st, rl.step st, by cases (show a = b from r); exact w⟩⟩
theorem tOo.mono {d : DO} {σ : St} {H : Hp} {Q Q' : Option Int → Hp → Prop} (h : tOo Γ W d σ H Q) (k : ∀ b H, Q b H → Q' b H) : tOo Γ W d σ H Q' := let ⟨g, L, e, s, rl, w⟩ := h; ⟨g, L, e, s, rl, w.mono k⟩
theorem de_slice {f : Option Int → Option Int → Hs → D → Option D} {lo hi : Option Expr} {dl dh : DO} {p2 : Pos} (hr : SlR X (rSlV Γ f)) (he : PE X e (tD Γ W da)) (hl : PO X lo (tOo Γ W dl)) (hu : PO X hi (tOo Γ W dh)) : PE X (.Subscript e (.Slice lo hi none p2) pos) (tD Γ W (dSlice f da dl dh)) :=
  PE.of (pe_slice hr he hl hu) fun g L σ Q sim rl h => by
    refine tD.mono (run1 sim rl h) fun x H1 ⟨g1, dx, e1, s1, st1, rl1, r1, w1⟩ => ?_
    subst e1
    refine tOo.mono (runO s1 rl1 w1) fun y H2 ⟨g2, e2, s2, st2, rl2, w2⟩ => ?_
    subst e2
    refine tOo.mono (runO s2 rl2 w2) fun z H3 ⟨g3, e3, s3, st3, rl3, w3⟩ => ?_
    obtain ⟨v, e, w⟩ := WP.opt w3
    exact ⟨g3, dx, v, e3, s3, Rep.step st3 _ (Rep.step st2 _ r1), e, w.fin⟩
/-- T[k], T a dict of the module's -/
def KTab (Γ : Ctx) (d : Addr) (kvs : List (List Nat × D)) : Prop := ∀ s d', lookF s kvs = some d' → ∃ v, KDct Γ.K Γ.w d (sOf s) v ∧ ∀ g, Sim Γ g → Rep Γ g d' v
theorem de_kget {x : Str} {d : Addr} {kvs : List (List Nat × D)} {p : Pos} (hx : On X Γ) (hg : Gl X x) (hm : X.mg x = some (.ref d)) (hT : KTab Γ d kvs) (hb : PE X b (tD Γ W db)) (hs : PlainIx b := by exact fun _ _ => rfl) (hd : (x == ("__debug__" : Str)) = false := by decide) :
    PE X (.Subscript (.Name x p) b pos) (tD Γ W (dOp1 (vGet kvs) db)) :=
  PE.of (pe_ix (ix_kdict (X := X)) (pe_glob (v := .ref d) hg hm rfl hd) hb hs) fun g L σ Q sim rl h => by
    refine tD.mono (run1 sim rl h) fun y H1 ⟨g1, dy, e1, s1, st1, rl1, r1, w1⟩ => ?_
    subst e1
    obtain ⟨v, e, w⟩ := WP.opt w1
    unfold vGet at e
    split at e
    · rename_i s
      obtain ⟨u, hk, hr⟩ := hT s v e
      cases r1
      refine ⟨d, sOf s, u, rfl, rfl, ?_, w.here s1 (hr g1 s1)⟩
      rw [hx.K, hx.w]; exact hk
    · cases e
/-! ### isinstance -/
theorem pa2 {t t' : TE} (ha : PE X a t) (hb : PE X b t') (h1 : starEach (a :: [b]) X.env = (false, eval a X.env) :: starEach [b] X.env := by rfl) (h2 : starEach (b :: []) X.env = (false, eval b X.env) :: starEach [] X.env := by rfl) : PA X [a, b] (tCons t (tCons t' tNil)) := pa_cons ha (pa_cons hb pa_nil h2) h1
theorem tyX_rep {g : Wd} {d : D} {v : V} {t : String} (sim : Sim Γ g) (r : Rep Γ g d v) (h : tyD g.S d = some t) : TyX Γ.K g.H v (.type t) := by
  cases r with
  | non => cases h; exact .base .non
  | bl b => cases h; exact .base (.bl b)
  | int b => cases h; exact .base (.int b)
  | str b _ => cases h; exact .base (.str _)
  | tup h1 _ =>
    cases h
    rcases h1 with h1 | ⟨o, its, n, hk, hc, _⟩
    · exact .base (.tup h1)
    · exact .kTuple hk hc
  | lst h1 _ => cases h; exact .base (.lst h1.1)
  | dct h1 _ => cases h; exact .base (.dK h1.1)
  | @ref a i h1 =>
    simp only [tyD] at h
    cases q : g.S[i]? with
    | none => rw [q] at h; cases h
    | some o =>
      rw [q] at h
      cases o with
      | lst ys => cases h; obtain ⟨vs, e1, e2⟩ := sim.obj i a _ h1 q; exact .base (.lst e1)
      | dct ys => cases h; obtain ⟨vs, e1, e2⟩ := sim.obj i a _ h1 q; exact .base (.dK e1)
      | dtt ys => exact (sim.obj i a _ h1 q).elim
      | _ => cases h
  | scr _ => cases h
/-- isinstance(x, T): by the table of answers -/
theorem de_isi {f : Hs → D → Option D} {T x y : Str} {tn : String} {p p2 : Pos} (hx : On X Γ) (hf : ∀ S d v, f S d = some v → ∃ t k, tyD S d = some t ∧ v = .bl k ∧ kitB t tn = some k)
    (hg : Gl X "isinstance") (hm : X.mg "isinstance" = none) (hv : bootBuiltins "isinstance" = some (.builtin "isinstance")) (hg2 : Gl X y) (hm2 : X.mg y = none) (hv2 : bootBuiltins y = some (.type tn)) (ha : PE X a (tD Γ W da)) (hn2 : y ≠ "__name__" := by decide) (hdb : (y == ("__debug__" : Str)) = false := by decide)
    (he : starEach (a :: [.Name y p2]) X.env = (false, eval a X.env) :: starEach [.Name y p2] X.env := by rfl) (hpl : (backTo pos (starEach [.Name y p2] X.env)).any (·.1) = false := by rfl) (h2 : starEach ((.Name y p2) :: []) X.env = (false, eval (.Name y p2) X.env) :: starEach [] X.env := by rfl) :
    PE X (.Call (.Name "isinstance" p) [a, .Name y p2] [] pos) (tD Γ W (dOp1 f da)) :=
  PE.of (pe_callB (call_isi (X := X)) hg hm hv (pa2 ha (pe_bltn (v := .ty tn) hg2 hm2 hv2 rfl hn2 hdb) he h2) (by decide) (by decide) he hpl) fun g L σ Q sim rl h => by
    refine tD.mono (run1 sim rl h) fun y H1 ⟨g1, dy, e1, s1, st1, rl1, r1, w1⟩ => ?_
    subst e1
    obtain ⟨v, e, w⟩ := WP.opt w1
    obtain ⟨t, k, e1, rfl, e2⟩ := hf _ _ _ e
    refine ⟨y, .ty tn, .type t, .type tn, k, rfl, ?_, by rw [hx.K]; exact tyX_rep s1 r1 e1, kit_ty e2, w.here s1 (.bl k)⟩
    first | exact rfl | constructor
end
end G

namespace G
open PySem L2
/-! # GR4: what is walked, comprehensions -/
mutual
theorem same_eq : ∀ (d e : D), D.same d e = true → d = e
  | .non, e, h => by cases e <;> simp [D.same] at h; rfl
  | .bl _, e, h => by cases e <;> simp [D.same] at h; rw [h]
  | .int _, e, h => by cases e <;> simp [D.same] at h; rw [h]
  | .str _, e, h => by cases e <;> simp [D.same] at h; rw [h]
  | .ref _, e, h => by cases e <;> simp [D.same] at h; rw [h]
  | .scr _, e, h => by cases e <;> simp [D.same] at h; rw [h]
  | .tup xs, e, h => by
    cases e with
    | tup ys => rw [sames_eq xs ys (by simpa [D.same] using h)]
    | _ => simp [D.same] at h
  | .lst xs, e, h => by
    cases e with
    | lst ys => rw [sames_eq xs ys (by simpa [D.same] using h)]
    | _ => simp [D.same] at h
  | .dct xs, e, h => by
    cases e with
    | dct ys => rw [sameps_eq xs ys (by simpa [D.same] using h)]
    | _ => simp [D.same] at h
theorem sames_eq : ∀ (d e : List D), D.sames d e = true → d = e
  | [], [], _ => rfl
  | [], _ :: _, h => by simp [D.sames] at h
  | _ :: _, [], h => by simp [D.sames] at h
  | d :: ds, e :: es, h => by
    simp only [D.sames, Bool.and_eq_true] at h
    rw [same_eq d e h.1, sames_eq ds es h.2]
theorem sameps_eq : ∀ (d e : List (D × D)), D.sameps d e = true → d = e
  | [], [], _ => rfl
  | [], _ :: _, h => by simp [D.sameps] at h
  | _ :: _, [], h => by simp [D.sameps] at h
  | (a, b) :: ds, (c, d) :: es, h => by
    simp only [D.sameps, Bool.and_eq_true] at h
    rw [same_eq a c h.1.1, same_eq b d h.1.2, sameps_eq ds es h.2]
end
mutual
theorem same_refl : ∀ (d : D), D.same d d = true
  | .non => rfl
  | .bl _ => by simp [D.same]
  | .int _ => by simp [D.same]
  | .str _ => by simp [D.same]
  | .ref _ => by simp [D.same]
  | .scr _ => by simp [D.same]
  | .tup xs => by simpa [D.same] using sames_refl xs
  | .lst xs => by simpa [D.same] using sames_refl xs
  | .dct xs => by simpa [D.same] using sameps_refl xs
theorem sames_refl : ∀ (d : List D), D.sames d d = true
  | [] => rfl
  | d :: ds => by simp only [D.sames, Bool.and_eq_true]; exact ⟨same_refl d, sames_refl ds⟩
theorem sameps_refl : ∀ (d : List (D × D)), D.sameps d d = true
  | [] => rfl
  | (a, b) :: ds => by simp only [D.sameps, Bool.and_eq_true]; exact ⟨⟨same_refl a, same_refl b⟩, sameps_refl ds⟩
end
/-- J walks xs -/
def Wk (Γ : Ctx) (g0 : Wd) (s : Src) (J : It) : Prop := s.2.length ≤ sizeLine ∧ ∀ g, Tr g0 g → Sim Γ g → srcOk s.1 s.2 g.S = true → ∀ i,
  (i < s.2.length → J.go i g.H ∧ ∀ x H', J.yld i g.H x H' → ∃ d g', s.2[i]? = some d ∧ g'.H = H' ∧ g'.S = g.S ∧ Step g g' ∧ Sim Γ g' ∧ Rep Γ g' d x) ∧ (s.2.length ≤ i → J.stop i g.H)
abbrev rI : Rl Src It := fun Γ g s J => Wk Γ g s J
def tI (Γ : Ctx) (W : WX) (d : DI) : TI := fun σ H R => ∃ g L, g.H = H ∧ Sim Γ g ∧ RepL Γ g L σ ∧ WP Γ W σ rI g (d L g.S) R
section
variable {X : Cx} {Γ : Ctx} {W : WX} {tg a b e : Expr} {da db : DE} {pos : Pos}
theorem tI_of {t : TI} {d : DI} {iter : Expr} (h : PI X tg iter t) (k : ∀ g L σ R, Sim Γ g → RepL Γ g L σ → WP Γ W σ rI g (d L g.S) R → t σ g.H R) : PI X tg iter (tI Γ W d) :=
  ⟨fun pins s σ H R I ⟨g, L, e, sim, rl, w⟩ => by subst e; exact h.run pins s σ g.H R I (k g L σ R sim rl w)⟩
theorem wk_lst {g : Wd} {a : Addr} {vs : List V} {xs : List D} (s0 : Sim Γ g) (h1 : LstAt g a vs) (h2 : Reps Γ g xs vs) : Wk Γ g (none, xs) (Itl Γ.K a) := by
  refine ⟨by show xs.length ≤ sizeLine; rw [h2.length]; exact s0.bd a _ h1.1, ?_⟩
  intro g' st sim _ i
  have q1 := (h1.step st)
  have q2 := Reps.tr st _ h2
  refine ⟨fun hi => ?_, fun hi => ⟨vs, q1.sq, by rw [← q2.length]; exact hi⟩⟩
  have hi' : i < xs.length := hi
  obtain ⟨v, e1, r⟩ := q2.get (i := i) (d := xs[i]) (by simp [hi'])
  refine ⟨⟨vs, v, q1.sq, e1⟩, fun x H' y => ⟨xs[i], g', by simp [hi'], y.1.symm, rfl, Step.refl _, sim, ?_⟩⟩
  have := y.2 vs q1.sq
  rw [e1] at this; cases this
  exact r
theorem wk_ref {g : Wd} {a : Addr} {j : Nat} {xs : List D} (hz : xs.length ≤ sizeLine) (h1 : g.ι[j]? = some a) : Wk Γ g (some j, xs) (Itl Γ.K a) := by
  refine ⟨hz, ?_⟩
  intro g' st sim hs i
  have q1 := st.ref h1
  simp only [srcOk] at hs
  cases q : g'.S[j]? with
  | none => rw [q] at hs; cases hs
  | some o =>
    rw [q] at hs
    cases o with
    | lst ys =>
      have e := sames_eq _ _ hs
      subst e
      obtain ⟨vs, e1, q2⟩ := sim.obj j a _ q1 q
      refine ⟨fun hi => ?_, fun hi => ⟨vs, SqL.of e1, by rw [← q2.length]; exact hi⟩⟩
      have hi' : i < ys.length := hi
      obtain ⟨v, e2, r⟩ := q2.get (i := i) (d := ys[i]) (by simp [hi'])
      refine ⟨⟨vs, v, SqL.of e1, e2⟩, fun x H' y => ⟨ys[i], g', by simp [hi'], y.1.symm, rfl, Step.refl _, sim, ?_⟩⟩
      have := y.2 vs (SqL.of e1)
      rw [e2] at this; cases this
      exact r
    | _ => cases hs
theorem di_list (hx : On X Γ) (ha : PE X a (tD Γ W da)) : PI X tg a (tI Γ W (iList da)) :=
  tI_of (pi_list ha) fun g L σ R sim rl h => by
    refine tD.mono (run1 sim rl h) fun x H1 ⟨g1, dx, e1, s1, st1, rl1, r1, w1⟩ => ?_
    subst e1
    rw [hx.K]
    cases r1 with
    | @lst p vs xs h1 h2 => exact ⟨p, rfl, ⟨vs, h1.sq⟩, w1.here s1 (wk_lst s1 h1 h2)⟩
    | @ref p i h1 =>
      dsimp only at w1
      cases q : g1.S[i]? with
      | none => rw [q] at w1; exact w1.elim
      | some o =>
        rw [q] at w1
        cases o with
        | lst ys =>
          obtain ⟨vs, e1, q2⟩ := s1.obj i p _ h1 q
          exact ⟨p, rfl, ⟨vs, SqL.of e1⟩, WP.here w1 s1 (wk_ref (by rw [q2.length]; exact s1.bd p _ e1) h1)⟩
        | _ => exact w1.elim
    | _ => exact w1.elim
theorem di_tup (hx : On X Γ) (ha : PE X a (tD Γ W da)) : PI X tg a (tI Γ W (iTup da)) :=
  tI_of (pi_tup ha) fun g L σ R sim rl h => by
    refine tD.mono (run1 sim rl h) fun x H1 ⟨g1, dx, e1, s1, st1, rl1, r1, w1⟩ => ?_
    subst e1
    rw [hx.K]
    cases r1 with
    | @tup p vs xs h1 h2 =>
      refine ⟨p, rfl, ⟨vs, h1.sq⟩, WP.here w1 s1 ⟨?_, ?_⟩⟩
      · show xs.length ≤ sizeLine
        rw [h2.length]
        rcases h1 with h1 | ⟨o, its, n, _, _, _, hz, hv⟩
        · exact s1.bd p _ h1
        · rw [hv.length]; simpa using hz
      intro g' st sim _ i
      have q1 := (h1.step st).sq
      have q2 := Reps.tr st _ h2
      refine ⟨fun hi => ?_, fun hi => ⟨vs, q1, by rw [← q2.length]; exact hi⟩⟩
      have hi' : i < xs.length := hi
      obtain ⟨v, e1, r⟩ := q2.get (i := i) (d := xs[i]) (by simp [hi'])
      refine ⟨⟨vs, v, q1, e1⟩, fun x H' y => ⟨xs[i], g', by simp [hi'], y.1.symm, rfl, Step.refl _, sim, ?_⟩⟩
      have := y.2 vs q1
      rw [e1] at this; cases this
      exact r
    | _ => exact w1.elim
theorem di_str (ha : PE X a (tD Γ W da)) : PI X tg a (tI Γ W (G.iStr da)) :=
  tI_of (pi_str ha) fun g L σ R sim rl h => by
    refine tD.mono (run1 sim rl h) fun x H1 ⟨g1, dx, e1, s1, st1, rl1, r1, w1⟩ => ?_
    subst e1
    cases r1 with
    | str s ho =>
      dsimp only at w1
      split at w1
      case isFalse => exact w1.elim
      case isTrue hz =>
      refine ⟨sOf s, rfl, WP.here w1 s1 ⟨by show (s.map _).length ≤ sizeLine; rw [List.length_map]; exact small_line hz, ?_⟩⟩
      intro g' st sim _ i
      refine ⟨fun hi => ?_, fun hi => ?_⟩
      · have hi' : i < s.length := by simpa using hi
        refine ⟨by simpa [Its, sOf] using hi', fun x H' ⟨y1, c, y2, y3⟩ => ⟨.str [c], g', ?_, y1.symm, rfl, Step.refl _, sim, ?_⟩⟩
        · have : s[i]? = some c := by simpa [sOf] using y2
          simp [this]
        · subst y3
          have hm : c ∈ s := by
            have : s[i]? = some c := by simpa [sOf] using y2
            exact List.mem_of_getElem? this
          exact .str [c] (by simpa [okS] using List.all_eq_true.mp ho c hm)
      · have : s.length ≤ i := by simpa using hi
        simpa [Its, sOf] using this
    | _ => exact w1.elim
theorem wk_range {g : Wd} (lo : Int) (n : Nat) (hz : n ≤ big) : Wk Γ g (none, rangeD lo n) (Itr lo n) := by
  refine ⟨by show (rangeD lo n).length ≤ sizeLine; simp only [rangeD, List.length_map, List.length_range]; exact small_line hz, ?_⟩
  intro g' st sim _ i
  have hl : (rangeD lo n).length = n := by simp [rangeD]
  refine ⟨fun hi => ?_, fun hi => by have : (rangeD lo n).length ≤ i := hi; rw [hl] at this; exact this⟩
  have hi' : i < n := by have : i < (rangeD lo n).length := hi; rw [hl] at this; exact this
  refine ⟨hi', fun x H' ⟨y1, y2⟩ => ⟨.int (lo + i), g', ?_, y1.symm, rfl, Step.refl _, sim, by rw [y2]; exact .int _⟩⟩
  simp [rangeD, hi']
theorem di_range1 {p : Pos} (hg : Gl X "range") (hm : X.mg "range" = none) (ha : PE X a (tD Γ W da)) (hs : starEach [a] X.env = [(false, eval a X.env)] := by rfl) : PI X tg (.Call (.Name "range" p) [a] [] pos) (tI Γ W (G.iRange1 da)) :=
  tI_of (pi_range1 hg hm (pa_cons ha pa_nil hs) hs) fun g L σ R sim rl h => by
    refine tD.mono (run1 sim rl h) fun x H1 ⟨g1, dx, e1, s1, st1, rl1, r1, w1⟩ => ?_
    subst e1
    cases r1 with
    | int j =>
      dsimp only at w1
      split at w1
      · rename_i hc
        exact ⟨j, rfl, hc.1, by omega, WP.here w1 s1 (wk_range 0 _ (by unfold big; omega))⟩
      · exact w1.elim
    | _ => exact w1.elim
theorem di_range2 {p : Pos} (hg : Gl X "range") (hm : X.mg "range" = none) (ha : PE X a (tD Γ W da)) (hb : PE X b (tD Γ W db)) (hs : starEach [a, b] X.env = [(false, eval a X.env), (false, eval b X.env)] := by rfl) (hs2 : starEach [b] X.env = [(false, eval b X.env)] := by rfl) :
    PI X tg (.Call (.Name "range" p) [a, b] [] pos) (tI Γ W (G.iRange2 da db)) :=
  tI_of (pi_range2 hg hm (pa_cons ha (pa_cons hb pa_nil hs2) (by rw [hs, hs2])) hs hs2) fun g L σ R sim rl h => by
    refine tD.mono (run1 sim rl h) fun x H1 ⟨g1, dx, e1, s1, st1, rl1, r1, w1⟩ => ?_
    subst e1
    refine tD.mono (run1 s1 rl1 w1) fun y H2 ⟨g2, dy, e2, s2, st2, rl2, r2, w2⟩ => ?_
    subst e2
    cases r1 with
    | int i =>
      cases r2 with
      | int j =>
        dsimp only at w2
        split at w2
        · rename_i hc
          exact ⟨i, j, rfl, ⟨by omega, by omega, hc.2.2.1, by omega⟩, WP.here w2 s2 (wk_range i _ (by unfold big; omega))⟩
        · exact w2.elim
      | _ => exact w2.elim
    | _ => exact w2.elim
end
/-! ### targets -/
def gNs : List Nat → TGs
  | [] => gNil
  | i :: r => gCons (gName i) (gNs r)
def gTg (K : PySem.W.Frag) : Tg → TG
  | .one i => gName i
  | .tup is => gTup K is.length (gNs is)
def tgIs : Tg → List Nat
  | .one i => [i]
  | .tup is => is
def setsV : List Nat → List V → St → St
  | i :: is, v :: vs, σ => setsV is vs (σ.set i (some v))
  | _, _, σ => σ
theorem wipe_set {σ : St} {i : Nat} {x : Option V} : ∀ {own : List Nat}, i ∈ own → wipe (σ.set i x) own = wipe σ own
  | [], h => by cases h
  | v :: vs, h => by
    unfold wipe
    by_cases hm : i ∈ vs
    · rw [wipe_set hm]
    · have : i = v := by simpa [hm] using h
      subst this
      have comm : ∀ vs : List Nat, i ∉ vs → wipe (σ.set i x) vs = (wipe σ vs).set i x := by
        intro vs
        induction vs with
        | nil => intro _; rfl
        | cons w ws ih =>
          intro hn
          unfold wipe
          rw [ih (fun z => hn (List.mem_cons_of_mem _ z)), List.set_comm _ _ (fun z => hn (by rw [z]; exact List.mem_cons_self))]
      rw [comm vs hm, List.set_set]
theorem wipe_sets {own : List Nat} : ∀ (is : List Nat) (vs : List V) (σ : St), (∀ i ∈ is, i ∈ own) → wipe (setsV is vs σ) own = wipe σ own
  | [], _, _, _ => by cases ‹List V› <;> rfl
  | _ :: _, [], _, _ => rfl
  | i :: is, v :: vs, σ, h => by
    show wipe (setsV is vs (σ.set i (some v))) own = _
    rw [wipe_sets is vs _ fun j hj => h j (List.mem_cons_of_mem _ hj), wipe_set (h i List.mem_cons_self)]
theorem sets_run {Γ : Ctx} {g : Wd} : ∀ (is : List Nat) (ds : List D) (vs : List V) (L L1 : Lc) (σ : St), setAll is ds L = some L1 → Reps Γ g ds vs → RepL Γ g L σ →
    RepL Γ g L1 (setsV is vs σ) ∧ is.length = vs.length ∧ ∀ Q : St → Hp → Prop, Q (setsV is vs σ) g.H → gNs is vs σ g.H Q
  | [], [], _, _, _, _, e, r, rl => by cases r; cases e; exact ⟨rl, rfl, fun Q q => ⟨rfl, q⟩⟩
  | [], _ :: _, _, _, _, _, e, _, _ => by cases e
  | _ :: _, [], _, _, _, _, e, _, _ => by cases e
  | i :: is, d :: ds, _, L, L1, σ, e, r, rl => by
    cases r with
    | @cons _ _ v vs h1 h2 =>
      obtain ⟨a, b, c⟩ := sets_run is ds vs (L.set i (some d)) L1 (σ.set i (some v)) e h2 (rl.set i h1)
      exact ⟨a, by simp [b], fun Q q => ⟨v, vs, rfl, c Q q⟩⟩
theorem tg_run {Γ : Ctx} {g : Wd} {t : Tg} {d : D} {v : V} {L L1 : Lc} {σ : St} (h : bindTg t d L = some L1) (r : Rep Γ g d v) (rl : RepL Γ g L σ) :
    ∃ σ1, RepL Γ g L1 σ1 ∧ (∀ Q : St → Hp → Prop, Q σ1 g.H → gTg Γ.K t v σ g.H Q) ∧ ∀ own, (∀ i ∈ tgIs t, i ∈ own) → wipe σ1 own = wipe σ own := by
  cases t with
  | one i =>
    cases h
    exact ⟨_, rl.set i r, fun Q q => q, fun own ho => wipe_set (ho i (by simp [tgIs]))⟩
  | tup is =>
    cases r with
    | @tup a vs xs h1 h2 =>
      obtain ⟨p, q, s⟩ := sets_run is xs vs L L1 σ h h2 rl
      exact ⟨_, p, fun Q z => ⟨a, vs, rfl, h1.sq, q.symm, s Q z⟩, fun own ho => wipe_sets is vs σ ho⟩
    | _ => cases h
theorem RepL.wipe {Γ : Ctx} {g : Wd} {L : Lc} {σ : St} (h : RepL Γ g L σ) : ∀ own : List Nat, RepL Γ g (wipeL L own) (L2.wipe σ own)
  | [] => h
  | i :: r => by
    have q := RepL.wipe h r
    refine ⟨by simp [wipeL, L2.wipe, q.1], fun j d e => ?_⟩
    unfold wipeL at e
    unfold L2.wipe
    by_cases hj : j = i
    · subst hj
      have hl : j < (wipeL L r).length := by simpa using (List.getElem?_eq_some_iff.mp e).1
      rw [List.getElem?_set_self hl] at e; cases e
    · rw [List.getElem?_set_ne (Ne.symm hj)] at e
      obtain ⟨v, e1, e2⟩ := q.2 j d e
      exact ⟨v, by rw [List.getElem?_set_ne (Ne.symm hj)]; exact e1, e2⟩
abbrev noW : WX := fun _ _ _ _ => False
theorem WP.noExc {α β : Type} {Γ : Ctx} {W : WX} {σ σ' : St} {Rr : Rl α β} {g : Wd} {o : Out α} {Q : β → Hp → Prop} (h : WP Γ W σ Rr g (noExc o) Q) : WP Γ noW σ' Rr g o Q := by
  cases o with
  | ok a S => exact h
  | exc c S => exact h.elim
  | bad => exact h
/-- WP at another slots' state, where nothing is raised -/
theorem WP.noσ {α β : Type} {Γ : Ctx} {σ σ' : St} {Rr : Rl α β} {g : Wd} {o : Out α} {Q : β → Hp → Prop} (h : WP Γ noW σ Rr g o Q) : WP Γ noW σ' Rr g o Q := by
  cases o <;> exact h
/-- the list that is being made stands apart -/
def Wd.hold (g : Wd) (D : Addr) (vs : List V) : Wd := { g with R := D :: g.R, H := upd g.H D (.lst vs) }
def Wd.free (g : Wd) (R : List Addr) : Wd := { g with R := R }
theorem hold_tr {Γ : Ctx} {g : Wd} {D : Addr} {vs : List V} (s : Sim Γ g) (h : g.H D = none) : Tr g (g.hold D vs) where
  pre := ⟨[], by simp [Wd.hold]⟩
  kp := fun b o e n _ => ⟨(upd_ne (ne_of_none e h)).trans e, n, fun r => by
    show b ∉ D :: g.R
    simp [r, ne_of_none e h]⟩
  tups := fun b xs e => (upd_ne (ne_of_none e h)).trans e
theorem hold_sim {Γ : Ctx} {g : Wd} {D : Addr} {vs : List V} (s : Sim Γ g) (h : g.H D = none) (hz : vs.length ≤ sizeLine) : Sim Γ (g.hold D vs) := by
  have q := s.fresh (u := .lst vs) h hz (fun c q z => by cases z)
  refine ⟨q.len, q.nd, fun i a o h1 h2 => ?_, fun a ha => ?_, q.bd, q.tab, q.code⟩
  · have np : a ≠ D := fun z => s.fresh_not h (z ▸ List.mem_of_getElem? h1)
    exact (s.obj i a o h1 h2).tr (hold_tr s h) (upd_ne np)
  · have ha : a ∈ D :: g.R := ha
    rcases List.mem_cons.mp ha with e | e
    · subst e; exact ⟨s.fresh_not h, _, upd_same, fun _ z => by cases z⟩
    · exact q.res a e
/-- one more in the list that is being made -/
def Wd.more (g : Wd) (D : Addr) (vs : List V) : Wd := { g with H := upd g.H D (.lst vs) }
theorem more_tr {g : Wd} {D : Addr} {vs ws : List V} (hR : D ∈ g.R) (h : g.H D = some (.lst ws)) : (∀ b o, g.H b = some o → b ≠ D → (g.more D vs).H b = some o) := fun b o e n => (upd_ne n).trans e
mutual
theorem Rep.more {Γ : Ctx} {g : Wd} {D : Addr} {vs ws : List V} (hR : D ∈ g.R) (h : g.H D = some (.lst ws)) : ∀ (d : G.D) {v : V}, Rep Γ g d v → Rep Γ (g.more D vs) d v
  | .non, _, r => by cases r; exact .non
  | .bl b, _, r => by cases r; exact .bl b
  | .int b, _, r => by cases r; exact .int b
  | .str b, _, r => by cases r; exact .str b (by assumption)
  | .tup xs, _, r => by
    cases r with
    | @tup a us _ h1 h2 =>
      refine .tup ?_ (Reps.more hR h xs h2)
      rcases h1 with h1 | h1
      · exact .inl ((upd_ne (fun z => by rw [z, h] at h1; cases h1)).trans h1)
      · exact .inr h1
  | .lst xs, _, r => by
    cases r with
    | @lst a us _ h1 h2 =>
      refine .lst ⟨(upd_ne (fun z => h1.2.2 (by rw [z]; exact hR))).trans h1.1, h1.2.1, h1.2.2⟩ (Reps.more hR h xs h2)
  | .dct xs, _, r => by
    cases r with
    | @dct a us _ h1 h2 =>
      refine .dct ⟨(upd_ne (fun z => h1.2.2 (by rw [z]; exact hR))).trans h1.1, h1.2.1, h1.2.2⟩ (RepK.more hR h xs h2)
  | .ref i, _, r => by
    cases r with
    | ref h1 => exact .ref h1
  | .scr i, _, r => by
    cases r with
    | @scr a _ h1 =>
      refine .scr ?_
      rcases h1 with ⟨h1, n, nr⟩ | h1
      · have na : a ≠ D := fun z => nr (by rw [z]; exact hR)
        refine .inl ⟨?_, n, nr⟩
        rcases h1 with h1 | ⟨o, h1⟩
        · exact .inl ((upd_ne na).trans h1)
        · exact .inr ⟨o, (upd_ne na).trans h1⟩
      · exact .inr h1
theorem Reps.more {Γ : Ctx} {g : Wd} {D : Addr} {vs ws : List V} (hR : D ∈ g.R) (h : g.H D = some (.lst ws)) : ∀ (d : List G.D) {v : List V}, Reps Γ g d v → Reps Γ (g.more D vs) d v
  | [], _, r => by cases r; exact .nil
  | d :: ds, _, r => by
    cases r with
    | cons h1 h2 => exact .cons (Rep.more hR h d h1) (Reps.more hR h ds h2)
theorem RepK.more {Γ : Ctx} {g : Wd} {D : Addr} {vs ws : List V} (hR : D ∈ g.R) (h : g.H D = some (.lst ws)) : ∀ (d : List (G.D × G.D)) {v : List (Key × V)}, RepK Γ g d v → RepK Γ (g.more D vs) d v
  | [], _, r => by cases r; exact .nil
  | (k, d) :: ds, _, r => by
    cases r with
    | cons e h0 h1 h2 => exact .cons e (Rep.more hR h k h0) (Rep.more hR h d h1) (RepK.more hR h ds h2)
end
theorem RepO.more {Γ : Ctx} {g : Wd} {D a : Addr} {vs ws : List V} {o : AO} (hR : D ∈ g.R) (h : g.H D = some (.lst ws)) (na : a ≠ D) (r : RepO Γ g a o) : RepO Γ (g.more D vs) a o := by
  have e : (g.more D vs).H a = g.H a := upd_ne na
  cases o with
  | lst xs => obtain ⟨vs, q, r⟩ := r; exact ⟨vs, e.trans q, Reps.more hR h _ r⟩
  | dct xs => obtain ⟨vs, q, r⟩ := r; exact ⟨vs, e.trans q, RepK.more hR h _ r⟩
  | lck xs => obtain ⟨x, vs, q, r⟩ := r; exact ⟨x, vs, e.trans q, RepK.more hR h _ r⟩
  | dtt xs => exact r.elim
  | lkt xs => exact r.elim
  | ins c fs => obtain ⟨x, vs, q, r⟩ := r; exact ⟨x, vs, e.trans q, Paired.mapP r fun p q z => ⟨z.1, Rep.more hR h _ z.2⟩⟩
  | gone => obtain ⟨x, q, r⟩ := r; exact ⟨x, e.trans q, r⟩
theorem more_sim {Γ : Ctx} {g : Wd} {D : Addr} {vs ws : List V} (s : Sim Γ g) (hR : D ∈ g.R) (h : g.H D = some (.lst ws)) (hz : vs.length ≤ sizeLine) : Sim Γ (g.more D vs) := by
  have nD := (s.res D hR).1
  refine ⟨s.len, s.nd, fun i a o h1 h2 => (s.obj i a o h1 h2).more hR h (fun z => nD (z ▸ List.mem_of_getElem? h1)), fun a ha => ?_, fun a o e => ?_, ?_, fun c q e => ?_⟩
  · obtain ⟨h1, o, h2, h3⟩ := s.res a ha
    refine ⟨h1, ?_⟩
    by_cases e : a = D
    · subst e; exact ⟨_, upd_same, fun _ z => by cases z⟩
    · exact ⟨o, (upd_ne e).trans h2, h3⟩
  · by_cases q : a = D
    · subst q
      have e' : upd g.H a (.lst vs) a = some o := e
      rw [upd_same] at e'; cases e'; exact hz
    · exact s.bd a o ((upd_ne q).symm.trans e)
  · exact tabs_chg s.tab (fun ps z => by rw [h] at z; cases z) (fun q z => by rw [h] at z; cases z)
  · by_cases z : c = D
    · subst z; exact nD
    · exact s.code c q ((upd_ne z).symm.trans e)
theorem RepL.more {Γ : Ctx} {g : Wd} {D : Addr} {vs ws : List V} {L : Lc} {σ : St} (hR : D ∈ g.R) (h : g.H D = some (.lst ws)) (r : RepL Γ g L σ) : RepL Γ (g.more D vs) L σ :=
  ⟨r.1, fun i d e => let ⟨v, q, z⟩ := r.2 i d e; ⟨v, q, Rep.more hR h _ z⟩⟩
end G

namespace G
open PySem L2
/-! # GR5: comprehensions, statements -/
section
variable {X : Cx} {Γ : Ctx} {W : WX}
theorem dts_nil : PTs X [] (tTt Γ W G.tYes) := ⟨fun pins s σ H Q I ⟨g, L, e, sim, rl, w⟩ => by subst e; exact pts_nil.run pins s σ g.H Q I (w.here sim rfl)⟩
theorem dts_one {c : Expr} {t : DT} (h : PT X c (tTt Γ W t)) : PTs X [c] (tTt Γ W t) := pts_one h
end
/-- it comes through -/
def CW {α : Type} (o : Out α) (F : α → Hs → Prop) : Prop := match o with
  | .ok a S => F a S
  | _ => False
theorem CW.bind {α β : Type} {o : Out α} {f : α → Hs → Out β} {F : β → Hs → Prop} (h : CW (o.bind f) F) : ∃ a S, o = .ok a S ∧ CW (f a S) F := by
  cases o with
  | ok a S => exact ⟨a, S, rfl, h⟩
  | exc c S => exact h.elim
  | bad => exact h.elim
theorem CW.out {α : Type} {o : Out α} {F : α → Hs → Prop} (h : CW o F) : ∃ a S, o = .ok a S ∧ F a S := by
  cases o with
  | ok a S => exact ⟨a, S, rfl, h⟩
  | exc c S => exact h.elim
  | bad => exact h.elim
theorem tr_more {g1 g : Wd} {D : Addr} {vs ws : List V} (t : Tr g1 g) (hD : g1.H D = none) : Tr g1 (g.more D vs) where
  pre := t.pre
  kp := fun b o e n p => let ⟨h1, n1, r1⟩ := t.kp b o e n p; ⟨(upd_ne (ne_of_none e hD)).trans h1, n1, r1⟩
  tups := fun b xs e => (upd_ne (ne_of_none e hD)).trans (t.tups b xs e)
section
variable {X : Cx} {Γ : Ctx} {W : WX}
theorem lc_run {it : DI} {own : List Nat} {tg : Tg} {tt : DT} {te : DE} {g : Wd} {L : Lc} {σ : St} {Q : VK} (ho : ∀ i ∈ tgIs tg, i ∈ own) (sim : Sim Γ g) (rl : RepL Γ g L σ) (h : WP Γ W σ rD g (dLc it own tg tt te L g.S) Q) :
    tLc (tI Γ W it) (gTg Γ.K tg) (tTt Γ noW tt) (tD Γ noW te) own σ g.H Q := by
  refine ⟨g, L, rfl, sim, rl, (WP.bind h).mono fun J H1 ⟨g1, gx, e1, s1, st1, wk, w1⟩ => ?_⟩
  subst e1
  have rl1 := rl.step st1
  obtain ⟨gd, xs⟩ := gx
  dsimp only at w1
  obtain ⟨hz, wk⟩ := wk
  have hz : xs.length ≤ sizeLine := hz
  intro D hD
  have key : CW (lcGo gd xs tg tt te (wipeL L own) xs g1.S) (fun ys S' => ∀ g' vs, g'.S = S' → Tr g1 g' → g'.R = D :: g1.R → Sim Γ g' → g'.H D = some (.lst vs) → Reps Γ g' ys vs → Q (.ref D) g'.H) := by
    cases q : lcGo gd xs tg tt te (wipeL L own) xs g1.S with
    | ok ys S' =>
      rw [q] at w1
      intro g' vs e tr hR s' hd r
      have t2 : Tr g' (g'.free g1.R) := ⟨⟨[], by simp [Wd.free]⟩, fun b o e n _ => ⟨e, n, fun z => by show b ∉ g1.R; rw [hR] at z; exact fun k => z (List.mem_cons_of_mem _ k)⟩, fun _ _ e => e⟩
      have s2 : Sim Γ (g'.free g1.R) := ⟨s'.len, s'.nd, fun i a o h1 h2 => (s'.obj i a o h1 h2).tr t2 rfl, fun a ha => s'.res a (by rw [hR]; exact List.mem_cons_of_mem _ ha), s'.bd, s'.tab, s'.code⟩
      have st2 : Step g1 (g'.free g1.R) := (tr.trans t2).step rfl
      refine w1 (g'.free g1.R) (.ref D) e st2 s2 (.lst ⟨hd, fun z => ?_, s1.notR hD⟩ (Reps.tr t2 _ r))
      exact (s'.res D (by rw [hR]; exact List.mem_cons_self)).1 (Wd.Live.mem (show g'.Live D from z))
    | exc c S' => rw [q] at w1; exact w1.elim
    | bad => rw [q] at w1; exact w1.elim
  refine ⟨fun i m H => m = xs.length - i ∧ i ≤ xs.length ∧ ∃ g2 acc accV, g2.H = H ∧ g2.R = D :: g1.R ∧ Sim Γ g2 ∧ Tr g1 g2 ∧ g2.H D = some (.lst accV) ∧ Reps Γ g2 acc accV ∧ accV.length ≤ i ∧
      CW (lcGo gd xs tg tt te (wipeL L own) (xs.drop i) g2.S) (fun ys S' => ∀ g' vs, g'.S = S' → Tr g1 g' → g'.R = D :: g1.R → Sim Γ g' → g'.H D = some (.lst vs) → Reps Γ g' (acc ++ ys) vs → Q (.ref D) g'.H),
    ⟨xs.length, by simp, Nat.zero_le _, g1.hold D [], [], [], rfl, rfl, hold_sim s1 hD (Nat.zero_le _), hold_tr s1 hD, upd_same, .nil, Nat.zero_le _, by rw [List.drop_zero]; exact key⟩, ?_⟩
  rintro i m H ⟨rfl, hi, g2, acc, accV, rfl, hR, s2, t2, hd, ra, hl, cw⟩
  have hRD : D ∈ g2.R := by rw [hR]; exact List.mem_cons_self
  by_cases hlt : i < xs.length
  · rw [List.drop_eq_getElem_cons hlt] at cw
    unfold lcGo at cw
    split at cw
    case isFalse => exact cw.elim
    case isTrue hs =>
    obtain ⟨hgo, _⟩ := wk g2 t2 s2 hs i
    obtain ⟨go, yld⟩ := hgo hlt
    refine .inr ⟨go, fun H' => (∃ g2 acc accV, g2.H = H' ∧ g2.R = D :: g1.R ∧ Sim Γ g2 ∧ Tr g1 g2 ∧ g2.H D = some (.lst accV) ∧ Reps Γ g2 acc accV ∧ accV.length ≤ i + 1 ∧
      CW (lcGo gd xs tg tt te (wipeL L own) (xs.drop (i + 1)) g2.S) (fun ys S' => ∀ g' vs, g'.S = S' → Tr g1 g' → g'.R = D :: g1.R → Sim Γ g' → g'.H D = some (.lst vs) → Reps Γ g' (acc ++ ys) vs → Q (.ref D) g'.H)), fun H' w' => ⟨xs.length - (i + 1), by omega, rfl, hlt, w'⟩, fun x H' y => ?_⟩
    obtain ⟨d, g3, ed, rfl, eS, st3, s3, rx⟩ := yld x H' y
    have ed' : xs[i]? = some d := ed
    have edx : xs[i] = d := by rw [List.getElem?_eq_getElem hlt] at ed'; exact Option.some.inj ed'
    rw [edx] at cw
    split at cw
    · exact cw.elim
    · rename_i L1 eb
      have rlw : RepL Γ g3 (wipeL L own) (L2.wipe σ own) := ((rl1.tr t2).step st3).wipe own
      obtain ⟨σ1, r1, hQ, hw⟩ := tg_run eb rx rlw
      refine hQ _ ⟨?_, ?_⟩
      · have := hw own ho
        rw [this]
        have idem : ∀ vs : List Nat, L2.wipe (L2.wipe σ own) vs = L2.wipe (L2.wipe σ own) vs := fun _ => rfl
        -- wipe is idempotent
        have step : ∀ (vs ws : List Nat) (τ : St), (∀ v ∈ vs, v ∈ ws) → L2.wipe (L2.wipe τ vs) ws = L2.wipe τ ws := by
          intro vs
          induction vs with
          | nil => intro ws τ _; rfl
          | cons v vs ih =>
            intro ws τ hv
            show L2.wipe ((L2.wipe τ vs).set v none) ws = _
            rw [wipe_set (hv v List.mem_cons_self), ih ws τ fun z hz => hv z (List.mem_cons_of_mem _ hz)]
        exact step own own σ fun _ h => h
      · rw [← eS] at cw
        obtain ⟨b, S1, et, cw⟩ := CW.bind cw
        refine ⟨g3, L1, rfl, s3, r1, ?_⟩
        rw [et]
        intro g4 b' e4 st4 s4 eb'
        cases (show b = b' from eb')
        have t4 : Tr g1 g4 := (t2.trans st3.tr).trans st4.tr
        have hd4 : g4.H D = some (.lst accV) := (st4.keep D _ (st3.keep D _ hd (fun z => (s2.res D hRD).1 z.mem) (fun _ z => by cases z)).1 (fun z => (s3.res D (by rw [st3.R]; exact hRD)).1 z.mem) (fun _ z => by cases z)).1
        have hR4 : g4.R = D :: g1.R := by rw [st4.R, st3.R, hR]
        have ra4 : Reps Γ g4 acc accV := Reps.step st4 _ (Reps.step st3 _ ra)
        cases b with
        | false =>
          simp only [Bool.false_eq_true, if_false] at cw ⊢
          exact ⟨g4, acc, accV, rfl, hR4, s4, t4, hd4, ra4, by omega, by rw [e4]; exact cw⟩
        | true =>
          simp only [if_true] at cw ⊢
          obtain ⟨y, S2, ey, cw⟩ := CW.bind cw
          refine ⟨g4, L1, rfl, s4, r1.step st4, ?_⟩
          rw [e4, ey]
          intro g5 yv e5 st5 s5 ry
          have hd5 : g5.H D = some (.lst accV) := (st5.keep D _ hd4 (fun z => (s4.res D (by rw [hR4]; exact List.mem_cons_self)).1 z.mem) (fun _ z => by cases z)).1
          have hR5 : g5.R = D :: g1.R := by rw [st5.R, hR4]
          have hRD5 : D ∈ g5.R := by rw [hR5]; exact List.mem_cons_self
          have hlen : accV.length < sizeLine := by omega
          refine ⟨accV, hd5, hlen, g5.more D (accV ++ [yv]), acc ++ [y], accV ++ [yv], rfl, hR5, more_sim s5 hRD5 hd5 (by rw [List.length_append, List.length_singleton]; omega), tr_more (ws := accV) (t4.trans st5.tr) hD, upd_same, ?_, by rw [List.length_append, List.length_singleton]; omega, ?_⟩
          · exact Reps.more hRD5 hd5 _ ((Reps.step st5 _ ra4).append (.cons ry .nil))
          · obtain ⟨ys, S3, ez, cw⟩ := CW.bind cw
            show CW (lcGo gd xs tg tt te (wipeL L own) (xs.drop (i + 1)) g5.S) _
            rw [e5, ez]
            intro g' vs e tr hR' s' hd' r
            exact cw g' vs e tr hR' s' hd' (by rw [List.append_assoc] at r; exact r)
  · have ei : i = xs.length := by omega
    subst ei
    rw [List.drop_length] at cw
    unfold lcGo at cw
    split at cw
    case isFalse => exact cw.elim
    case isTrue hs =>
    exact .inl ⟨(wk g2 t2 s2 hs xs.length).2 (Nat.le_refl _), cw g2 accV rfl t2 hR s2 hd (by simpa using ra)⟩
theorem de_lc {elt tg iter : Expr} {ifs : List Expr} {scope : Scope} {own : List (Str × Nat)} {pos : Pos} {it : DI} {t : Tg} {tt : DT} {te : DE} (hx : On X Γ) (hc : X.calm = true) (hN : X.N.Nodup) (ho : ∀ i ∈ tgIs t, i ∈ own.map (·.2)) (hi : PI X tg iter (tI Γ W it)) (ok : BlkOk X.N X.env.scope scope own)
    (hg : ∀ (s : Shared) (H : Hp) (C : Addr) (cl : List (Str × Addr)) (fp : List Addr), PG (X.blk s H scope (compEnvC scope cl C X.env) fp) tg (gTg X.K t)) (ht : ∀ (s : Shared) (H : Hp) (C : Addr) (cl : List (Str × Addr)) (fp : List Addr), PTs (X.blk s H scope (compEnvC scope cl C X.env) fp) ifs (tTt Γ noW tt))
    (he : ∀ (s : Shared) (H : Hp) (C : Addr) (cl : List (Str × Addr)) (fp : List Addr), PE (X.blk s H scope (compEnvC scope cl C X.env) fp) elt (tD Γ noW te)) (hs : ∀ x, foldedSetIterable iter X.env x = pure x := by intro _; rfl) :
    PE X (.ListComp elt [⟨tg, iter, ifs, 0⟩] scope pos) (tD Γ W (dLc it (own.map (·.2)) t tt te)) :=
  PE.of (pe_lc hc hN hi ok hg ht he hs) fun g L σ Q sim rl h => by rw [hx.K]; exact lc_run ho sim rl h
/-! ### statements -/
theorem PS.of {st : Stmt} {t : TS} {d : DS} (h : PS X st t) (k : ∀ g L σ E, Sim Γ g → RepL Γ g L σ → WPS Γ W g (d L g.S) E → t E σ g.H) : PS X st (tDS Γ W d) :=
  ⟨fun pins s σ H E I ⟨g, L, e, sim, rl, w⟩ => by subst e; exact h.run pins s σ g.H E I (k g L σ E sim rl w)⟩
theorem PSs.of {st : List Stmt} {t : TS} {d : DS} (h : PSs X st t) (k : ∀ g L σ E, Sim Γ g → RepL Γ g L σ → WPS Γ W g (d L g.S) E → t E σ g.H) : PSs X st (tDS Γ W d) :=
  ⟨fun pins s σ H E I ⟨g, L, e, sim, rl, w⟩ => by subst e; exact h.run pins s σ g.H E I (k g L σ E sim rl w)⟩
variable {st : Stmt} {rest : List Stmt} {sa sb : DS} {a b c e o : Expr} {da db dc : DE} {pos : Pos}
theorem dss_nil : PSs X [] (tDS Γ W sNext) := PSs.of pss_nil fun g L σ E sim rl h => h g σ rfl (Step.refl g) sim rl
theorem dss_one (h : PS X st (tDS Γ W sa)) : PSs X [st] (tDS Γ W sa) := pss_one h
theorem dss_cons (h1 : PS X st (tDS Γ W sa)) (h2 : PSs X rest (tDS Γ W sb)) : PSs X (st :: rest) (tDS Γ W (sSeq sa sb)) :=
  PSs.of (pss_cons h1 h2) fun g L σ E sim rl h => by
    refine ⟨g, L, rfl, sim, rl, ?_⟩
    unfold sSeq at h
    cases q : sa L g.S with
    | nx L1 S1 =>
      rw [q] at h
      intro g1 σ1 e1 st1 s1 r1
      refine ⟨g1, L1, rfl, s1, r1, ?_⟩
      rw [e1]
      exact WPS.step h st1
    | rt v S1 => rw [q] at h; exact h
    | bk L1 S1 => rw [q] at h; exact h
    | ct L1 S1 => rw [q] at h; exact h
    | exc c S1 => rw [q] at h; exact h
    | bad => rw [q] at h; exact h
theorem ds_pass : PS X (.Pass pos) (tDS Γ W sNext) := PS.of ps_pass fun g L σ E sim rl h => h g σ rfl (Step.refl g) sim rl
theorem ds_cont : PS X (.Continue pos) (tDS Γ W sCont) := PS.of ps_continue fun g L σ E sim rl h => h g σ rfl (Step.refl g) sim rl
theorem ds_never : PS X st (tDS Γ W sBad) := PS.of ps_never fun g L σ E sim rl h => h
theorem dss_never : PSs X rest (tDS Γ W sBad) := PSs.of pss_never fun g L σ E sim rl h => h
theorem ds_expr (he : PE X e (tD Γ W da)) (hs : swapsWith e none pos.line X.env = pure false := by rfl) : PS X (.Expr e pos) (tDS Γ W (sExpr da)) :=
  PS.of (ps_expr he hs) fun g L σ E sim rl h => by
    refine tD.mono (run1S sim rl h) fun x H1 ⟨g1, dx, e1, s1, st1, rl1, r1, w1⟩ => ?_
    subst e1
    exact w1 g1 σ rfl (Step.refl g1) s1 rl1
theorem ds_ret (he : PE X e (tD Γ W da)) : PS X (.Return (some e) pos) (tDS Γ W (sRet da)) :=
  PS.of (ps_ret he) fun g L σ E sim rl h => by
    refine tD.mono (run1S sim rl h) fun x H1 ⟨g1, dx, e1, s1, st1, rl1, r1, w1⟩ => ?_
    subst e1
    exact w1 g1 x rfl (Step.refl g1) s1 r1
/-- an object's list becomes a frozen one -/
def Wd.ice (g : Wd) (i : Nat) : Wd := { g with S := g.S.set i .gone }
theorem ice_live {g : Wd} {i : Nat} {b : Addr} (n : ¬ g.Live b) : ¬ (g.ice i).Live b := fun ⟨j, x, q1, q2, q3⟩ => by
  have q2 : (g.S.set i .gone)[j]? = some x := q2
  by_cases hj : j = i
  · subst hj
    have hl : j < g.S.length := by simpa using (List.getElem?_eq_some_iff.mp q2).1
    rw [List.getElem?_set_self hl] at q2; cases q2; cases q3
  · rw [List.getElem?_set_ne (Ne.symm hj)] at q2
    exact n ⟨j, x, q1, q2, q3⟩
theorem ice_step {g : Wd} {i : Nat} : Step g (g.ice i) := ⟨rfl, ⟨[], by simp [Wd.ice]⟩, fun b o h n _ => ⟨h, ice_live n⟩, fun _ _ h => h⟩
theorem ice_sim {g : Wd} {i : Nat} (s : Sim Γ g) : Sim Γ (g.ice i) where
  len := by simp [Wd.ice, s.len]
  nd := s.nd
  obj := fun j b ob q1 q2 => by
    have q2 : (g.S.set i .gone)[j]? = some ob := q2
    by_cases hj : j = i
    · subst hj
      have hl : j < g.S.length := by simpa using (List.getElem?_eq_some_iff.mp q2).1
      rw [List.getElem?_set_self hl] at q2; cases q2
      exact s.there q1
    · rw [List.getElem?_set_ne (Ne.symm hj)] at q2
      exact (s.obj j b ob q1 q2).step ice_step rfl
  res := s.res
  bd := s.bd
  tab := s.tab
  code := s.code
theorem ice_lst {g : Wd} {i : Nat} {a : Addr} {xs : List D} (s : Sim Γ g) (h1 : g.ι[i]? = some a) (h2 : g.S[i]? = some (.lst xs)) : Rep Γ (g.ice i) (.lst xs) (.ref a) := by
  obtain ⟨vs, e, r⟩ := s.obj i a _ h1 h2
  refine .lst ⟨e, fun ⟨j, x, q1, q2, q3⟩ => ?_, fun z => (s.res a z).1 (List.mem_of_getElem? h1)⟩ (Reps.step ice_step _ r)
  have ej : j = i := nodup_get s.nd q1 h1
  have q2 : (g.S.set i .gone)[j]? = some x := q2
  rw [ej, List.getElem?_set_self (List.getElem?_eq_some_iff.mp h2).1] at q2
  cases q2; cases q3
theorem ds_retF (he : PE X e (tD Γ W da)) : PS X (.Return (some e) pos) (tDS Γ W (sRetF da)) :=
  PS.of (ps_ret he) fun g L σ E sim rl h => by
    refine tD.mono (run1S sim rl h) fun x H1 ⟨g1, dx, e1, s1, st1, rl1, r1, w1⟩ => ?_
    subst e1
    cases r1 with
    | @ref a i h1 =>
      dsimp only at w1
      cases q : g1.S[i]? with
      | none => rw [q] at w1; exact w1.elim
      | some o =>
        rw [q] at w1
        cases o with
        | lst xs => exact w1 (g1.ice i) (.ref a) rfl ice_step (ice_sim s1) (ice_lst s1 h1 q)
        | _ => exact w1.elim
    | _ => exact w1.elim
theorem ds_retN : PS X (.Return none pos) (tDS Γ W sRetN) := PS.of ps_retN fun g L σ E sim rl h => h g .non rfl (Step.refl g) sim .non
theorem ds_if {tc : DT} {as bs : List Stmt} (hc : PT X c (tTt Γ W tc)) (ha : PSs X as (tDS Γ W sa)) (hb : PSs X bs (tDS Γ W sb)) : PS X (.If c as bs pos) (tDS Γ W (sIf tc sa sb)) :=
  PS.of (ps_if hc ha hb) fun g L σ E sim rl h => by
    refine tTt.mono (runTS sim rl h) fun k H1 ⟨g1, e1, s1, st1, rl1, w1⟩ => ?_
    subst e1
    cases k with
    | true => exact ⟨g1, L, rfl, s1, rl1, w1⟩
    | false => exact ⟨g1, L, rfl, s1, rl1, w1⟩
theorem ds_set {i : Nat} {x : Str} {pos' : Pos} (hN : X.N.Nodup) (hi : X.N[i]? = some x) (hx : Loc X.env.scope x) (he : PE X e (tD Γ W da)) (hs : swapsWith e (some (.Name x pos')) pos.line X.env = pure false := by rfl) (hf : X.fn x = true ∨ X.env.scope.names.lookup x = some .local := by first | exact .inl rfl | exact .inr rfl | assumption) :
    PS X (.Assign [.Name x pos'] e pos) (tDS Γ W (sAsg i da)) :=
  PS.of (ps_set hN hi hx he hs hf) fun g L σ E sim rl h => by
    refine tD.mono (run1S sim rl h) fun x H1 ⟨g1, dx, e1, s1, st1, rl1, r1, w1⟩ => ?_
    subst e1
    exact w1 g1 _ rfl (Step.refl g1) s1 (rl1.set i r1)
theorem ds_setLc {i : Nat} {y : Str} {py : Pos} {elt tg iter : Expr} {ifs : List Expr} {scope : Scope} {own : List (Str × Nat)} {pos spos : Pos} {it : DI} {t : Tg} {tt : DT} {te : DE} (hx : On X Γ) (hc : X.calm = true) (hN : X.N.Nodup) (ho : ∀ i ∈ tgIs t, i ∈ own.map (·.2)) (hy : X.N[i]? = some y) (hyl : X.env.scope.names.lookup y = some .local)
    (hsw : swapsWith (.ListComp elt [⟨tg, iter, ifs, 0⟩] scope pos) (some (.Name y py)) spos.line X.env = pure true) (hi : PI X tg iter (tI Γ W it)) (ok : BlkOk X.N X.env.scope scope own)
    (hg : ∀ (s : Shared) (H : Hp) (C : Addr) (cl : List (Str × Addr)) (fp : List Addr), PG (X.blk s H scope (compEnvC scope cl C X.env) fp) tg (gTg X.K t)) (ht : ∀ (s : Shared) (H : Hp) (C : Addr) (cl : List (Str × Addr)) (fp : List Addr), PTs (X.blk s H scope (compEnvC scope cl C X.env) fp) ifs (tTt Γ noW tt))
    (he : ∀ (s : Shared) (H : Hp) (C : Addr) (cl : List (Str × Addr)) (fp : List Addr), PE (X.blk s H scope (compEnvC scope cl C X.env) fp) elt (tD Γ noW te)) (hs : ∀ x, foldedSetIterable iter X.env x = pure x := by intro _; rfl) :
    PS X (.Assign [.Name y py] (.ListComp elt [⟨tg, iter, ifs, 0⟩] scope pos) spos) (tDS Γ W (sAsg i (dLc it (own.map (·.2)) t tt te))) :=
  PS.of (ps_setLc hc hN hy hyl hsw hi ok hg ht he hs) fun g L σ E sim rl h => by
    rw [hx.K]
    have h2 := (WPS.toS (σ := σ) (R1 := rD) h).mono (Q' := fun x H1 => gName i x σ H1 E.nx) fun x H1 ⟨g1, dx, e1, s1, st1, r1, w1⟩ => by
      subst e1
      exact w1 g1 _ rfl (Step.refl g1) s1 ((rl.step st1).set i r1)
    exact lc_run ho sim rl h2
/-- a, b = e -/
theorem ds_asgT {is : List Nat} {tg : Expr} (hx : On X Γ) (he : PE X e (tD Γ W da)) (hg : PG X tg (gTg X.K (.tup is))) (hs : swapsWithSole [tg] e pos.line X.env = pure false := by rfl) (hw : swappedStores [tg] e X.env = pure none := by rfl)
    (h1 : (assignEach [tg] X.env).map (·.2) = [assign tg X.env] := by rfl) : PS X (.Assign [tg] e pos) (tDS Γ W (sAsgT is da)) :=
  PS.of (ps_asg he hg hs hw h1) fun g L σ E sim rl h => by
    refine tD.mono (run1S sim rl h) fun x H1 ⟨g1, dx, e1, s1, st1, rl1, r1, w1⟩ => ?_
    subst e1
    cases q : bindTg (.tup is) dx L with
    | none => rw [q] at w1; exact w1.elim
    | some L1 =>
      rw [q] at w1
      obtain ⟨σ1, r2, hQ, _⟩ := tg_run q r1 rl1
      rw [hx.K]
      exact hQ _ (w1 g1 σ1 rfl (Step.refl g1) s1 r2)
/-- a, b = x, y: no tuple is made -/
theorem ds_par {i j : Nat} {x y : Str} {ds : DA} {px py pt : Pos} {kt k2 pt2} (hc : X.calm = true) (hN : X.N.Nodup) (hi : X.N[i]? = some x) (hj : X.N[j]? = some y) (hij : i ≠ j)
    (hx : X.env.scope.names.lookup x = some .local) (hy : X.env.scope.names.lookup y = some .local) (ha : PA X [a, b] (tA Γ W ds))
    (hw : swappedStores [.Tuple [.Name x px, .Name y py] kt pt] (.Tuple [a, b] k2 pt2) X.env = pure (some [x, y]) := by rfl)
    (hs : swapsWithSole [.Tuple [.Name x px, .Name y py] kt pt] (.Tuple [a, b] k2 pt2) pos.line X.env = pure false := by rfl) :
    PS X (.Assign [.Tuple [.Name x px, .Name y py] kt pt] (.Tuple [a, b] k2 pt2) pos) (tDS Γ W (sAsgT [i, j] (dTup ds))) :=
  PS.of (ps_par hc hN hi hj hij hx hy ha hw hs) fun g L σ E sim rl h => by
    refine ⟨g, L, rfl, sim, rl, ?_⟩
    have h : WPS Γ W g (((ds L g.S).bind fun xs S1 => if xs.length ≤ big then Out.ok (D.tup xs) S1 else .bad).toS fun x S1 => match bindTg (.tup [i, j]) x L with | some L1 => .nx L1 S1 | none => .bad) E := h
    cases q : ds L g.S with
    | ok xs S1 =>
      rw [q] at h
      intro g1 vs e1 st1 s1 rs
      by_cases hz : xs.length ≤ big
      · simp only [Out.bind, hz, if_true, Out.toS, bindTg] at h
        match xs, rs, h with
        | [p, r], rs, h =>
          obtain ⟨v, u, rfl, r1, r2⟩ := reps2 rs
          exact ⟨v, u, rfl, h g1 _ e1 st1 s1 (((rl.step st1).set i r1).set j r2)⟩
        | [], _, h => exact h.elim
        | [_], _, h => exact h.elim
        | _ :: _ :: _ :: _, _, h => exact h.elim
      · simp only [Out.bind, hz, if_false, Out.toS] at h
        exact h.elim
    | exc c S1 => rw [q] at h; exact fun g1 e1 st1 s1 => h g1 σ e1 st1 s1
    | bad => rw [q] at h; exact h.elim
end
end G

namespace G
open PySem L2
/-! # GR6: loops, raise, fields, calls -/
section
variable {X : Cx} {Γ : Ctx} {W : WX} {tg iter c e o : Expr} {body : List Stmt} {it : DI} {t : Tg} {sb : DS} {da db : DE} {pos : Pos}
theorem ds_for (hx : On X Γ) (hp : PassesOwn (model X.prog X.w) X.A X.env X.xe) (hc : X.calm = true) (hi : PI X tg iter (tI Γ W it)) (hg : PG X tg (gTg X.K t)) (hb : PSs X body (tDS Γ W sb))
    (hs : ∀ x, foldedSetIterable iter X.env x = pure x := by intro _; rfl) : PS X (.For tg iter body [] pos) (tDS Γ W (sFor it t sb)) :=
  PS.of (ps_for hp hc hi hg hb hs) fun g L σ E sim rl h => by
    rw [hx.K]
    refine ⟨g, L, rfl, sim, rl, (WPS.toS h).mono fun J H1 ⟨g1, gx, e1, s1, st1, wk, w1⟩ => ?_⟩
    subst e1
    have rl1 := rl.step st1
    obtain ⟨gd, xs⟩ := gx
    dsimp only at w1
    obtain ⟨_, wk⟩ := wk
    refine ⟨fun i m τ H => m = xs.length - i ∧ i ≤ xs.length ∧ ∃ g2 L2', g2.H = H ∧ Sim Γ g2 ∧ Step g1 g2 ∧ RepL Γ g2 L2' τ ∧ WPS Γ W g2 (forGo gd xs t sb (xs.drop i) L2' g2.S) E,
      ⟨xs.length, by simp, Nat.zero_le _, g1, L, rfl, s1, Step.refl g1, rl1, by rw [List.drop_zero]; exact w1⟩, ?_⟩
    rintro i m τ H ⟨rfl, hi', g2, M, rfl, s2, st2, rl2, w2⟩
    by_cases hlt : i < xs.length
    · rw [List.drop_eq_getElem_cons hlt] at w2
      unfold forGo at w2
      split at w2
      case isFalse => exact w2.elim
      case isTrue hok =>
      obtain ⟨go, yld⟩ := (wk g2 st2.tr s2 hok i).1 hlt
      refine .inr ⟨go, fun τ' H' => ∃ g3 L3, g3.H = H' ∧ Sim Γ g3 ∧ Step g1 g3 ∧ RepL Γ g3 L3 τ' ∧ WPS Γ W g3 (forGo gd xs t sb (xs.drop (i + 1)) L3 g3.S) E, fun τ' H' w' => ⟨xs.length - (i + 1), by omega, rfl, hlt, w'⟩, fun x H' y => ?_⟩
      obtain ⟨d, g3, ed, rfl, eS, st3, s3, rx⟩ := yld x H' y
      have ed' : xs[i]? = some d := ed
      have edx : xs[i] = d := by rw [List.getElem?_eq_getElem hlt] at ed'; exact Option.some.inj ed'
      rw [edx] at w2
      split at w2
      · exact w2.elim
      · rename_i L1 eb
        obtain ⟨σ1, r1, hQ, _⟩ := tg_run eb rx (rl2.step st3)
        refine hQ _ ⟨g3, L1, rfl, s3, r1, ?_⟩
        rw [eS]
        cases q : sb L1 g2.S with
        | nx L4 S4 =>
          rw [q] at w2
          intro g4 σ4 e4 st4 s4 r4
          exact ⟨g4, L4, rfl, s4, (st2.trans st3).trans st4, r4, by rw [e4]; exact WPS.step w2 (st3.trans st4)⟩
        | ct L4 S4 =>
          rw [q] at w2
          intro g4 σ4 e4 st4 s4 r4
          exact ⟨g4, L4, rfl, s4, (st2.trans st3).trans st4, r4, by rw [e4]; exact WPS.step w2 (st3.trans st4)⟩
        | bk L4 S4 => rw [q] at w2; exact fun g4 σ4 e4 st4 s4 r4 => w2 g4 σ4 e4 (st3.trans st4) s4 r4
        | rt v S4 => rw [q] at w2; exact fun g4 σ4 e4 st4 s4 r4 => w2 g4 σ4 e4 (st3.trans st4) s4 r4
        | exc k S4 => rw [q] at w2; exact fun g4 σ4 e4 st4 s4 => w2 g4 σ4 e4 (st3.trans st4) s4
        | bad => rw [q] at w2; exact w2.elim
    · have ei : i = xs.length := by omega
      subst ei
      rw [List.drop_length] at w2
      unfold forGo at w2
      split at w2
      case isFalse => exact w2.elim
      case isTrue hok =>
      exact .inl ⟨(wk g2 st2.tr s2 hok xs.length).2 (Nat.le_refl _), w2 g2 τ rfl (Step.refl g2) s2 rl2⟩
theorem ds_while {tc : DT} {k : Nat} (hp : PassesOwn (model X.prog X.w) X.A X.env X.xe) (hc : PT X c (tTt Γ W tc)) (hb : PSs X body (tDS Γ W sb)) : PS X (.While c body [] pos) (tDS Γ W (sWhile k tc sb)) :=
  PS.of (ps_while hp hc hb) fun g L σ E sim rl h => by
    refine ⟨fun m τ H => ∃ g2 L2', g2.H = H ∧ Sim Γ g2 ∧ RepL Γ g2 L2' τ ∧ WPS Γ W g2 (whGo tc sb m L2' g2.S) E, ⟨k, g, L, rfl, sim, rl, h⟩, ?_⟩
    rintro m τ H ⟨g2, M, rfl, s2, rl2, w2⟩
    cases m with
    | zero => exact w2.elim
    | succ m =>
      refine tTt.mono (runTS s2 rl2 w2) fun b H1 ⟨g3, e3, s3, st3, rl3, w3⟩ => ?_
      subst e3
      cases b with
      | false => exact w3 g3 τ rfl (Step.refl g3) s3 rl3
      | true =>
        refine ⟨fun τ' H' => ∃ g4 L4, g4.H = H' ∧ Sim Γ g4 ∧ RepL Γ g4 L4 τ' ∧ WPS Γ W g4 (whGo tc sb m L4 g4.S) E, fun τ' H' w' => ⟨m, Nat.lt_succ_self _, w'⟩, g3, M, rfl, s3, rl3, ?_⟩
        simp only [if_true] at w3
        cases q : sb M g3.S with
        | nx L4 S4 =>
          rw [q] at w3
          intro g4 σ4 e4 st4 s4 r4
          exact ⟨g4, L4, rfl, s4, r4, by rw [e4]; exact WPS.step w3 st4⟩
        | ct L4 S4 =>
          rw [q] at w3
          intro g4 σ4 e4 st4 s4 r4
          exact ⟨g4, L4, rfl, s4, r4, by rw [e4]; exact WPS.step w3 st4⟩
        | bk L4 S4 => rw [q] at w3; exact w3
        | rt v S4 => rw [q] at w3; exact w3
        | exc k S4 => rw [q] at w3; exact w3
        | bad => rw [q] at w3; exact w3.elim
/-- raise X('..') -/
theorem ds_raise {st : Stmt} {k : Nat} {C : Addr} (h : PS X st (fun _ σ H => W (.ref C) none σ H)) (hk : Γ.xA k = C) : PS X st (tDS Γ W (sRaise k)) :=
  PS.of h fun g L σ E sim rl w => by rw [← hk]; exact w g σ rfl (Step.refl g) sim
/-! ### fields -/
theorem lookF_rep {g : Wd} {f : List Nat} : ∀ {fs : List (List Nat × D)} {vs : List (Str × V)}, RepF Γ g fs vs → ∀ d, lookF f fs = some d → ∃ v, vs.lookup (sOf f) = some v ∧ Rep Γ g d v
  | [], _, r, d, h => by cases h
  | (n, d0) :: fs, _, r, d, h => by
    cases r with
    | @cons _ q _ vs h1 h2 =>
      obtain ⟨m, v⟩ := q
      obtain ⟨e1, r1⟩ := h1
      simp only at e1 r1
      subst e1
      unfold lookF at h
      split at h
      · rename_i hn
        cases h
        subst hn
        exact ⟨v, by simp [List.lookup], r1⟩
      · rename_i hn
        obtain ⟨u, e2, r2⟩ := lookF_rep h2 d h
        refine ⟨u, ?_, r2⟩
        have : (sOf f == sOf n) = false := by simpa using fun z => hn (sOf_inj z).symm
        simp only [List.lookup, this]
        exact e2
theorem lookF_none {g : Wd} {f : List Nat} : ∀ {fs : List (List Nat × D)} {vs : List (Str × V)}, RepF Γ g fs vs → lookF f fs = none → vs.lookup (sOf f) = none
  | [], _, r, _ => by cases r; rfl
  | (n, d0) :: fs, _, r, h => by
    cases r with
    | @cons _ q _ vs h1 h2 =>
      obtain ⟨m, v⟩ := q
      obtain ⟨e1, r1⟩ := h1
      simp only at e1 r1
      subst e1
      unfold lookF at h
      split at h
      · cases h
      · rename_i hn
        have : (sOf f == sOf n) = false := by simpa using fun z => hn (sOf_inj z).symm
        simp only [List.lookup, this]
        exact lookF_none h2 h
theorem putF_rep {g : Wd} {f : List Nat} {d : D} {v : V} (rv : Rep Γ g d v) : ∀ {fs : List (List Nat × D)} {vs : List (Str × V)}, RepF Γ g fs vs → RepF Γ g (putF f d fs) (L2.putF (sOf f) v vs)
  | [], _, r => by cases r; exact .cons ⟨rfl, rv⟩ .nil
  | (n, d0) :: fs, _, r => by
    cases r with
    | @cons _ q _ vs h1 h2 =>
      obtain ⟨m, u⟩ := q
      obtain ⟨e1, r1⟩ := h1
      simp only at e1 r1
      subst e1
      unfold putF L2.putF
      by_cases hn : n = f
      · subst hn
        simp only [if_true]
        exact .cons ⟨rfl, rv⟩ h2
      · have : ¬ sOf n = sOf f := fun z => hn (sOf_inj z)
        simp only [hn, this, if_false]
        exact .cons ⟨rfl, r1⟩ (putF_rep rv h2)
theorem RepF.length {g : Wd} {fs : List (List Nat × D)} {vs : List (Str × V)} (r : RepF Γ g fs vs) : fs.length = vs.length := Paired.length r
/-- what is known of the class of number k -/
structure ClsOk (K : PySem.W.Frag) (Γ : Ctx) (k : Nat) (fs : List (List Nat)) : Prop where
  cl : Cls K (Γ.cA k)
  no : ∀ f ∈ fs, NoAttr K (Γ.cA k) (sOf f)
theorem de_fld {k : Nat} {f : Str} {fl : List Nat} {fs : List (List Nat)} (hf : f = sOf fl) (hC : ClsOk X.K Γ k fs) (hm : fl ∈ fs) (he : PE X e (tD Γ W da)) (hb : attributeBase e f X.env (eval e X.env) = eval e X.env := by rfl) : PE X (.Attribute e f pos) (tD Γ W (dOp1 (vFld k fl) da)) :=
  PE.of (pe_fld he hb) fun g L σ Q sim rl h => by
    refine tD.mono (run1 sim rl h) fun x H1 ⟨g1, dx, e1, s1, st1, rl1, r1, w1⟩ => ?_
    subst e1
    obtain ⟨v, ev, w⟩ := WP.opt w1
    unfold vFld at ev
    cases r1 with
    | @ref a i h1 =>
      dsimp only at ev
      cases q : g1.S[i]? with
      | none => rw [q] at ev; cases ev
      | some o =>
        rw [q] at ev
        cases o with
        | ins c' fs' =>
          dsimp only at ev
          split at ev
          · rename_i hk
            obtain ⟨dx, vs, e2, r2⟩ := s1.obj i a _ h1 q
            obtain ⟨u, e3, r3⟩ := lookF_rep r2 v ev
            rw [hk] at e2
            exact ⟨a, Γ.cA k, dx, vs, u, rfl, e2, hC.cl, by rw [hf]; exact hC.no fl hm, by rw [hf]; exact e3, w.here s1 r3⟩
          · cases ev
        | _ => cases ev
    | _ => cases ev
theorem ds_fld {k : Nat} {f : Str} {fl : List Nat} {fs : List (List Nat)} {val : Expr} {pos' : Pos} (hf : f = sOf fl) (hC : ClsOk X.K Γ k fs) (hm : fl ∈ fs) (ho : PE X o (tD Γ W da)) (hv : PE X val (tD Γ W db)) (hs : swapsWith val (some (.Attribute o f pos')) pos.line X.env = pure false := by rfl) :
    PS X (.Assign [.Attribute o f pos'] val pos) (tDS Γ W (G.sFld k fl da db)) :=
  PS.of (ps_fld ho hv hs) fun g L σ E sim rl h => by
    refine tD.mono (run1S sim rl h) fun y H1 ⟨g1, dy, e1, s1, st1, rl1, r1, w1⟩ => ?_
    subst e1
    refine tD.mono (run1S s1 rl1 w1) fun x H2 ⟨g2, dx, e2, s2, st2, rl2, r2, w2⟩ => ?_
    subst e2
    cases r2 with
    | @ref a i h1 =>
      dsimp only at w2
      cases q : g2.S[i]? with
      | none => rw [q] at w2; exact w2.elim
      | some ob =>
        rw [q] at w2
        cases ob with
        | ins c' fs' =>
          dsimp only at w2
          split at w2
          · rename_i hk
            obtain ⟨dx, vs, e3, r3⟩ := s2.obj i a _ h1 q
            rw [hk.1] at e3
            refine ⟨a, Γ.cA k, dx, vs, rfl, e3, hC.cl, by rw [hf]; exact hC.no fl hm, by rw [← r3.length]; exact hk.2, ?_⟩
            rw [hf]
            have st3 : Step g2 (g2.chg i a (.ins (Γ.cA k) dx (L2.putF (sOf fl) y vs)) (.ins k (putF fl dy fs'))) := Step.chg s2 h1 q rfl
            have s3 : Sim Γ (g2.chg i a (.ins (Γ.cA k) dx (L2.putF (sOf fl) y vs)) (.ins k (putF fl dy fs'))) := s2.chg h1 q rfl trivial (fun c q z => by cases z) ⟨dx, _, upd_same, (putF_rep (Rep.step st2 _ r1) r3).step st3.tr⟩
            exact w2 _ σ rfl st3 s3 (rl2.step st3)
          · exact w2.elim
        | _ => exact w2.elim
    | _ => exact w2.elim
/-! ### append -/
theorem de_app {apos cpos : Pos} (ho : PE X o (tD Γ W da)) (he : PE X e (tD Γ W db)) (hs : starEach (e :: []) X.env = (false, eval e X.env) :: starEach [] X.env := by rfl)
    (hbase : attributeBase o "append" X.env (eval o X.env) = eval o X.env := by rfl)
    (hfew : ((backTo cpos (starEach (e :: []) X.env)).all (fun x => !x.1) && (backToKw cpos (keywordEach [] X.env)).all (fun x => x.1.isSome) && decide ((e :: []).length + ([] : List Keyword).length + (if ([] : List Keyword).isEmpty then 0 else 1) < 30)) = true := by rfl)
    (hline : (apos.endLine == cpos.line) = true := by rfl) (hplain : (backTo cpos (starEach [] X.env)).any (·.1) = false := by rfl) :
    PE X (.Call (.Attribute o "append" apos) [e] [] cpos) (tD Γ W (dApp da db)) :=
  PE.of (pe_bm PySem.F.plainAttrs_list PySem.F.slot_list_append PySem.F.type_list_append mt_append ho (pa_cons he pa_nil hs) hbase hfew hline hs hplain) fun g L σ Q sim rl h => by
    refine tD.mono (run1 sim rl h) fun x H1 ⟨g1, dx, e1, s1, st1, rl1, r1, w1⟩ => ?_
    subst e1
    cases r1 with
    | @ref a i h1 =>
      dsimp only at w1
      cases q : g1.S[i]? with
      | none => rw [q] at w1; exact w1.elim
      | some ob =>
        rw [q] at w1
        cases ob with
        | lst ys =>
          obtain ⟨vs, e2, r2⟩ := s1.obj i a _ h1 q
          refine ⟨.inl ⟨rfl, _, SqL.of e2⟩, tD.mono (run1 s1 rl1 w1) fun y H2 ⟨g2, dy, e3, s2, st2, rl2, r3, w2⟩ => ?_⟩
          subst e3
          have h1' := st2.tr.ref h1
          cases q2 : g2.S[i]? with
          | none => rw [q2] at w2; exact w2.elim
          | some ob2 =>
            rw [q2] at w2
            cases ob2 with
            | lst zs =>
              dsimp only at w2
              split at w2
              · rename_i hz
                obtain ⟨ws, e4, r4⟩ := s2.obj i a _ h1' q2
                have hz' : ws.length < sizeLine := by rw [← r4.length, line_big]; exact hz
                refine ⟨a, ws, y, rfl, rfl, e4, hz', ?_⟩
                have st3 : Step g2 (g2.chg i a (.lst (ws ++ [y])) (.lst (zs ++ [dy]))) := Step.chg s2 h1' q2 rfl
                have s3 : Sim Γ (g2.chg i a (.lst (ws ++ [y])) (.lst (zs ++ [dy]))) := s2.chg h1' q2 rfl (by show (ws ++ [y]).length ≤ sizeLine; rw [List.length_append, List.length_singleton]; omega) (fun c q z => by cases z) ⟨_, upd_same, Reps.step st3 _ (r4.append (.cons r3 .nil))⟩
                exact w2 _ .non rfl st3 s3 .non
              · exact w2.elim
            | _ => exact w2.elim
        | _ => exact w1.elim
    | _ => exact w1.elim
end
/-! ### defs -/
theorem passN {X : Cx} : Passes (L2N.CX X.prog X.w) X L2.E0 := fun _ _ _ _ _ _ _ h => by
  obtain ⟨_, _, _, _, _, _, _, _, _, _, _, _, z⟩ := h
  exact z.elim
theorem takesN {X : Cx} : L2N.Takes X (fun _ _ _ _ => False) := fun _ _ x => by
  obtain ⟨_, _, _, _, _, _, _, _, _, _, _, _, _, _, _, _, z⟩ := x
  exact z.elim
abbrev wx (E : XK) : WX := fun c d _ H => E c d H
/-- what a def promises: its own function -/
def spD (Γ : Ctx) (m : DF) : Sp := fun vs H Q E => ∃ g ds, g.H = H ∧ Sim Γ g ∧ Reps Γ g ds vs ∧ WP Γ (wx E) [] rD g (m ds g.S) Q
theorem spD.len {Γ : Ctx} {np n : Nat} {b : DS} {ps : List Str} (h : ps.length = np) : ∀ vs H Q E, spD Γ (mDef np n b) vs H Q E → vs.length = ps.length := fun vs H Q E ⟨g, ds, e, s, r, w⟩ => by
  by_cases q : ds.length = np
  · rw [← r.length, q, h]
  · unfold mDef at w
    rw [if_neg q] at w
    exact w.elim
theorem WP.wx {α β : Type} {Γ : Ctx} {E : XK} {σ σ' : St} {Rr : Rl α β} {g : Wd} {o : Out α} {Q : β → Hp → Prop} (h : WP Γ (wx E) σ Rr g o Q) : WP Γ (G.wx E) σ' Rr g o Q := by
  cases o <;> exact h
theorem body_run {Γ : Ctx} {np : Nat} {N : List Str} {b : DS} {vs : List V} {H : Hp} {Q : VK} {E : XK} (hn : np ≤ N.length) (h : spD Γ (mDef np N.length b) vs H Q E) : tDS Γ (wx E) b { nx := fun _ H' => Q .non H', rt := Q } (L2.start N vs) H := by
  have hl0 := h
  obtain ⟨g, ds, rfl, sim, rs, w⟩ := h
  have hl : ds.length = np := by
    by_cases q : ds.length = np
    · exact q
    · unfold mDef at w
      rw [if_neg q] at w
      exact w.elim
  clear hl0
  refine ⟨g, ds.map some ++ List.replicate (N.length - np) none, rfl, sim, ?_, ?_⟩
  · refine ⟨?_, fun i d e => ?_⟩
    · simp [L2.start, ← rs.length, hl]
    · have hi : i < ds.length := by
        by_cases hi : i < ds.length
        · exact hi
        · rw [List.getElem?_append_right (by simpa using hi)] at e
          have := List.mem_of_getElem? e
          rw [List.mem_replicate] at this
          cases this.2
      rw [List.getElem?_append_left (by simpa using hi), List.getElem?_map] at e
      cases q : ds[i]? with
      | none => rw [q] at e; cases e
      | some d' =>
        rw [q] at e
        cases e
        obtain ⟨v, e1, r⟩ := rs.get q
        refine ⟨v, ?_, r⟩
        unfold L2.start
        rw [List.getElem?_append_left (by rw [List.length_map, ← rs.length]; exact hi), List.getElem?_map, e1]
        rfl
  · unfold mDef at w
    rw [if_pos hl] at w
    cases q : b (ds.map some ++ List.replicate (N.length - np) none) g.S with
    | nx L S =>
      rw [q] at w
      intro g' σ' e st s r
      exact w g' .non e st s .non
    | rt v S => rw [q] at w; exact w
    | bk L S => rw [q] at w; exact w.elim
    | ct L S => rw [q] at w; exact w.elim
    | exc c S => rw [q] at w; exact fun g' σ' e st s => w g' e st s
    | bad => rw [q] at w; exact w.elim
section
variable {P : Program} {w : World} {K : PySem.W.Frag} {mg : Str → Option Value} {base : Heap}
/-- a def keeps its own function -/
theorem fn_den {Γ : Ctx} {x qual : Str} {st : Stmt} {f : Addr} {fd : FuncData} {N ps : List Str} {k np : Nat} {b : DS} (F : Fun K x qual st f fd) (S : FnScope N ps (defScope st)) (hps : ps.length = np) (hn : np ≤ N.length)
    (hbody : ∀ (cdv : Value) (A : Around) (outer : List Env) (s : Shared) (H : Hp) (E : XK), Room k (A.deeper (PyProof.Rows.envOfC qual (defScope st) s.heap.objs.size f cdv)) → L2N.Takes (cxOf (L2N.CX P w) P w K mg base N qual (defScope st) f cdv A outer s H E) (wx E) →
      PassesOwn (model P w) (A.deeper (PyProof.Rows.envOfC qual (defScope st) s.heap.objs.size f cdv)) (PyProof.Rows.envOfC qual (defScope st) s.heap.objs.size f cdv) (cxOf (L2N.CX P w) P w K mg base N qual (defScope st) f cdv A outer s H E).xe →
      PSs (cxOf (L2N.CX P w) P w K mg base N qual (defScope st) f cdv A outer s H E) (defBody st) (tDS Γ (wx E) b)) : FnOk P w K mg base (L2N.CX P w) (k + 1) f fd ps (spD Γ (mDef np N.length b)) :=
  by
  obtain ⟨oc, od, kV, doc, pm, an, cdv, ct, osl, rfl, lk, hcd⟩ := F.ex
  exact fn_of lk hcd S (spD.len hps) fun A outer s H vs Q E hr h => ⟨_, hbody cdv A outer s H E hr (L2N.takes_of rfl rfl rfl rfl) (passes_of rfl), body_run hn h⟩
/-- .. whose code object is at c -/
theorem fn_denC {Γ : Ctx} {x qual : Str} {st : Stmt} {f c : Addr} {N ps : List Str} {k np : Nat} {b : DS} {oc : Value} {od an : Option Addr} {osl : Array (Option Value)} {kV doc pm ct : Value}
    (lk : K.lookup f = some ⟨oc, od, .func (PySem.W.fnOf x qual (defArgs st) (defBody st) (defScope st) .none kV doc pm an (.ref c) ct), osl⟩) (hcd : PySem.W.codeIn K (.ref c) qual = true) (S : FnScope N ps (defScope st)) (hps : ps.length = np) (hn : np ≤ N.length)
    (hbody : ∀ (A : Around) (outer : List Env) (s : Shared) (H : Hp) (E : XK), Room k (A.deeper (PyProof.Rows.envOfC qual (defScope st) s.heap.objs.size f (.ref c))) → L2N.Takes (cxOf (L2N.CX P w) P w K mg base N qual (defScope st) f (.ref c) A outer s H E) (wx E) →
      PassesOwn (model P w) (A.deeper (PyProof.Rows.envOfC qual (defScope st) s.heap.objs.size f (.ref c))) (PyProof.Rows.envOfC qual (defScope st) s.heap.objs.size f (.ref c)) (cxOf (L2N.CX P w) P w K mg base N qual (defScope st) f (.ref c) A outer s H E).xe →
      PSs (cxOf (L2N.CX P w) P w K mg base N qual (defScope st) f (.ref c) A outer s H E) (defBody st) (tDS Γ (wx E) b)) :
    FnOk P w K mg base (L2N.CX P w) (k + 1) f (PySem.W.fnOf x qual (defArgs st) (defBody st) (defScope st) .none kV doc pm an (.ref c) ct) ps (spD Γ (mDef np N.length b)) :=
  fn_of lk hcd S (spD.len hps) fun A outer s H vs Q E hr h => ⟨_, hbody A outer s H E hr (L2N.takes_of rfl rfl rfl rfl) (passes_of rfl), body_run hn h⟩
end
section
variable {X : Cx} {Γ : Ctx} {E : XK} {k : Nat} {f : Addr} {fd : FuncData} {ps : List Str} {m : DF} {x mn : Str} {p pos apos : Pos} {e o : Expr} {es : List Expr} {ds : DA} {da : DE}
theorem de_call (F : FnOk X.prog X.w X.K X.mg X.base (L2N.CX X.prog X.w) k f fd ps (spD Γ m)) (hr : Room k X.A) (hg : Gl X x) (hm : X.mg x = some (.ref f)) (hk : PySem.W.keepIn X.K (.ref f) = true) (hb : Binds X.K fd ps []) (tk : L2N.Takes X (wx E))
    (ha : PA X (e :: es) (tA Γ (wx E) ds)) (hdb : (x == ("__debug__" : Str)) = false := by decide) (he : starEach (e :: es) X.env = (false, eval e X.env) :: starEach es X.env := by rfl) (hpl : (backTo pos (starEach es X.env)).any (·.1) = false := by rfl) :
    PE X (.Call (.Name x p) (e :: es) [] pos) (tD Γ (wx E) (dCall m ds)) :=
  PE.of (pe_callS (E := WE (wx E)) F hr hg hm hk hb (fun σ => L2N.passAt tk σ) ha hdb he hpl) fun g L σ Q sim rl h => by
    have h : WP Γ (wx E) σ rD g ((ds L g.S).bind m) Q := h
    refine ⟨g, L, rfl, sim, rl, ?_⟩
    cases q : ds L g.S with
    | ok xs S1 =>
      rw [q] at h
      intro g1 vs e1 st1 s1 r1
      refine ⟨g1, xs, rfl, s1, r1, ?_⟩
      have h' := WP.step (show WP Γ (wx E) σ rD g (m xs S1) Q from h) st1
      rw [e1]
      exact h'.wx
    | exc c S1 => rw [q] at h; exact h
    | bad => rw [q] at h; exact h
theorem noE {α β : Type} {W : WX} {σ σ' : St} {Rr : Rl α β} {g : Wd} {ou : Out α} {Q : β → Hp → Prop} (h : WP Γ W σ Rr g (noExc ou) Q) : WP Γ (wx L2.E0) σ' Rr g ou Q := by
  cases ou with
  | ok a S => exact h
  | exc c S => exact h.elim
  | bad => exact h
theorem de_call0 {W : WX} (F : FnOk X.prog X.w X.K X.mg X.base (L2N.CX X.prog X.w) k f fd ps (spD Γ m)) (hr : Room k X.A) (hg : Gl X x) (hm : X.mg x = some (.ref f)) (hk : PySem.W.keepIn X.K (.ref f) = true) (hb : Binds X.K fd ps []) (hdb : (x == ("__debug__" : Str)) = false := by decide) :
    PE X (.Call (.Name x p) [] [] pos) (tD Γ W (dCall0 m)) :=
  PE.of (pe_call0 (dvs := []) F hr hg hm hk hb .nil passN hdb) fun g L σ Q sim rl h => ⟨g, [], rfl, sim, .nil, noE h⟩
theorem de_meth {C : Nat} {ml : List Nat} {fs : List (List Nat)} {pl : Sem Bool} (hmn : mn = sOf ml) (he : PE X o (tD Γ (wx E) da)) (hC : ClsOk X.K Γ C fs) (hm : Meth X.K (Γ.cA C) mn f) (F : FnOk X.prog X.w X.K X.mg X.base (L2N.CX X.prog X.w) k f fd ps (spD Γ m)) (hr : Room k X.A) (hb : Binds X.K fd ps []) (tk : L2N.Takes X (wx E)) (ha : PA X (e :: es) (tA Γ (wx E) ds))
    (hst : starEach (e :: es) X.env = (false, eval e X.env) :: starEach es X.env := by rfl) (hpl : (backTo pos (starEach es X.env)).any (·.1) = false := by rfl)
    (ht : eval (.Call (.Attribute o mn apos) (e :: es) [] pos) X.env = (do
      let ov ← eval o X.env
      standAt apos.atName
      let (f, first) ← holding [ov] (getMethod ov mn pl)
      callWith pos f first (backTo pos (starEach (e :: es) X.env)) (backToKw pos (keywordEach [] X.env))) := by rfl) :
    PE X (.Call (.Attribute o mn apos) (e :: es) [] pos) (tD Γ (wx E) (dMeth C ml m da ds)) :=
  PE.of (pe_meth (pl := pl) (dvs := []) he hC.cl hm F hr hb .nil (L2N.passes_call tk fun _ _ _ _ h => h) ha hst hpl ht) fun g L σ Q sim rl h => by
    refine tD.mono (run1 sim rl h) fun y H1 ⟨g1, dy, e1, s1, st1, rl1, r1, w1⟩ => ?_
    subst e1
    cases r1 with
    | @ref a i h1 =>
      dsimp only at w1
      cases q : g1.S[i]? with
      | none => rw [q] at w1; exact w1.elim
      | some ob =>
        rw [q] at w1
        cases ob with
        | ins c' fs' =>
          dsimp only at w1
          split at w1
          · rename_i hk
            obtain ⟨dx, vs, e2, r2⟩ := s1.obj i a _ h1 q
            rw [hk.1] at e2
            refine ⟨a, dx, vs, rfl, e2, by rw [hmn]; exact lookF_none r2 hk.2, g1, L, rfl, s1, rl1, ?_⟩
            cases q2 : ds L g1.S with
            | ok xs S2 =>
              rw [q2] at w1
              intro g2 us e3 st2 s2 r3
              rw [List.append_nil]
              refine ⟨g2, .ref i :: xs, rfl, s2, .cons (.ref (st2.tr.ref h1)) r3, ?_⟩
              have h' := WP.step (show WP Γ (wx E) σ rD g1 (m (.ref i :: xs) S2) Q from w1) st2
              rw [e3]
              exact h'.wx
            | exc c S2 => rw [q2] at w1; exact w1
            | bad => rw [q2] at w1; exact w1
          · exact w1.elim
        | _ => exact w1.elim
    | _ => exact w1.elim
theorem de_meth0 {C : Nat} {ml : List Nat} {fs : List (List Nat)} {pl : Sem Bool} (hmn : mn = sOf ml) (he : PE X o (tD Γ (wx E) da)) (hC : ClsOk X.K Γ C fs) (hm : Meth X.K (Γ.cA C) mn f) (F : FnOk X.prog X.w X.K X.mg X.base (L2N.CX X.prog X.w) k f fd ps (spD Γ m)) (hr : Room k X.A) (hb : Binds X.K fd ps []) (tk : L2N.Takes X (wx E))
    (ht : eval (.Call (.Attribute o mn apos) [] [] pos) X.env = (do
      let ov ← eval o X.env
      standAt apos.atName
      let (f, first) ← holding [ov] (getMethod ov mn pl)
      callWith pos f first (backTo pos (starEach [] X.env)) (backToKw pos (keywordEach [] X.env))) := by rfl) :
    PE X (.Call (.Attribute o mn apos) [] [] pos) (tD Γ (wx E) (dMeth C ml m da aNil)) :=
  PE.of (pe_meth0 (pl := pl) (dvs := []) he hC.cl hm F hr hb .nil (L2N.passes_call tk fun _ _ _ _ h => h) ht) fun g L σ Q sim rl h => by
    refine tD.mono (run1 sim rl h) fun y H1 ⟨g1, dy, e1, s1, st1, rl1, r1, w1⟩ => ?_
    subst e1
    cases r1 with
    | @ref a i h1 =>
      dsimp only at w1
      cases q : g1.S[i]? with
      | none => rw [q] at w1; exact w1.elim
      | some ob =>
        rw [q] at w1
        cases ob with
        | ins c' fs' =>
          dsimp only at w1
          split at w1
          · rename_i hk
            obtain ⟨dx, vs, e2, r2⟩ := s1.obj i a _ h1 q
            rw [hk.1] at e2
            refine ⟨a, dx, vs, rfl, e2, by rw [hmn]; exact lookF_none r2 hk.2, g1, [.ref i], rfl, s1, .cons (.ref h1) .nil, ?_⟩
            exact (show WP Γ (wx E) σ rD g1 (m [.ref i] g1.S) Q from w1).wx
          · exact w1.elim
        | _ => exact w1.elim
    | _ => exact w1.elim
/-- a new instance and its dict -/
def Wd.inst (g : Wd) (c : Nat) (C x dx : Addr) : Wd := (g.put dx (.own x)).push x (.ins C dx []) (.ins c [])
theorem de_make {C : Nat} (M : Mk X.K (Γ.cA C) f) (F : FnOk X.prog X.w X.K X.mg X.base (L2N.CX X.prog X.w) k f fd ps (spD Γ m)) (hr : Room (k + 1) X.A) (hg : Gl X x) (hm : X.mg x = some (.ref (Γ.cA C))) (hb : Binds X.K fd ps []) (tk : L2N.Takes X (wx E)) (ha : PA X (e :: es) (tA Γ (wx E) ds))
    (hdb : (x == ("__debug__" : Str)) = false := by decide) (he : starEach (e :: es) X.env = (false, eval e X.env) :: starEach es X.env := by rfl) (hpl : (backTo pos (starEach es X.env)).any (·.1) = false := by rfl) :
    PE X (.Call (.Name x p) (e :: es) [] pos) (tD Γ (wx E) (dMake C m ds)) :=
  PE.of (pe_make (dvs := []) M F hr hg hm hb .nil (L2N.passes_call tk fun _ _ _ _ h => h) ha hdb he hpl) fun g L σ Q sim rl h => by
    refine tA.mono (runA sim rl h) fun vs H1 ⟨g1, dv, e1, s1, st1, rl1, r1, w1⟩ => ?_
    subst e1
    intro a dx ha hdx hne
    have s2 : Sim Γ (g1.put dx (.own a)) := s1.fresh hdx trivial (fun c q z => by cases z)
    have ha2 : (g1.put dx (.own a)).H a = none := (upd_ne (Ne.symm hne)).trans ha
    have s3 : Sim Γ (g1.inst C (Γ.cA C) a dx) := s2.push ha2 trivial (fun c q z => by cases z) ⟨dx, [], upd_same, .nil⟩
    have st3 : Step g1 (g1.inst C (Γ.cA C) a dx) := (Step.fresh hdx).trans (Step.push s2 ha2)
    rw [List.append_nil]
    have hi : (g1.inst C (Γ.cA C) a dx).ι[g1.S.length]? = some a := by
      show (g1.ι ++ [a])[g1.S.length]? = some a
      rw [← s1.len]; simp
    refine ⟨g1.inst C (Γ.cA C) a dx, .ref g1.S.length :: dv, rfl, s3, .cons (.ref hi) (Reps.step st3 _ r1), ?_⟩
    have w2 := WP.bind (R1 := rD) (WP.step w1 st3)
    refine WP.mono (WP.wx w2) fun b H2 ⟨g4, d4, e4, s4, st4, r4, w4⟩ => ?_
    subst e4
    cases d4 with
    | non =>
      cases r4
      exact ⟨rfl, w4.here s4 (.ref (st4.tr.ref hi))⟩
    | _ => exact w4.elim
theorem de_make0 {C : Nat} (M : Mk X.K (Γ.cA C) f) (F : FnOk X.prog X.w X.K X.mg X.base (L2N.CX X.prog X.w) k f fd ps (spD Γ m)) (hr : Room (k + 1) X.A) (hg : Gl X x) (hm : X.mg x = some (.ref (Γ.cA C))) (hb : Binds X.K fd ps []) (tk : L2N.Takes X (wx E))
    (hdb : (x == ("__debug__" : Str)) = false := by decide) :
    PE X (.Call (.Name x p) [] [] pos) (tD Γ (wx E) (dMake C m aNil)) :=
  PE.of (pe_make0 (dvs := []) M F hr hg hm hb .nil (L2N.passes_call tk fun _ _ _ _ h => h) hdb) fun g1 L σ Q s1 rl h => by
    intro a dx ha hdx hne
    have s2 : Sim Γ (g1.put dx (.own a)) := s1.fresh hdx trivial (fun c q z => by cases z)
    have ha2 : (g1.put dx (.own a)).H a = none := (upd_ne (Ne.symm hne)).trans ha
    have s3 : Sim Γ (g1.inst C (Γ.cA C) a dx) := s2.push ha2 trivial (fun c q z => by cases z) ⟨dx, [], upd_same, .nil⟩
    have st3 : Step g1 (g1.inst C (Γ.cA C) a dx) := (Step.fresh hdx).trans (Step.push s2 ha2)
    have hi : (g1.inst C (Γ.cA C) a dx).ι[g1.S.length]? = some a := by
      show (g1.ι ++ [a])[g1.S.length]? = some a
      rw [← s1.len]; simp
    refine ⟨g1.inst C (Γ.cA C) a dx, [.ref g1.S.length], rfl, s3, .cons (.ref hi) .nil, ?_⟩
    have w2 := WP.bind (R1 := rD) (WP.step h st3)
    refine WP.mono (WP.wx w2) fun b H2 ⟨g4, d4, e4, s4, st4, r4, w4⟩ => ?_
    subst e4
    cases d4 with
    | non =>
      cases r4
      exact ⟨rfl, w4.here s4 (.ref (st4.tr.ref hi))⟩
    | _ => exact w4.elim
end
end G

namespace G
open PySem L2 L2H HotX PyProof.Rows
/-! # GR7: where an error is handled -/
section
variable {prog : Program} {w : World} {A : Around} {E : Value → Shared → Prop} {s : Shared}
theorem list_end_hot {it l y : Addr} {i : Nat} {xs : Array Value} {Q : Option Value → Shared → Prop} (hy : HotAt A y s.heap) (ne : y ≠ it) (hi : s.heap.IsListIter it l i) (hl : s.heap.IsList l xs) (hn : xs[i]? = none)
    (q : ∀ h', Heap.ExtBut it s.heap h' → Q none { s with heap := h' }) : wpAny (model prog w) A (pyNext (.ref it)) Q E s := by
  obtain ⟨oi, gi, ci, di⟩ := id hi
  obtain ⟨ol, gl, _, nl, dl⟩ := hl
  obtain ⟨hh, oy, ys, gy, dy, cy⟩ := hy
  unfold pyNext
  refine wpAny_bind (wpAny_attempt (wpAny_callSpecial?_slot (name := Str.ofString "__next__") hi.typeIs slot_listiter_next (wpAny_call_entry slot_listiter_next hi.typeIs entry_listiter_next ?_ (args_listiter_next _))))
  show wpAny _ _ (field (.ref it) 0 >>= _) _ _ s
  refine wpAny_bind (wpAny_field gi di (x := .ref l) rfl ?_)
  show wpAny _ _ (if (Value.ref l == Value.none) = true then _ else _) _ _ s
  rw [if_neg (show ¬ ((Value.ref l == Value.none) = true) from Bool.false_ne_true)]
  show wpAny _ _ (field (.ref it) 1 >>= _) _ _ s
  refine wpAny_bind (wpAny_field gi di (x := .int i 0) rfl ?_)
  show wpAny _ _ (seqItems? (.ref l) >>= _) _ _ s
  refine wpAny_bind (wpAny_seqItems gl dl ?_)
  simp only [Int.toNat_natCast, hn]
  refine wpAny_bind (wpAny_rule (wpAny_bind (wpAny_setField gi di (by simp) ?_)))
  show wpAny _ _ (newExc (.type "StopIteration") [] >>= _) _ _ _
  refine wpAny_bind ?_
  simp only [newExc, newTuple]
  refine wpAny_bind (wpAny_newObj_type ?_ (by size_fits))
  refine wpAny_bind (m := firstArgMember _ _) (wpAny_of_eq (a := Value.none) (by first | rfl | (simp only [firstArgMember]; rfl)) ?_)
  refine wpAny_newObj_type ?_ (by size_fits)
  have gy' := (Heap.get?_update_other s.heap (Obj.mapFields fun x => x.setIfInBounds 0 Value.none) (Ne.symm ne)).trans gy
  have two := Heap.get?_push_of_some ({ cls := .type "tuple", data := .seq ([] : List Value).toArray } : Obj) gy'
  refine raiseNew_hot ⟨hh, oy, ys, Heap.get?_push_of_some _ two, dy, cy⟩ (Nat.ne_of_lt (Heap.lt_size two)) (Heap.get?_push_size _ rfl) rfl (by first | (simp; done) | (simp; omega)) ?_
  refine wpAny_bind (wpAny_isInstance (T := "StopIteration") (b := true) ⟨_, Heap.get?_update_self _ (Heap.get?_push_size _ rfl) rfl, rfl⟩ isSubtype_stop ?_)
  refine wpAny_pure (q _ fun b o nb e => ?_)
  have e1 := (Heap.get?_update_other s.heap (Obj.mapFields fun x => x.setIfInBounds 0 Value.none) (Ne.symm nb)).trans e
  have e2 := Heap.get?_push_of_some ({ cls := .type "tuple", data := .seq ([] : List Value).toArray } : Obj) e1
  rw [Heap.get?_update_other _ _ (Nat.ne_of_gt (Heap.lt_size e2))]
  exact Heap.get?_push_of_some _ e2
end

/-- the turns of a list's walk there -/
theorem turn_lst_hot {P : Program} {w : World} {K : PySem.W.Frag} {tg : Expr} (a it : Addr) : TurnH P w K tg (Itl K a) [it] it (fun i h => h.IsListIter it a i) where
  mem := List.mem_singleton.mpr rfl
  obj := fun i h st b hb => by
    obtain rfl := List.mem_singleton.mp hb
    obtain ⟨o, e, _, d⟩ := st
    exact ⟨o, e, fun v z => by rw [d] at z; cases z⟩
  keep := fun i h h' st k => st.at fun o e => k it (List.mem_singleton.mpr rfl) o e
  item := by
    intro X p1 p2 p3 _ i pins s σ H E I hf st hg
    subst p1 p2 p3
    obtain ⟨vs, x, sq, hx⟩ := hg
    obtain ⟨us, rv, pl, _⟩ := I.list sq
    obtain ⟨u, hu, ru⟩ := rv.get hx
    obtain ⟨k0, k1, _, k3, k4, k5⟩ := hf it (List.mem_singleton.mpr rfl)
    refine wpAny_pyNext_list_item st pl.isList (x := u) (by simpa using hu) fun h' st' sb => ?_
    have J : Inv X pins σ H { s with heap := h' } := I.turned (t' := s.toks) (fun b o nb e => (sb.2 b nb).trans e) k0 k1 k3 k4 k5
    obtain ⟨o, e, c, d⟩ := id st'
    refine ⟨u, rfl, go_of (s := { s with heap := h' }) e c d (by decide) ⟨x, H, J, ru, ⟨rfl, fun ys hy => ?_⟩, st', fun b hb => (hf b hb).1⟩⟩
    rw [I.list_inj hy sq]; exact hx
  done := by
    intro X p1 p2 p3 hot i pins s σ H E I hf st hg
    subst p1 p2 p3
    obtain ⟨vs, sq, hx⟩ := hg
    obtain ⟨us, rv, pl, _⟩ := I.list sq
    obtain ⟨k0, k1, _, k3, k4, k5⟩ := hf it (List.mem_singleton.mpr rfl)
    have hl := rv.length
    obtain ⟨p, ⟨hh, v1, e1, c1⟩, hp⟩ := hot
    have hm : p ∈ X.pn ++ pins := List.mem_append_left _ hp
    exact list_end_hot (y := p.1) ⟨hh, p.2, v1, (I.pin p hm).1, e1, c1⟩ (k5 p hm) st pl.isList (by simp; omega) fun h' eb => ⟨rfl, I.turned (t' := s.toks) (fun b o nb e => eb b o nb e) k0 k1 k3 k4 k5⟩
  self := fun _ _ _ _ _ st h => wpAny_pyIter_listiter st h
/-! ### a comprehension over a list there -/
section
variable {X : Cx}
/-- the block's context bears the handled error, too -/
abbrev blkH (X : Cx) (s : Shared) (H : Hp) (scope : Scope) (cenv : Env) (fp : List Addr) : Cx := { X.blk s H scope cenv fp with pn := X.pn }
theorem blkH_inv {s0 s : Shared} {H0 H : Hp} {scope : Scope} {ce : Env} {fp : List Addr} {σ : L2.St} {pins : List (Addr × Obj)} (I : Inv (X.blk s0 H0 scope ce fp) pins σ H s) (hp : ∀ p ∈ X.pn, s.heap.get? p.1 = some p.2 ∧ H p.1 = none ∧ p.1 ≠ ce.locals ∧ p.1 ∉ frs X.stack ∧ ∀ v, p.2.data ≠ .cell v) :
    Inv (blkH X s0 H0 scope ce fp) pins σ H s :=
  ⟨⟨I.ok.mod, I.ok.kind, I.ok.glob, I.ok.blt, I.ok.above, I.ok.inj, I.ok.has, I.ok.cab, I.ok.hd, I.ok.frames, I.ok.stk, I.ok.exf, I.ok.bs, I.ok.bsz, I.ok.noex, I.ok.exfs, I.ok.funs, I.ok.frf⟩, I.os, I.bare, I.base, I.loc, I.cell, I.free, I.freeC,
    fun p hm => (List.mem_append.mp hm).elim (hp p) fun z => I.pin p (List.mem_append_right _ z), I.hok, I.len⟩

/-- [elt for tg in l] where an error is handled, l a list -/
theorem pe_lc_hot {elt tg l : Expr} {scope : Scope} {own : List (Str × Nat)} {pos : Pos} {tl : TE} {gt : TG} {te : TE} (hot : HotC X) (hN : X.N.Nodup) (hl : PE X l tl) (ok : BlkOk X.N X.env.scope scope own)
    (hg : ∀ (s : Shared) (H : Hp) (C : Addr) (cl : List (Str × Addr)) (fp : List Addr), PG (blkH X s H scope (compEnvC scope cl C X.env) fp) tg gt)
    (he : ∀ (s : Shared) (H : Hp) (C : Addr) (cl : List (Str × Addr)) (fp : List Addr), PE (blkH X s H scope (compEnvC scope cl C X.env) fp) elt te) (hs : ∀ x, foldedSetIterable l X.env x = pure x := by intro _; rfl) :
    PE X (.ListComp elt [⟨tg, l, [], 0⟩] scope pos) (tLc (L2.iList X.K tl) gt L2.tYes te (own.map (·.2))) := by
  refine ⟨fun pins s σ H Q I h => ?_⟩
  rw [eval_ListComp]
  have fr : ∀ y ∈ scope.names, y.2 = .free → ∃ c, X.env.cells.lookup y.1 = some c := fun y hy e => (ok.free y hy e).elim (fun z => I.ok.has _ (.inl z)) fun z => I.ok.has _ (.inr z)
  refine wpAny_comprehension_free (use := none) rfl hs (closure_ok fr) ok.kind (fun y hy e => by rw [ok.uniq y hy, e]) (thn (hl.run pins s σ H _ I h) fun v s1 hx => ?_)
  obtain ⟨x, H1, I1, r1, a, rfl, ⟨vs, sq⟩, q⟩ := hx
  cases r1
  obtain ⟨us, rv, pl, _⟩ := I1.list sq
  refine wpAny_pyIter_list pl.isList ?_
  -- the iterator, the new list, the block's frame
  generalize hit : s1.heap.objs.size = it
  generalize hs2 : ({ s1 with heap := s1.heap.push { cls := .type "list_iterator", data := .fields #[.ref a, .int 0 0] } } : Shared) = s2
  have J2 : Inv X pins σ H1 s2 := by rw [← hs2]; exact I1.kept (t' := s1.toks) fun b o e => Heap.get?_push_of_some _ e
  have i2 : s2.heap.IsListIter it a 0 := by rw [← hs2, ← hit]; exact ⟨_, Heap.get?_push_size _ rfl, rfl, rfl⟩
  have f2 : FpOk X pins H1 it := by rw [← hit]; exact I1.fpOk (Nat.le_refl _) (I1.hok.fresh (Nat.le_refl _))
  have l2 : it < s2.heap.objs.size := by obtain ⟨o, e, _⟩ := i2; exact Heap.lt_size e
  refine wpAny_newObj_type (newEnv_comp ?_) (by show 0 ≤ sizeLine; decide)
  generalize hD : s2.heap.objs.size = D
  have nD : H1 D = none := J2.hok.fresh (Nat.le_of_eq hD)
  obtain ⟨Wv, ⟨m0, w0⟩, turn⟩ := q D nD
  generalize hs3 : ({ s2 with heap := s2.heap.push { cls := .type "list", data := .seq ([] : List Value).toArray } } : Shared) = s3
  have k3 : ∀ b o, s2.heap.get? b = some o → s3.heap.get? b = some o := fun b o e => by rw [← hs3]; exact Heap.get?_push_of_some _ e
  have J3 : Inv X pins σ (upd H1 D (.lst [])) s3 := by
    rw [← hs3]
    refine J2.laid (t' := s2.toks) (fun b o e => Heap.get?_push_of_some _ e) (Nat.le_of_eq hD) ⟨Nat.zero_le _, [], 0, .nil, ?_⟩
    rw [← hD]; exact Heap.get?_push_size _ rfl
  have i3 : s3.heap.IsListIter it a 0 := i2.at fun o e => k3 it o e
  have l3 : it < s3.heap.objs.size := by obtain ⟨o, e, _⟩ := i3; exact Heap.lt_size e
  have nit : upd H1 D (.lst []) it = none := by rw [upd_ne (Nat.ne_of_lt (by rw [← hD]; exact l2))]; exact f2.1
  have f3 : ∀ b ∈ [it], FpOk X pins (upd H1 D (.lst [])) b ∧ b < s3.heap.objs.size := fun b hb => by
    obtain rfl := List.mem_singleton.mp hb
    exact ⟨⟨nit, f2.2⟩, l3⟩
  have J4 := block_start J3 ok hN f3
  have pg := hg s3 (upd H1 D (.lst [])) s3.heap.objs.size (cellsFrom (s3.heap.objs.size + 1) scope.names (cloFrom X.env.cells scope.names [])) [it]
  have pe := he s3 (upd H1 D (.lst [])) s3.heap.objs.size (cellsFrom (s3.heap.objs.size + 1) scope.names (cloFrom X.env.cells scope.names [])) [it]
  show codeAny _ _ (.compStart (.ListComp elt [⟨tg, l, [], 0⟩] scope pos) 0 (.ref it) (.ref D) (compEnvC scope (cellsFrom (s3.heap.objs.size + 1) scope.names (cloFrom X.env.cells scope.names [])) s3.heap.objs.size X.env)) (compPost (model X.prog X.w) X.A X.xe none (EP X pins σ Q) (.ref D) s3.heap.objs.size) { s3 with heap := pushCells (s3.heap.push { cls := .type "dict", data := .dict #[] }) scope.names }
  generalize hce : compEnvC scope (cellsFrom (s3.heap.objs.size + 1) scope.names (cloFrom X.env.cells scope.names [])) s3.heap.objs.size X.env = ce at J4 pg pe ⊢
  have cL : ce.locals = s3.heap.objs.size := by subst hce; rfl
  generalize hH3 : upd H1 D (.lst []) = H3 at J3 J4 pg pe w0 nit f3
  generalize hs4 : ({ s3 with heap := pushCells (s3.heap.push { cls := .type "dict", data := .dict #[] }) scope.names } : Shared) = s4 at J4 ⊢
  have k4 : ∀ b o, s3.heap.get? b = some o → s4.heap.get? b = some o := fun b o e => by rw [← hs4]; exact pushCells_keeps _ _ _ _ (Heap.get?_push_of_some _ e)
  have i4 : s4.heap.IsListIter it a 0 := i3.at fun o e => k4 it o e
  have J4' : Inv (blkH X s3 H3 scope ce [it]) [] (L2.wipe σ (own.map (·.2))) H3 s4 := blkH_inv J4 fun p hp => by
    obtain ⟨z1, z2, z3, z4, z5⟩ := J3.pin p (List.mem_append_left _ hp)
    refine ⟨k4 _ _ z1, z2, fun e => ?_, fun e => ?_, z5⟩
    · rw [cL] at e
      exact absurd (e ▸ Heap.lt_size z1) (Nat.lt_irrefl _)
    · exact (List.mem_cons.mp (J3.stkSub p.1 e)).elim z3 z4
  have hotB : HotC (blkH X s3 H3 scope ce [it]) := hot
  have T := turn_lst_hot (P := X.prog) (w := X.w) (K := X.K) (tg := tg) a it
  have stat : ∀ {τ : L2.St} {H' : Hp} {s' : Shared}, Inv (blkH X s3 H3 scope ce [it]) [] τ H' s' → H' it = none → ∀ b ∈ [it], FpOk (blkH X s3 H3 scope ce [it]) [] H' b := fun {τ H' s'} J hn b hb => by
    have hb' : b = it := List.mem_singleton.mp hb
    subst hb'
    refine ⟨hn, (J.ok.exf b hb).1, J.ok.exfs b hb, .inl hb, fun x c e => (J.ok.exf b hb).2 x c e, fun p hp => ?_⟩
    rw [List.append_nil] at hp
    exact (f3 b hb).1.2.2.2.2.2 p (List.mem_append_left _ hp)
  have loop : codeAny (model X.prog X.w) X.A (.compLoop (.ListComp elt [⟨tg, l, [], 0⟩] scope pos) 0 (.ref it) (.ref D) ce) (compPost (model X.prog X.w) X.A X.xe none (EP X pins σ Q) (.ref D) s3.heap.objs.size) s4 := by
    refine compLoop_any (fun n s' => ∃ i H', Inv (blkH X s3 H3 scope ce [it]) [] (L2.wipe σ (own.map (·.2))) H' s' ∧ s'.heap.IsListIter it a i ∧ H' it = none ∧ Wv i n H') ?_ m0 ⟨0, H3, J4', i4, nit, w0⟩
    rintro n s5 ⟨i, H5, J5, i5, n5, w5⟩
    rcases turn i n H5 w5 with ⟨stop, qq⟩ | ⟨go, Nx, hNx, step⟩
    · refine thnF (T.done (blkH X s3 H3 scope ce [it]) rfl rfl rfl hotB i [] s5 _ H5 (fun _ _ => False) J5 (stat J5 n5) i5 stop) fun r s6 ⟨hr, J6⟩ => ?_
      subst hr
      have J7 : Inv X pins σ H5 s6 := J3.call' (ch := [it]) J6.os J6.base J6.hok J6.bare fun b hb => ⟨(f3 b hb).1.2.2.2.1, (f3 b hb).1.2.1, (f3 b hb).1.2.2.2.2.1, (f3 b hb).1.2.2.2.2.2⟩
      have nC : H5 s3.heap.objs.size = none := by have z : H5 ce.locals = none := J6.free; rw [cL] at z; exact z
      obtain ⟨mm, hn, _⟩ := J6.loc
      have hn : s6.heap.Ns ce.locals mm := hn
      rw [cL] at hn
      obtain ⟨c0, c1, c2, c3, c4, c5⟩ := J3.fpOk (Nat.le_refl _) nC
      exact ⟨mm, hn, fun h'' sb => ⟨.ref D, H5, J7.turned (t' := s6.toks) (fun b o hb e => (sb.2 b hb).trans e) c0 c1 c3 c4 c5, rfl, qq⟩⟩
    · refine thnF (T.item (blkH X s3 H3 scope ce [it]) rfl rfl rfl hotB i [] s5 _ H5 (fun _ _ => False) J5 (stat J5 n5) i5 go) fun r s6 ⟨u, hr, h6⟩ => ?_
      subst hr
      refine thnF h6 fun _ s7 ⟨x, H7, J7, r7, y7, i7, n7⟩ => ?_
      have n7' := n7 it List.mem_cons_self
      have J7' := J7.pinned (stat J7 n7') (T.obj _ _ i7)
      refine thnF (pg.run _ s7 _ H7 x u _ J7' r7 (step x H7 y7)) fun _ s8 ⟨σ8, H8, J8, hw8, q8⟩ => ?_
      have fin : ∀ {s' : Shared} {H' : Hp}, Inv (blkH X s3 H3 scope ce [it]) ([] ++ pinsAt [it] s7.heap) σ8 H' s' → Nx H' → ∃ m, m < n ∧ ∃ i H', Inv (blkH X s3 H3 scope ce [it]) [] (L2.wipe σ (own.map (·.2))) H' s' ∧ s'.heap.IsListIter it a i ∧ H' it = none ∧ Wv i m H' := fun {s' H'} J' nx => by
        obtain ⟨m', hm, w'⟩ := hNx H' nx
        obtain ⟨o, e, _⟩ := T.obj _ _ i7 it List.mem_cons_self
        have z := J'.pin (it, o) (List.mem_append_right _ (List.mem_append_right _ (mem_pinsAt List.mem_cons_self e)))
        have hlen : (L2.wipe σ (own.map (·.2))).length = σ8.length := by rw [← hw8, wipe_length]
        refine ⟨m', hm, i + 1, H', (J'.unpinned (pins := [])).weak hlen (fun j v ev => ?_), i7.at fun o' e' => ?_, z.2.1, w'⟩
        · rw [← hw8] at ev
          exact (wipe_some ev).1
        · rw [e] at e'; cases e'; exact z.1
      refine wpAny_tests_nil ?_
      simp only [if_true]
      have q8' : te σ8 H8 fun y H4 => ∃ acc, H4 D = some (.lst acc) ∧ acc.length < sizeLine ∧ Nx (upd H4 D (.lst (acc ++ [y]))) := q8
      refine thnF (pe.run _ s8 σ8 H8 _ J8 q8') fun z s10 ⟨yv, H10, J10, r10, acc, hD10, hz10, nx⟩ => ?_
      exact app_ok (X := blkH X s3 H3 scope ce [it]) J10 hD10 hz10 r10 fun s11 J11 => fin J11 nx
  exact codeAny_compStart_list loop (T.self X.A 0 _ _ _ i4 loop)
end
end G

namespace G
open PySem L2 L2H HotX PyProof.Rows
/-! # GR8: sum, isinstance, calls where an error is handled; told -/
section
variable {prog : Program} {w : World} {A : Around} {E : Value → Shared → Prop} {s : Shared}
theorem walk_hot {y : Addr} {oy : Obj} {ys : Array Value} (hh : A.handled = some (.ref y)) (dy : oy.data = .fields ys) (cy : ys[2]? = some .none) (I l : Addr) (n1 : l ≠ I) (n2 : y ≠ I) (xs : Array Value) :
    Walks prog w A I [I, l, y] [I] xs.size (fun i v => xs[i]? = some v) (fun i h => h.IsListIter I l i ∧ h.IsList l xs ∧ h.get? y = some oy) where
  sub := fun b hb => by rw [List.mem_singleton.mp hb]; exact List.mem_cons_self
  frame := fun i h h' st hk => ⟨st.1.at fun o e => hk I (by simp) o e, st.2.1.at fun o e => hk l (by simp) o e, hk y (by simp) _ st.2.2⟩
  item := fun i s Q E hi st hQ => by
    refine wpAny_pyNext_list_item st.1 st.2.1 (x := xs[i]) (by simp [hi]) fun h' it' sb => ?_
    exact hQ _ h' s.toks (by simp [hi]) ⟨it', st.2.1.extBut sb.extBut n1, (sb.2 y n2).trans st.2.2⟩ fun b o hb e => sb.extBut b o (fun z => hb (by simp [z])) e
  done := fun s Q E st hQ => list_end_hot ⟨hh, oy, ys, st.2.2, dy, cy⟩ n2 st.1 st.2.1 (by simp) fun h' eb => hQ h' s.toks fun b o hb e => eb b o (fun z => hb (by simp [z])) e
  self := fun _ _ _ _ st hQ => wpAny_pyIter_listiter st.1 hQ
theorem sum_hot {y l : Addr} {us : List Value} {ns : List Int} {Q : Value → Shared → Prop} (hy : HotAt A y s.heap) (hl : s.heap.IsList l us.toArray) (hi : IntsAre us ns)
    (h : ∀ h' tk t', (∀ b o, s.heap.get? b = some o → h'.get? b = some o) → Q (.int ns.sum t') { s with heap := h', toks := tk }) : wpAny (model prog w) A (call (.builtin "sum") [.ref l]) Q E s := by
  obtain ⟨hh, oy, ys, gy, dy, cy⟩ := hy
  obtain ⟨xs, e⟩ := hi.allInts.items
  have hn : numsOf (intItems xs).toList = ns := by rw [← e]; exact hi.numsOf
  rw [nums_intItems] at hn
  rw [e] at hl
  refine call_sum_walkG (iter_intList hl fun s₂ e2 st hfp hlI => ?_)
  subst e2
  obtain ⟨st1, st2⟩ := st
  have ny : y ≠ s.heap.objs.size := Nat.ne_of_lt (Heap.lt_size gy)
  refine ⟨_, _, _, _, _, _, numAt xs, rfl, walk_hot (A := A.in1) hh dy cy _ l hlI ny (intItems xs), ⟨st1, st2, Heap.get?_push_of_some _ gy⟩, fun b hb => ?_, (fun _ _ => intItems_at), fun h' tk t' hk => ?_⟩
  · rcases List.mem_cons.mp hb with z | hb
    · exact hfp b (by simp [z])
    · rcases List.mem_cons.mp hb with z | hb
      · exact hfp b (by simp [z])
      · rw [List.mem_singleton.mp hb]; exact Heap.lt_size (Heap.get?_push_of_some _ gy)
  · have := h h' tk t' (old_kept hk)
    rw [preSum_eq, List.take_of_length_le (by simp [intItems]), hn]; exact this
end
section
variable {X : Cx}
theorem cr_sum_hot (hot : HotC X) : CallR X (.builtin "sum") (rSum X.K) := by
  intro pins s σ H vs us Q I r h
  obtain ⟨a, ns, rfl, sq, q⟩ := h
  obtain ⟨u, rfl, ru⟩ := vals1 r
  cases ru
  obtain ⟨y, hy⟩ := hot.at I
  obtain ⟨its, rv, pl, _⟩ := I.list sq
  exact sum_hot hy pl.isList rv.ints fun h' tk t' k => ⟨.int ns.sum, H, I.kept (t' := tk) k, ⟨t', rfl⟩, q⟩
/-- isinstance of the error that is handled -/
theorem cr_isE {a Cl : Addr} {oe : Obj} (C : ExcC X.K Cl) (hp : (a, oe) ∈ X.pn) (hz : Zc (.ref Cl) none oe) (hf : ∃ vs, oe.data = .fields vs) : CallR X (.builtin "isinstance") (rIsE X.K Cl a) := by
  intro pins s σ H xs us Q I r h
  obtain ⟨c, cv, b, rfl, hcv, e, q⟩ := h
  obtain ⟨u1, u2, rfl, ra, rt⟩ := vals2 r
  cases ra
  cases hcv _ rt
  obtain ⟨hget, _⟩ := I.pin (a, oe) (List.mem_append_left _ hp)
  obtain ⟨vs, hv⟩ := hf
  have J : PySem.W.InstAt s.heap a oe Cl none := by
    obtain ⟨oc, od, oda, osl⟩ := oe
    obtain ⟨h1, h2⟩ := hz
    dsimp only at h1 h2 hv
    subst h1 h2 hv
    exact ⟨hget, rfl, rfl, trivial⟩
  exact PySem.W.kia_one (PySem.W.handS_kitx_exc C.hg C.hk C.hs C.hd C.ha C.hn C.ht C.hm) I.kIn J e (fun z => nomatch z) fun tk => ⟨.bl b, H, I.kept (t' := tk) fun _ _ z => z, rfl, q⟩
end
/-! ### a def called there: its promise knows the error -/
structure FnE (P : Program) (w : World) (K : PySem.W.Frag) (mg : Str → Option Value) (base : Heap) (k : Nat) (f : Addr) (fd : FuncData) (ps : List Str) (sp : Addr × Obj → List V → Hp → VK → Prop) : Prop where
  len : ∀ p vs H Q, sp p vs H Q → vs.length = ps.length
  run : ∀ (A : Around) (outer : List Env) (s : Shared) (H : Hp) (us : List Value) (vs : List V) (Q : VK) (p : Addr × Obj), RoomH k A → Hot1 A p → PinOk outer H s p → Env0 P w K mg base A outer s H → BindsTo s fd ⟨us, []⟩ (ps.zip us) → Vals vs us → sp p vs H Q →
    codeAny (model P w) A (.call (.ref f) ⟨us, []⟩) (fun r s' => match r with | .ok (.ret u) => CE outer P w H s Q u s' | _ => False) s
theorem fnE_of {P : Program} {w : World} {K : PySem.W.Frag} {mg : Str → Option Value} {base : Heap} {k : Nat} {x qual : Str} {st : Stmt} {f : Addr} {fd : FuncData} {N ps : List Str} {sp : Addr × Obj → List V → Hp → VK → Prop} (F : Fun K x qual st f fd) (S : FnScope N ps (defScope st)) (len : ∀ p vs H Q, sp p vs H Q → vs.length = ps.length)
    (hb : ∀ (cdv : Value) (A : Around) (outer : List Env) (s : Shared) (H : Hp) (vs : List V) (Q : VK) (p : Addr × Obj), Hot1 A p → RoomH k (A.deeper (envOfC qual (defScope st) s.heap.objs.size f cdv)) → sp p vs H Q →
      ∃ t, PSs (cxH CX0 P w K mg base N qual (defScope st) f cdv A outer s H E0 p).nox (defBody st) t ∧ t { nx := fun _ H' => Q .non H', rt := Q } (L2.start N vs) H) : FnE P w K mg base (k + 1) f fd ps sp := by
  obtain ⟨oc, od, kV, doc, pm, an, cdv, ct, osl, rfl, lk, hcd⟩ := F.ex
  refine ⟨len, fun A outer s H us vs Q p hr hot hpin e0 bd r hsp => ?_⟩
  have hl := len _ _ _ _ hsp
  have KX : K.In s.heap := e0.mod.kin.keeps fun b o e => (e0.bs b o e).1
  have lim : s.heap.NoLimit := e0.mod.nolimit.keeps fun b o e => (e0.bs b o e).1
  have knd : ∀ y ∈ ps.zip us, (defScope st).names.lookup y.1 = some .local ∨ ((defScope st).names.lookup y.1 = some .cell ∧ ((cellsFrom (s.heap.objs.size + 1) (defScope st).names []).lookup y.1).isSome = true) := fun y hy =>
    (S.par y.1 (List.of_mem_zip hy).1).elim .inl fun q => .inr ⟨q, PySem.W.cellsFrom_some _ _ _ (.inl q)⟩
  refine codeAny_call_function hr.depth (KX _ _ lk) rfl S.co S.gen rfl (PySem.W.codeRec_of KX hcd) (bd _ _ _ _ ?_)
  refine wpAny_newFunctionEnv_cells S.kind knd fun env he s1 xx => ?_
  subst he
  refine ⟨lim.keeps xx.toInCall.keep, codeAny_func ?_⟩
  obtain ⟨t, ht, hq⟩ := hb cdv A outer s H vs Q p hot (hr.deeper _) hsp
  have I : Inv (cxH CX0 P w K mg base N qual (defScope st) f cdv A outer s H E0 p) [] (L2.start N vs) H s1 := inv_startH S hpin e0 hl r xx
  refine wpAny_mono (ht.run [] s1 (L2.start N vs) H _ (I.wish _) hq) (fun fl s' hs => ?_) fun e s' hs => hs.elim
  cases fl with
  | ret u => obtain ⟨v, σ', H', J, rv, q⟩ := hs; exact ⟨v, H', J.os, J.bare, J.base, J.hok, rv, q⟩
  | next => obtain ⟨σ', H', J, q⟩ := hs; exact ⟨.non, H', J.os, J.bare, J.base, J.hok, rfl, q⟩
  | brk => obtain ⟨_, _, _, q⟩ := hs; exact q.elim
  | cont => obtain ⟨_, _, _, q⟩ := hs; exact q.elim
section
variable {X : Cx} {k : Nat} {f : Addr} {fd : FuncData} {ps : List Str} {sp : Addr × Obj → List V → Hp → VK → Prop} {x : Str} {q pos : Pos} {e : Expr} {t : TE} {p : Addr × Obj}
theorem pe_callE (F : FnE X.prog X.w X.K X.mg X.base k f fd ps sp) (hr : RoomH k X.A) (hot : Hot1 X.A p) (hp : p ∈ X.pn) (hg : Gl X x) (hm : X.mg x = some (.ref f)) (hk : PySem.W.keepIn X.K (.ref f) = true) (hb : Binds X.K fd ps []) (ha : PE X e t)
    (hdb : (x == ("__debug__" : Str)) = false := by decide) (he : starEach (e :: []) X.env = (false, eval e X.env) :: starEach [] X.env := by rfl) :
    PE X (.Call (.Name x q) [e] [] pos) (fun σ H Q => t σ H fun v H1 => sp p [v] H1 Q) := by
  refine ⟨fun pins s σ H Q I h => ?_⟩
  refine wpAny_Call_Name_kw (ld_glob I hg hm ?_ hdb)
  have h2 : tCons t tNil σ H fun vs H1 => sp p vs H1 Q := h
  refine PySem.W.callWith_K (h₀ := X.base) I.ok.mod.kin hk (thn ((pa_cons ha pa_nil he).run pos pins s σ H _ I h2) fun us s1 ⟨vs, H1, I1, r, qq⟩ => ⟨I1.kIn, ?_⟩) he rfl
  have hl : us.length = ps.length := by rw [← r.length]; exact F.len _ _ _ _ qq
  have bb := hb s1 us I1.kIn (by rw [List.append_nil]; exact hl)
  rw [List.append_nil] at bb
  have P1 := I1.pin p (List.mem_append_left _ hp)
  have pin : PinOk X.stack H1 s1 p := ⟨P1.1, P1.2.1, fun hm => (List.mem_cons.mp (I1.stkSub p.1 hm)).elim P1.2.2.1 P1.2.2.2.1, P1.2.2.2.2⟩
  refine wpAny_call (codeAny_mono (F.run X.A X.stack s1 H1 us vs Q p hr hot pin I1.env0 bb r qq) fun r s' hq => ?_)
  cases r with
  | error e => exact hq.elim
  | ok fl =>
    cases fl with
    | ret u => exact I1.after hq
    | next => exact hq.elim
    | brk => exact hq.elim
    | cont => exact hq.elim
end

/-! ### told(lambda: e) -/
/-- the context of the lambda's body -/
def lamN (X : Cx) (A : Around) (outer : List Env) (s : Shared) (H : Hp) (E : XK) (scope : Scope) (f c' : Addr) : Cx :=
  (LamX.lamCx X A outer s H E scope f c').wish fun e s' => wpAny (model X.prog X.w) (A.deeper (LamX.lamEnv X scope s.heap.objs.size f c')) (leaving (LamX.lamEnv X scope s.heap.objs.size f c') e) (fun _ s'' => L2N.CX X.prog X.w outer H s E e s'') (fun e' s'' => L2N.CX X.prog X.w outer H s E e' s'') s'
theorem lamN_takes {X : Cx} {A : Around} {outer : List Env} {s : Shared} {H : Hp} {E : XK} {scope : Scope} {f c' : Addr} : L2N.Takes (lamN X A outer s H E scope f c') (wx E) := L2N.takes_of rfl rfl rfl rfl
section
variable {X : Cx} {pins : List (Addr × Obj)} {σ : L2.St} {H : Hp} {s : Shared}
/-- the def that got the lambda -/
abbrev cxT (X : Cx) (Ng : List Str) (qg : Str) (sg : Scope) (gf : Addr) (cdg : Value) (s : Shared) (H : Hp) : Cx := cxOf CX0 X.prog X.w X.K X.mg X.base Ng qg sg gf cdg X.A X.stack s H E0
theorem act_N {Ng : List Str} {qg : Str} {sg : Scope} {gf f c' : Addr} {cdg pm ctv : Value} {params : Arguments} {body : Expr} {scope : Scope} {k : Nat} {a : Str} {pn : List (Addr × Obj)} {xe : Value → Shared → Prop} {W : WX} {E : XK} {tb : TE} {p1 p2 : Pos}
    (I : Inv X pins σ H s) (L : LamX.LamS X.env.scope scope) (hf : s.heap.get? f = some (PySem.W.kla_obj "<lambda>" (X.env.qual ++ "<lambda>") params body scope (cloFrom X.env.cells scope.names []) pm c' ctv)) (hfn : H f = none) (hfr : f ∉ frs X.stack)
    (hbind : bindArgs (PySem.W.kla_fn "<lambda>" (X.env.qual ++ "<lambda>") params body scope (cloFrom X.env.cells scope.names []) pm (.ref c') ctv) ⟨[], []⟩ = pure [])
    (tk : L2N.Takes ((cxT X Ng qg sg gf cdg s H).tr pn xe) W) (hW : ∀ cls d σ' H', E cls d H' → W cls d σ' H') (hr : Room (k + 1) (X.A.deeper (envOfC qg sg s.heap.objs.size gf cdg)))
    (hbody : ∀ (A : Around) (outer : List Env) (s : Shared) (H : Hp), Room k (A.deeper (LamX.lamEnv X scope s.heap.objs.size f c')) → PE (lamN X A outer s H E scope f c') body tb)
    (hN : Ng[0]? = some a) (hv : Vis sg a) (hd : (a == ("__debug__" : Str)) = false) (hcd : (a == ("__classdict__" : Str)) = false) :
    PE ((cxT X Ng qg sg gf cdg s H).tr pn xe) (.Call (.Name a p1) [] [] p2) (fun τ HZ Q => τ[0]? = some (some (.ref f)) ∧ HZ c' = some (LamX.CodeO c' (X.env.qual ++ "<lambda>")) ∧ tb σ HZ Q) := by
  refine ⟨fun pz sz τ HZ Q IZ h => ?_⟩
  obtain ⟨h0, h1, h2⟩ := h
  refine wpAny_Call_Name_kw (thn ((pe_var (pos := p1) (i := 0) hN hv hd hcd).run pz sz τ HZ (fun v H1 => v = .ref f ∧ H1 = HZ) IZ ⟨.ref f, h0, rfl, rfl⟩) fun u s1 ⟨v, H1, I1, r1, ev, eH⟩ => ?_)
  subst ev
  subst eH
  obtain rfl : u = Value.ref f := r1
  have of1 : s1.heap.get? f = some (PySem.W.kla_obj "<lambda>" (X.env.qual ++ "<lambda>") params body scope (cloFrom X.env.cells scope.names []) pm c' ctv) := I1.base.keep f _ hf hfn hfr (by intro z; cases z)
  refine PySem.W.callWith_F0 ⟨_, _, _, _, of1⟩ ?_
  have un : Un (frs X.stack) [] H H1 s.heap s1.heap := I1.base
  obtain ⟨⟨oc, vs, t, hoc, hdc, hvc⟩, _, _⟩ := I1.hok c' _ h1
  have rc : codeAny (model X.prog X.w) (X.A.deeper (envOfC qg sg s.heap.objs.size gf cdg)) (.call (.ref f) ⟨[], []⟩) (CR (L2N.CX X.prog X.w) (envOfC qg sg s.heap.objs.size gf cdg :: X.stack) X.prog X.w H1 s1 Q E) s1 := by
    refine PySem.W.kla_callFunE hr.depth of1 rfl L.co L.gen rfl ⟨c', oc, vs, t, rfl, hoc, hdc, hvc⟩ ?_
    rw [hbind]
    refine wpAny_pure (wpAny_newFunctionEnv (fun y hy => (L.own y hy).2) (fun y hy => by cases hy) (fun h₁ hns hsb => ⟨I1.nolimit.fresh _ hsb, ?_⟩) L.kind)
    show codeAny _ _ (.expr body (LamX.lamEnv X scope s1.heap.objs.size f c')) _ _
    have kp : ∀ b o, s1.heap.get? b = some o → h₁.get? b = some o := fun b o e => hsb.extBut b o (Nat.ne_of_lt (Heap.lt_size e)) (Heap.get?_push_of_some _ e)
    have J0 : Inv (LamX.lamCx X (X.A.deeper (envOfC qg sg s.heap.objs.size gf cdg)) (envOfC qg sg s.heap.objs.size gf cdg :: X.stack) s1 H1 E scope f c') [] σ H1 { s1 with heap := h₁, toks := s1.toks + ([] : List (Str × Value)).length } := LamX.lam_start2 I L I1.env0 hr.hd un hns kp
    have J : Inv (lamN X (X.A.deeper (envOfC qg sg s.heap.objs.size gf cdg)) (envOfC qg sg s.heap.objs.size gf cdg :: X.stack) s1 H1 E scope f c') [] σ H1 { s1 with heap := h₁, toks := s1.toks + ([] : List (Str × Value)).length } := J0.wish _
    refine PySem.W.kla_codeExpr (wpAny_mono ((hbody _ _ s1 H1 (hr.deeper _)).run [] _ _ H1 Q J h2) (fun v s' hq => ?_) fun e s' hq => hq)
    obtain ⟨w', H', J', rv, q⟩ := hq
    exact ⟨w', H', J'.os, J'.bare, J'.base, J'.hok, rv, q⟩
  have px : Passes (L2N.CX X.prog X.w) ((cxT X Ng qg sg gf cdg s H).tr pn xe) E := L2N.passes_call tk hW
  refine wpAny_call (codeAny_mono rc fun r s' hq => ?_)
  cases r with
  | error e => exact px pz τ H1 s1 e s' I1 hq
  | ok fl =>
    cases fl with
    | ret u => exact I1.after hq
    | next => exact hq.elim
    | brk => exact hq.elim
    | cont => exact hq.elim
end
/-- told's body: try: return a() / except e as n: return wn(n) -/
def toldB (a e n wn : Str) (p1 p2 p3 p4 p5 p6 p7 p8 p9 p10 : Pos) : List Stmt :=
  [.Try [.Return (some (.Call (.Name a p1) [] [] p2)) p3] [.ExceptHandler (some (.Name e p4)) (some n) [.Return (some (.Call (.Name wn p5) [.Name n p6] [] p7)) p8] p9] [] [] p10]
/-- what the word of an error is -/
def spWord (Γ : Ctx) (nm : Nat → Option D) : Addr × Obj → List V → Hp → VK → Prop := fun p vs H Q => ∃ g k d, g.H = H ∧ Sim Γ g ∧ vs = [.ref p.1] ∧ Zc (.ref (Γ.xA k)) none p.2 ∧ (∃ fs, p.2.data = .fields fs) ∧ nm k = some d ∧ Fin1 Γ g d Q
/-- all that is known of told -/
structure ToldOk (P : Program) (w : World) (K : PySem.W.Frag) (mg : Str → Option Value) (base : Heap) (Γ : Ctx) (nm : Nat → Option D) (gf : Addr) (sg : Scope) (cdg : Value) (bg : List Stmt) : Prop where
  gm : mg "_law_told" = some (.ref gf)
  kp : PySem.W.keepIn K (.ref gf) = true
  lk : ∃ oc od pg dV kV doc pm an ct osl, K.lookup gf = some ⟨oc, od, .func (PySem.W.fnOf "_law_told" "_law_told" pg bg sg dV kV doc pm an cdg ct), osl⟩ ∧ L2.Binds K (PySem.W.fnOf "_law_told" "_law_told" pg bg sg dV kV doc pm an cdg ct) ["deed"] []
  cd : PySem.W.codeIn K cdg "_law_told" = true
  sc : FnScope ["deed", "e"] ["deed"] sg
  vd : sg.names.lookup ("deed" : Str) = some NameKind.local
  ve : sg.names.lookup ("e" : Str) = some NameKind.local
  vg : sg.names.lookup ("GroveError" : Str) = some NameKind.globalImplicit
  vw : sg.names.lookup ("_law_word" : Str) = some NameKind.globalImplicit
  bd : ∃ p1 p2 p3 p4 p5 p6 p7 p8 p9 p10, bg = toldB "deed" "GroveError" "e" "_law_word" p1 p2 p3 p4 p5 p6 p7 p8 p9 p10
  ge : ∃ CG, mg "GroveError" = some (.ref CG) ∧ ∀ k d, nm k = some d → PySem.W.exmOne K (.ref (Γ.xA k)) (.ref CG) = some true
  wd : ∃ fW fdW, mg "_law_word" = some (.ref fW) ∧ PySem.W.keepIn K (.ref fW) = true ∧ FnE P w K mg base 1 fW fdW ["e"] (spWord Γ nm) ∧ L2.Binds K fdW ["e"] []
theorem Sim.ext {Γ : Ctx} {g : Wd} {H1 : Hp} (s : Sim Γ g) (e : LamX.ExtN g.H H1) (t : LamX.Tabs Γ.T H1) (ok : ∃ P w h, HOk P w H1 h) : Step g { g with H := H1 } ∧ Sim Γ { g with H := H1 } := by
  have st : Step g { g with H := H1 } := ⟨rfl, ⟨[], by simp⟩, fun b o h n p => ⟨e b o h p, n⟩, fun b xs h => e b _ h (fun _ z => by cases z)⟩
  refine ⟨st, s.len, s.nd, fun i a o h1 h2 => ?_, fun a ha => ?_, fun a o h => ?_, t, fun c q h hm => ?_⟩
  · obtain ⟨u, eu, nt, _⟩ := s.there h1
    exact (s.obj i a o h1 h2).step st ((e a u eu nt).trans eu.symm)
  · obtain ⟨h1, o, h2, h3⟩ := s.res a ha
    exact ⟨h1, o, e a o h2 h3, h3⟩
  · obtain ⟨P, w, h', hk⟩ := ok
    exact small_of (hk a o h)
  · obtain ⟨u, eu, nt, _⟩ := s.mem_there hm
    have h1 : H1 c = some u := e c u eu nt
    have h2 : H1 c = some (LamX.CodeO c q) := h
    rw [h1] at h2
    rw [Option.some.inj h2] at eu
    exact s.code c q eu hm
section
variable {X : Cx} {Γ : Ctx} {W : WX} {nm : Nat → Option D} {d : DE} {gf c P : Addr} {sg : Scope} {cdg : Value} {bg : List Stmt} {params : Arguments} {body : Expr} {scope : Scope} {k : Nat} {p lpos pos : Pos}
theorem de_told (TO : ToldOk X.prog X.w X.K X.mg X.base Γ nm gf sg cdg bg) (hg : Gl X "_law_told") (TB : LamX.TabB X.base X.mg c P) (hcode : X.env.code = .ref c) (hmT : (P, X.env.qual ++ "<lambda>") ∈ Γ.T) (hu : ∀ p ∈ Γ.T, p.1 = P → p.2 = X.env.qual ++ "<lambda>")
    (hr : Room (k + 2) X.A) (L : LamX.LamS X.env.scope scope) (hdef : defaultsOf params X.env = ([], []))
    (hbind : ∀ (q : Str) (cl : List (Str × Addr)) (pm cv ctv : Value), bindArgs (PySem.W.kla_fn "<lambda>" q params body scope cl pm cv ctv) ⟨[], []⟩ = pure [])
    (hbody : ∀ (E : XK) (A : Around) (outer : List Env) (s : Shared) (H : Hp) (f c' : Addr), Room k (A.deeper (LamX.lamEnv X scope s.heap.objs.size f c')) → PE (lamN X A outer s H E scope f c') body (tD Γ (wx E) d)) :
    PE X (.Call (.Name "_law_told" p) [.Lambda params body scope lpos] [] pos) (tD Γ W (dTold nm d)) := by
  refine ⟨fun pins s σ H Q I h => ?_⟩
  obtain ⟨g, Ls, rfl, sim, rl, h⟩ := h
  obtain ⟨oc, od, pg, dV, kV, doc, pmg, an, ct, osl, lk, bnd⟩ := TO.lk
  obtain ⟨q1, q2, q3, q4, q5, q6, q7, q8, q9, q10, rfl⟩ := TO.bd
  obtain ⟨CG, mCG, hCG⟩ := TO.ge
  obtain ⟨fW, fdW, mW, kW, FW, bW⟩ := TO.wd
  refine wpAny_Call_Name_kw (ld_glob I hg TO.gm ?_ (by decide))
  refine PySem.W.callWith_K (h₀ := X.base) I.ok.mod.kin TO.kp ?_ (by rfl) (by rfl)
  show wpAny _ _ (spliced ((false, eval (.Lambda params body scope lpos) X.env) :: backTo pos (starEach [] X.env))) _ _ s
  refine Calls.spliced_cons (LamX.lam_make2 I TB hcode hmT hu sim.tab hdef (L.has I.ok) fun f c' pm' ctv H1 s' I1 eN T1 hf hfn hfr hco => ?_)
  refine Calls.spliced_nil ⟨I1.kIn, ?_⟩
  obtain ⟨st1, sim1⟩ := sim.ext eN T1 ⟨_, _, _, I1.hok⟩
  have rl1 := rl.step st1
  have rc : codeAny (model X.prog X.w) X.A (.call (.ref gf) ⟨[.ref f], []⟩) (CR CX0 X.stack X.prog X.w H1 s' Q E0) s' := by
    refine LamX.run_ofS (k := k + 1) (N := ["deed", "e"]) (ps := ["deed"]) (us := [.ref f]) (vs := [.ref f]) lk TO.cd TO.sc hr I1.env0 (bnd s' [.ref f] I1.kIn rfl) (.cons rfl .nil) rfl fun hr' => ?_
    refine ⟨_, PSs.nox (pss_one (L2N.ps_try_as (X := (cxT X ["deed", "e"] "_law_told" sg gf cdg s' H1).nox) (c := .ref CG) (i := 1) (x := "GroveError") (n := "e") (Wout := fun _ _ _ _ => False)
      (tb := fun W D τ HZ => ∃ E : XK, (∀ cls d σ' H', E cls d H' → W cls d σ' H') ∧ τ[0]? = some (some (.ref f)) ∧ HZ c' = some (LamX.CodeO c' (X.env.qual ++ "<lambda>")) ∧ tD Γ (wx E) d σ HZ D.rt)
      (ts := fun a cls dd D τ HZ => ∃ (j : Nat) (nd : G.D) (g' : Wd) (τ0 : L2.St), cls = .ref (Γ.xA j) ∧ dd = none ∧ nm j = some nd ∧ g'.H = HZ ∧ Sim Γ g' ∧ τ = τ0.set 1 (some (.ref a)) ∧ Fin1 Γ g' nd D.rt)
      rfl rfl (show (["deed", "e"] : List Str).Nodup by decide) rfl TO.ve ⟨TO.vg, by decide, .inl mCG⟩ takesN (fun W pn xe tk _ => ?_) (fun a oe cls dd pn hz hfl => ?_))), ?_⟩
    · refine ⟨fun pz sz τ HZ D IZ hw => ?_⟩
      obtain ⟨E, hW, h1, h2, h3⟩ := hw
      have hp := act_N (p1 := q1) (p2 := q2) (a := "deed") I1 L hf hfn hfr (hbind _ _ _ _ _) tk hW hr' (fun A outer s H hr2 => hbody E A outer s H f c' hr2) rfl (.inl TO.vd) (by decide) (by decide)
      exact (pss_one (ps_ret (pos := q3) hp)).run pz sz τ HZ D IZ ⟨h1, h2, h3⟩
    · refine ⟨fun pz sz τ HZ D IZ hw => ?_⟩
      obtain ⟨j, nd, g', τ0, rfl, rfl, hnm, rfl, sm, hτ, fin⟩ := hw
      have hl : τ.length = 2 := IZ.len
      have he : τ[1]? = some (some (.ref a)) := by
        rw [hτ, List.length_set] at hl
        rw [hτ, List.getElem?_set_self (by omega)]
      obtain ⟨vs, hvs⟩ := hfl
      have hot : Hot1 ((cxT X ["deed", "e"] "_law_told" sg gf cdg s' H1).nox.suite a ((a, oe) :: pn)).A (a, oe) := ⟨rfl, vs, hvs, hz.2.2 vs hvs⟩
      have rm : RoomH 1 ((cxT X ["deed", "e"] "_law_told" sg gf cdg s' H1).nox.suite a ((a, oe) :: pn)).A := ⟨(hr'.mono (j := 1) (by omega)).dp, (hr'.mono (j := 1) (by omega)).un⟩
      have hp := pe_callE (X := (cxT X ["deed", "e"] "_law_told" sg gf cdg s' H1).nox.suite a ((a, oe) :: pn)) (q := q5) (pos := q7) FW rm hot List.mem_cons_self (by exact TO.vw) mW kW bW (pe_var (pos := q6) (i := 1) rfl (.inl TO.ve))
      exact (pss_one (ps_ret (pos := q8) hp)).run pz sz τ g'.H D IZ ⟨.ref a, he, g', j, nd, rfl, sm, rfl, hz.zc, ⟨vs, hvs⟩, hnm, fin⟩
    · refine ⟨fun cls dd H' => ∃ j nd g', cls = .ref (Γ.xA j) ∧ dd = none ∧ nm j = some nd ∧ g'.H = H' ∧ Sim Γ g' ∧ Fin1 Γ g' nd Q, fun cls dd σ' H' ⟨j, nd, g', e1, e2, e3, e4, e5, e6⟩ => ?_, rfl, hco, { g with H := H1 }, Ls, rfl, sim1, rl1, ?_⟩
      · exact ⟨true, by rw [e1]; exact hCG j nd e3, fun _ a _ => ⟨j, nd, g', σ', e1, e2, e3, e4, e5, rfl, e6⟩, fun z => by cases z⟩
      · unfold dTold at h
        cases q : d Ls g.S with
        | ok v S1 =>
          rw [q] at h
          exact fun g' b e st sm r => h g' b e (st1.trans st) sm r
        | exc c S1 =>
          rw [q] at h
          cases qn : nm c with
          | none => simp only [qn] at h; exact h.elim
          | some nd =>
            simp only [qn] at h
            intro g' e st sm
            refine ⟨c, nd, g', rfl, rfl, qn, rfl, sm, fun g2 b e2 st2 sm2 r2 => h g2 b (e2.trans e) ((st1.trans st).trans st2) sm2 r2⟩
        | bad => rw [q] at h; exact h.elim
  refine wpAny_call (codeAny_mono rc fun r s2 hq => ?_)
  cases r with
  | error e => exact (show False from hq).elim
  | ok fl =>
    cases fl with
    | ret u => exact I1.after hq
    | next => exact False.elim hq
    | brk => exact False.elim hq
    | cont => exact False.elim hq
end
end G

namespace G
open PySem L2
/-! # GR9: dicts with keys ints and texts -/
def keyOf : D → Option Key
  | .int i => some (.inl i)
  | .str s => some (.inr (sOf s))
  | _ => none
theorem sOf_list (x : Str) : sOf x.cps.toList = x := by obtain ⟨c⟩ := x; simp [sOf]
theorem sOf_cps (s : List Nat) : (sOf s).cps.toList = s := by simp [sOf]
theorem keyOf_keyD (k : Key) : keyOf (keyD k) = some k := by
  cases k with
  | inl i => rfl
  | inr x => simp [keyD, keyOf, sOf_list]
theorem isKey_of {d : D} (h : isKey d = true) : ∃ k, keyOf d = some k ∧ keyD k = d := by
  cases d with
  | int i => exact ⟨.inl i, rfl, rfl⟩
  | str s => exact ⟨.inr (sOf s), rfl, by simp [keyD, sOf_cps]⟩
  | _ => cases h
theorem same_keyD (a b : Key) : D.same (keyD a) (keyD b) = decide (a = b) := by
  cases a with
  | inl i =>
    cases b with
    | inl j => simp [keyD, D.same]; rfl
    | inr y => simp [keyD, D.same]
  | inr x =>
    cases b with
    | inl j => simp [keyD, D.same]
    | inr y =>
      simp only [keyD, D.same]
      by_cases h : x = y
      · subst h; simp
      · have : ¬ x.cps.toList = y.cps.toList := fun z => h (by rw [← sOf_list x, ← sOf_list y, z])
        have h2 : ¬ x.cps = y.cps := fun z => this (by rw [z])
        simp [h, h2]
section
variable {X : Cx} {Γ : Ctx} {W : WX} {g : Wd} {a b e o i : Expr} {es : List Expr} {da db : DE} {pos : Pos}
theorem rep_key {d : D} {v : V} {k : Key} (r : Rep Γ g d v) (h : keyD k = d) : v = kV k := by
  subst h
  cases k with
  | inl i => cases r; rfl
  | inr x => cases r; simp [kV, sOf_list]
theorem lookD_rep {k : Key} : ∀ {xs : List (D × D)} {kvs : List (Key × V)}, RepK Γ g xs kvs → (∀ d, lookD (keyD k) xs = some d → ∃ v, valV kvs k = some v ∧ Rep Γ g d v) ∧ (lookD (keyD k) xs = none → valV kvs k = none)
  | [], _, r => by cases r; exact ⟨(fun d h => by cases h), fun _ => rfl⟩
  | (k0, d0) :: xs, _, r => by
    cases r with
    | @cons _ _ _ key v vs e h1 h2 h3 =>
      subst e
      have ih := lookD_rep (k := k) h3
      simp only [lookD, same_keyD]
      by_cases hk : key = k
      · subst hk
        simp only [decide_true, if_true]
        refine ⟨fun d h => ?_, fun h => by cases h⟩
        cases h
        exact ⟨v, valV_pos rfl, h2⟩
      · simp only [hk, decide_false, Bool.false_eq_true, if_false]
        rw [valV_neg (by exact hk)]
        exact ih
theorem de_dget (hu : X.A.units + 1 < cLine) (ha : PE X o (tD Γ W da)) (hb : PE X i (tD Γ W db)) (hs : NoSl i) : PE X (.Subscript o i pos) (tD Γ W (dOp2 vIxD da db)) :=
  PE.of (pe_dget hu ha hb hs) fun g L σ Q sim rl h => by
    refine tD.mono (run1 sim rl h) fun x H1 ⟨g1, dx, e1, s1, st1, rl1, r1, w1⟩ => ?_
    subst e1
    refine tD.mono (run1 s1 rl1 w1) fun y H2 ⟨g2, dy, e2, s2, st2, rl2, r2, w2⟩ => ?_
    subst e2
    obtain ⟨v, ev, w⟩ := WP.opt w2
    unfold vIxD at ev
    split at ev
    · rename_i kvs ek
      split at ev
      · rename_i hk
        obtain ⟨k, _, kd⟩ := isKey_of hk
        obtain ⟨a, vs, rfl, rd, rk⟩ := dctOf_rep s2 (Rep.step st2 _ r1) ek
        obtain ⟨u, e3, r3⟩ := (lookD_rep (k := k) rk).1 v (by rw [kd]; exact ev)
        exact ⟨a, u, rfl, .inl ⟨vs, k, rd, rep_key r2 kd, e3.symm⟩, w.here s2 r3⟩
      · cases ev
    · cases ev
/-! ### a display of written pairs -/
structure CP (X : Cx) (Γ : Ctx) (pos : Pos) (keys : List (Option Expr)) (vals : List Expr) (xs : List (D × D)) (kvs : List (Key × V)) : Prop where
  pp : PPs X pos keys vals (kvs.map fun p => (tC (kV p.1), tC p.2))
  rk : ∀ g, RepK Γ g xs kvs
theorem cp_nil : CP X Γ pos [] [] [] [] := ⟨pps_nil, fun _ => .nil⟩
theorem cp_str {ks : List (Option Expr)} {vs : List Expr} {xs : List (D × D)} {kvs : List (Key × V)} {x y : Str} {s t : List Nat} {j1 j2 p1 p2} (hs : x = sOf s) (ho : okS s = true) (ht : y = sOf t) (hp : okS t = true) (h : CP X Γ pos ks vs xs kvs) :
    CP X Γ pos (some (.Constant (.str x) j1 p1) :: ks) (.Constant (.str y) j2 p2 :: vs) ((.str s, .str t) :: xs) ((.inr (sOf s), .str (sOf t)) :: kvs) := by
  subst hs; subst ht
  exact ⟨pps_cons pe_str pe_str h.pp, fun g => .cons (by simp [keyD, sOf_cps]) (.str s ho) (.str t hp) (h.rk g)⟩
theorem cp_int {ks : List (Option Expr)} {vs : List Expr} {xs : List (D × D)} {kvs : List (Key × V)} {x : Str} {n : Int} {s : List Nat} {j1 j2 p1 p2} (hs : x = sOf s) (ho : okS s = true) (h : CP X Γ pos ks vs xs kvs) :
    CP X Γ pos (some (.Constant (.str x) j1 p1) :: ks) (.Constant (.int n) j2 p2 :: vs) ((.str s, .int n) :: xs) ((.inr (sOf s), .int n) :: kvs) := by
  subst hs
  exact ⟨pps_cons pe_str pe_int h.pp, fun g => .cons (by simp [keyD, sOf_cps]) (.str s ho) (.int n) (h.rk g)⟩
theorem pairs_c {σ : St} {H : Hp} : ∀ {kvs : List (Key × V)} {Q : List (V × V) → Hp → Prop}, Q (kvs.map fun p => (kV p.1, p.2)) H → tPairs (kvs.map fun p => (tC (kV p.1), tC p.2)) σ H Q
  | [], Q, h => h
  | p :: kvs, Q, h => pairs_c (kvs := kvs) (Q := fun ps H3 => Q ((kV p.1, p.2) :: ps) H3) h
theorem de_dispC {keys : List (Option Expr)} {vals : List Expr} {xs : List (D × D)} {kvs : List (Key × V)} (h : CP X Γ pos keys vals xs kvs) (hm : mergeK [] kvs = kvs) (hz : kvs.length ≤ 15) (hall : keys.all (·.isSome) = true := by rfl) (hl : keys.length = vals.length := by rfl) (h0 : keys ≠ [] := by intro z; cases z) (h15 : keys.length ≤ 15 := by decide) :
    PE X (.Dict keys vals pos) (tD Γ W (dC (.dct xs))) :=
  PE.of (pe_disp h.pp hall hl h0 h15) fun g L σ Q sim rl w => by
    intro p hp
    refine pairs_c ⟨upd_same, kvs, rfl, hz, ?_⟩
    rw [hm, upd_upd]
    have s1 : Sim Γ (g.put p (.dK kvs)) := sim.fresh hp (by show kvs.length ≤ sizeLine; rw [sizeLine_eq]; omega) (fun c q z => by cases z)
    exact w (g.put p (.dK kvs)) (.ref p) rfl (Step.fresh hp) s1 (.dct ⟨upd_same, sim.notLive hp, sim.notR hp⟩ (h.rk _))
end
end G

namespace G
open PySem L2
/-! # GR10: rules that look at the value -/
section
variable {X : Cx} {Γ : Ctx} {W : WX} {tg a b e o i : Expr} {da db : DE} {pos : Pos}
theorem OpR.alt {op : Value → Value → Sem Value} {f f1 f2 : Hs → D → D → Option D} (h1 : OpR X op (rV2 Γ f1)) (h2 : OpR X op (rV2 Γ f2)) (h : ∀ S x y z, f S x y = some z → f1 S x y = some z ∨ f2 S x y = some z) : OpR X op (rV2 Γ f) := by
  intro pins s σ H x y v u Q I rx ry ⟨g, dx, dy, z, e, sim, r1, r2, hf, q⟩
  rcases h _ _ _ _ hf with k | k
  · exact h1 pins s σ H x y v u Q I rx ry ⟨g, dx, dy, z, e, sim, r1, r2, k, q⟩
  · exact h2 pins s σ H x y v u Q I rx ry ⟨g, dx, dy, z, e, sim, r1, r2, k, q⟩
theorem IxR.alt {f f1 f2 : Hs → D → D → Option D} (h1 : IxR X (rV2 Γ f1)) (h2 : IxR X (rV2 Γ f2)) (h : ∀ S x y z, f S x y = some z → f1 S x y = some z ∨ f2 S x y = some z) : IxR X (rV2 Γ f) := by
  intro value slice pins s σ H x y v u Q I rx ry ⟨g, dx, dy, z, e, sim, r1, r2, hf, q⟩ hs
  rcases h _ _ _ _ hf with k | k
  · exact h1 value slice pins s σ H x y v u Q I rx ry ⟨g, dx, dy, z, e, sim, r1, r2, k, q⟩ hs
  · exact h2 value slice pins s σ H x y v u Q I rx ry ⟨g, dx, dy, z, e, sim, r1, r2, k, q⟩ hs
theorem SlR.alt {f f1 f2 : Option Int → Option Int → Hs → D → Option D} (h1 : SlR X (rSlV Γ f1)) (h2 : SlR X (rSlV Γ f2)) (h : ∀ lo hi S x z, f lo hi S x = some z → f1 lo hi S x = some z ∨ f2 lo hi S x = some z) : SlR X (rSlV Γ f) := by
  intro pins s σ H x v vl vu lo hi sl Q I rx hs pl pu ⟨g, dx, z, e, sim, r1, hf, q⟩
  rcases h _ _ _ _ _ hf with k | k
  · exact h1 pins s σ H x v vl vu lo hi sl Q I rx hs pl pu ⟨g, dx, z, e, sim, r1, k, q⟩
  · exact h2 pins s σ H x v vl vu lo hi sl Q I rx hs pl pu ⟨g, dx, z, e, sim, r1, k, q⟩
theorem PE.alt {e : Expr} {d d1 d2 : DE} (h1 : PE X e (tD Γ W d1)) (h2 : PE X e (tD Γ W d2)) (h : ∀ L S, d L S = d1 L S ∨ d L S = d2 L S) : PE X e (tD Γ W d) :=
  ⟨fun pins s σ H Q I ⟨g, L, e, sim, rl, w⟩ => by
    rcases h L g.S with k | k
    · exact h1.run pins s σ H Q I ⟨g, L, e, sim, rl, by rw [← k]; exact w⟩
    · exact h2.run pins s σ H Q I ⟨g, L, e, sim, rl, by rw [← k]; exact w⟩⟩
theorem PI.alt {d d1 d2 : DI} {iter : Expr} (h1 : PI X tg iter (tI Γ W d1)) (h2 : PI X tg iter (tI Γ W d2)) (h : ∀ L S, d L S = d1 L S ∨ d L S = d2 L S ∨ d L S = .bad) : PI X tg iter (tI Γ W d) :=
  ⟨fun pins s σ H Q I ⟨g, L, e, sim, rl, w⟩ => by
    rcases h L g.S with k | k | k
    · exact h1.run pins s σ H Q I ⟨g, L, e, sim, rl, by rw [← k]; exact w⟩
    · exact h2.run pins s σ H Q I ⟨g, L, e, sim, rl, by rw [← k]; exact w⟩
    · rw [k] at w; exact w.elim⟩
/-! ### in -/
theorem op_inDctD (hu : X.A.units + 1 < cLine) : OpR X (compareOp .In) (rV2 Γ vInDct) := by
  intro pins s σ H x y v u Q I rx ry ⟨g, dx, dy, z, e, sim, r1, r2, hf, q⟩
  subst e
  unfold vInDct at hf
  split at hf
  · rename_i kvs ek
    split at hf
    · rename_i hk
      obtain ⟨k, _, kd⟩ := isKey_of hk
      obtain ⟨a, vs, rfl, rd, rk⟩ := dctOf_rep sim r2 ek
      obtain rfl : u = Value.ref a := ry
      cases hf
      refine d_in hu I (.inl ⟨vs, k, rd, rep_key r1 kd, rfl⟩) rx fun s3 I3 => ⟨.bl (valV vs k).isSome, g.H, I3, rfl, ?_⟩
      have e : (valV vs k).isSome = (lookD dx kvs).isSome := by
        rw [← kd]
        cases q : lookD (keyD k) kvs with
        | none => rw [(lookD_rep (k := k) rk).2 q]; rfl
        | some d => obtain ⟨w, e, _⟩ := (lookD_rep (k := k) rk).1 d q; rw [e]; rfl
      rw [e]
      exact q.same sim (.bl _)
    · cases hf
  · cases hf
theorem op_notInDctD (hu : X.A.units + 1 < cLine) : OpR X (compareOp .NotIn) (rV2 Γ vNotInDct) := by
  intro pins s σ H x y v u Q I rx ry ⟨g, dx, dy, z, e, sim, r1, r2, hf, q⟩
  subst e
  unfold vNotInDct at hf
  split at hf
  · rename_i kvs ek
    split at hf
    · rename_i hk
      obtain ⟨k, _, kd⟩ := isKey_of hk
      obtain ⟨a, vs, rfl, rd, rk⟩ := dctOf_rep sim r2 ek
      obtain rfl : u = Value.ref a := ry
      cases hf
      refine d_notIn hu I (.inl ⟨vs, k, rd, rep_key r1 kd, rfl⟩) rx fun s3 I3 => ⟨.bl (!(valV vs k).isSome), g.H, I3, rfl, ?_⟩
      have e : (valV vs k).isSome = (lookD dx kvs).isSome := by
        rw [← kd]
        cases q : lookD (keyD k) kvs with
        | none => rw [(lookD_rep (k := k) rk).2 q]; rfl
        | some d => obtain ⟨w, e, _⟩ := (lookD_rep (k := k) rk).1 d q; rw [e]; rfl
      rw [e]
      exact q.same sim (.bl _)
    · cases hf
  · cases hf
theorem OpR.alt3 {op : Value → Value → Sem Value} {f f1 f2 f3 : Hs → D → D → Option D} (h1 : OpR X op (rV2 Γ f1)) (h2 : OpR X op (rV2 Γ f2)) (h3 : OpR X op (rV2 Γ f3)) (h : ∀ S x y, f S x y = f1 S x y ∨ f S x y = f2 S x y ∨ f S x y = f3 S x y) : OpR X op (rV2 Γ f) := by
  intro pins s σ H x y v u Q I rx ry ⟨g, dx, dy, z, e, sim, r1, r2, hf, q⟩
  rcases h g.S dx dy with k | k | k
  · exact h1 pins s σ H x y v u Q I rx ry ⟨g, dx, dy, z, e, sim, r1, r2, k.symm.trans hf, q⟩
  · exact h2 pins s σ H x y v u Q I rx ry ⟨g, dx, dy, z, e, sim, r1, r2, k.symm.trans hf, q⟩
  · exact h3 pins s σ H x y v u Q I rx ry ⟨g, dx, dy, z, e, sim, r1, r2, k.symm.trans hf, q⟩
theorem IxR.alt3 {f f1 f2 f3 : Hs → D → D → Option D} (h1 : IxR X (rV2 Γ f1)) (h2 : IxR X (rV2 Γ f2)) (h3 : IxR X (rV2 Γ f3)) (h : ∀ S x y, f S x y = f1 S x y ∨ f S x y = f2 S x y ∨ f S x y = f3 S x y) : IxR X (rV2 Γ f) := by
  intro value slice pins s σ H x y v u Q I rx ry ⟨g, dx, dy, z, e, sim, r1, r2, hf, q⟩ hs
  rcases h g.S dx dy with k | k | k
  · exact h1 value slice pins s σ H x y v u Q I rx ry ⟨g, dx, dy, z, e, sim, r1, r2, k.symm.trans hf, q⟩ hs
  · exact h2 value slice pins s σ H x y v u Q I rx ry ⟨g, dx, dy, z, e, sim, r1, r2, k.symm.trans hf, q⟩ hs
  · exact h3 value slice pins s σ H x y v u Q I rx ry ⟨g, dx, dy, z, e, sim, r1, r2, k.symm.trans hf, q⟩ hs
theorem SlR.alt3 {f f1 f2 f3 : Option Int → Option Int → Hs → D → Option D} (h1 : SlR X (rSlV Γ f1)) (h2 : SlR X (rSlV Γ f2)) (h3 : SlR X (rSlV Γ f3)) (h : ∀ lo hi S x, f lo hi S x = f1 lo hi S x ∨ f lo hi S x = f2 lo hi S x ∨ f lo hi S x = f3 lo hi S x) : SlR X (rSlV Γ f) := by
  intro pins s σ H x v vl vu lo hi sl Q I rx hs pl pu ⟨g, dx, z, e, sim, r1, hf, q⟩
  rcases h lo hi g.S dx with k | k | k
  · exact h1 pins s σ H x v vl vu lo hi sl Q I rx hs pl pu ⟨g, dx, z, e, sim, r1, k.symm.trans hf, q⟩
  · exact h2 pins s σ H x v vl vu lo hi sl Q I rx hs pl pu ⟨g, dx, z, e, sim, r1, k.symm.trans hf, q⟩
  · exact h3 pins s σ H x v vl vu lo hi sl Q I rx hs pl pu ⟨g, dx, z, e, sim, r1, k.symm.trans hf, q⟩
theorem op_notInStrD : OpR X (compareOp .NotIn) (rV2 Γ vNotInStr) := by
  intro pins s σ H x y v u Q I rx ry h
  obtain ⟨g, dx, dy, z, rfl, sim, r1, r2, hf, q⟩ := h
  unfold vNotInStr at hf
  split at hf
  · rename_i c z
    cases hf
    cases r1; cases r2
    exact op_notIn_sign pins s σ g.H _ _ v u Q I rx ry ⟨c, sOf z, rfl, rfl, q.same sim (.bl _)⟩
  · cases hf
theorem op_in (hx : On X Γ) (hu : X.A.units + 65 < cLine) : OpR X (compareOp .In) (rV2 Γ vIn) :=
  OpR.alt3 op_inStrD (op_inSeqD hx hu) (op_inDctD (by omega)) fun S x y => by
    unfold vIn
    split
    · exact .inl rfl
    · exact .inr (.inl rfl)
    · split
      · exact .inr (.inl rfl)
      · exact .inr (.inr rfl)
theorem op_notIn (hx : On X Γ) (hu : X.A.units + 65 < cLine) : OpR X (compareOp .NotIn) (rV2 Γ vNotIn) :=
  OpR.alt3 op_notInStrD (op_notInSeqD hx hu) (op_notInDctD (by omega)) fun S x y => by
    unfold vNotIn
    split
    · exact .inl rfl
    · exact .inr (.inl rfl)
    · split
      · exact .inr (.inl rfl)
      · exact .inr (.inr rfl)
/-! ### places -/
def vIx3 (S : Hs) (x i : D) : Option D := match x with
  | .str z => vIxS S (.str z) i
  | .tup z => vIxT S (.tup z) i
  | x => vIxL S x i
theorem ix_3 (hx : On X Γ) : IxR X (rV2 Γ vIx3) := IxR.alt3 ix_strD (ix_tupD hx) (ix_listD hx) fun S x y => by
  unfold vIx3
  split
  · exact .inl rfl
  · exact .inr (.inl rfl)
  · exact .inr (.inr rfl)
theorem de_sub (hx : On X Γ) (hu : X.A.units + 1 < cLine) (ha : PE X a (tD Γ W da)) (hb : PE X b (tD Γ W db)) (hs : PlainIx b := by exact fun _ _ => rfl) (hn : NoSl b := by exact fun _ _ => rfl) : PE X (.Subscript a b pos) (tD Γ W (dOp2 vIx da db)) :=
  PE.alt (de_ix (ix_3 hx) ha hb hs) (de_dget hu ha hb hn) fun L S => by
    unfold dOp2
    cases da L S with
    | ok x S1 =>
      simp only [Out.bind]
      cases db L S1 with
      | ok y S2 =>
        simp only
        have : vIx S2 x y = vIx3 S2 x y ∨ vIx S2 x y = vIxD S2 x y := by
          unfold vIx vIx3
          cases x <;> first
            | exact .inl rfl
            | (dsimp only; split
               · exact .inl rfl
               · exact .inr rfl)
        rcases this with k | k
        · rw [k]; exact .inl rfl
        · rw [k]; exact .inr rfl
      | exc c S2 => exact .inl rfl
      | bad => exact .inl rfl
    | exc c S1 => exact .inl rfl
    | bad => exact .inl rfl
theorem sl_any (hx : On X Γ) : SlR X (rSlV Γ vSl) := SlR.alt3 sl_strD (sl_tupD hx) (sl_listD hx) fun lo hi S x => by
  unfold vSl
  split
  · exact .inl rfl
  · exact .inr (.inl rfl)
  · exact .inr (.inr rfl)
theorem di_any (hx : On X Γ) (ha : PE X a (tD Γ W da)) : PI X tg a (tI Γ W (G.iAny da)) :=
  PI.alt (d1 := fun L S => (da L S).bind fun x S1 => match x with | .tup xs => .ok (none, xs) S1 | .str s => if s.length ≤ big then .ok (none, s.map fun c => .str [c]) S1 else .bad | _ => .bad)
    (PI.alt (di_tup hx ha) (di_str ha) fun L S => by
      unfold G.iTup G.iStr
      cases da L S with
      | ok x S1 =>
        simp only [Out.bind]
        cases x with
        | tup _ => exact .inl rfl
        | str _ => exact .inr (.inl rfl)
        | _ => exact .inr (.inr rfl)
      | exc c S1 => exact .inl rfl
      | bad => exact .inl rfl)
    (di_list hx ha) fun L S => by
      unfold G.iAny G.iList
      cases da L S with
      | ok x S1 =>
        simp only [Out.bind]
        cases x with
        | tup _ => exact .inl rfl
        | str _ => exact .inl rfl
        | lst _ => exact .inr (.inl rfl)
        | ref _ => exact .inr (.inl rfl)
        | _ => exact .inr (.inr rfl)
      | exc c S1 => exact .inl rfl
      | bad => exact .inl rfl
end
end G

namespace G
open PySem L2 L2H HotX PyProof.Rows
/-! # GR11: what a printed text leans on; the end -/
theorem huR {k : Nat} {A : Around} (h : Room k A) : A.units + 65 < cLine := by have := h.un; omega
theorem huR4 {k : Nat} {A : Around} (h : Room k A) : A.units + 64 < cLine := by have := h.un; omega
theorem huR1 {k : Nat} {A : Around} (h : Room k A) : A.units + 1 < cLine := by have := h.un; omega
/-- a def of the top -/
structure Df (K : PySem.W.Frag) (mg : Str → Option Value) (x : Str) (st : Stmt) (f : Addr) (fd : FuncData) (ps : List Str) : Prop where
  F : Fun K x x st f fd
  b : Binds K fd ps []
  m : mg x = some (.ref f)
  k : PySem.W.keepIn K (.ref f) = true
/-- a written value of the top -/
def CG (Γ : Ctx) (mg : Str → Option Value) (x : Str) (d : D) : Prop := ∃ v u, mg x = some u ∧ RelV v u ∧ ∀ g, Rep Γ g d v
theorem CG.de {X : Cx} {Γ : Ctx} {W : WX} {x : Str} {d : D} {pos : Pos} (h : CG Γ X.mg x d) (hg : Gl X x) (hd : (x == ("__debug__" : Str)) = false := by decide) : PE X (.Name x pos) (tD Γ W (dC d)) := by
  obtain ⟨v, u, hm, r, rd⟩ := h
  exact de_glob hg hm r (fun g _ => rd g) hd
/-- a written dict of the top -/
structure CT (Γ : Ctx) (mg : Str → Option Value) (x : Str) (d : Addr) (kvs : List (List Nat × D)) : Prop where
  m : mg x = some (.ref d)
  t : KTab Γ d kvs
theorem CT.de {X : Cx} {Γ : Ctx} {W : WX} {x : Str} {d : Addr} {kvs : List (List Nat × D)} {p pos : Pos} {b : Expr} {db : DE} (h : CT Γ X.mg x d kvs) (hx : On X Γ) (hg : Gl X x) (hb : PE X b (tD Γ W db)) (hs : PlainIx b := by exact fun _ _ => rfl) (hd : (x == ("__debug__" : Str)) = false := by decide) :
    PE X (.Subscript (.Name x p) b pos) (tD Γ W (dOp1 (vGet kvs) db)) := de_kget hx hg h.m h.t hb hs hd
theorem ktab_of {Γ : Ctx} {d : Addr} {es : Array DictEntry} {n : Nat} (hl : Γ.K.lookup d = some ⟨.type "dict", none, .dict es n, #[]⟩) (hk : PySem.W.KeysLit Γ.w.params es.toList) {kvs : List (List Nat × D)}
    (h : ∀ p ∈ kvs, ∃ v u, PySem.W.nsIn Γ.K d (sOf p.1) = some (some u) ∧ RelV v u ∧ ∀ g, Rep Γ g p.2 v) : KTab Γ d kvs := fun s d' e => by
  have : ∃ p ∈ kvs, p.1 = s ∧ p.2 = d' := by
    clear h
    induction kvs with
    | nil => cases e
    | cons p r ih =>
      obtain ⟨a, b⟩ := p
      unfold lookF at e
      split at e
      · rename_i hz; cases e; exact ⟨_, List.mem_cons_self, hz, rfl⟩
      · obtain ⟨q, hq, h2⟩ := ih e; exact ⟨q, List.mem_cons_of_mem _ hq, h2⟩
  obtain ⟨p, hp, rfl, rfl⟩ := this
  obtain ⟨v, u, h1, h2, h3⟩ := h p hp
  exact ⟨v, ⟨es, n, u, hl, hk, h1, h2⟩, fun g _ => h3 g⟩
/-- an own error -/
structure XcOk (K : PySem.W.Frag) (mg : Str → Option Value) (x : Str) (C : Addr) : Prop where
  g : mg x = some (.ref C)
  k : PySem.W.keepIn K (.ref C) = true
  ex : PySem.W.excIn K C [.type "ValueError", .type "Exception", .type "BaseException", .type "object"] "ValueError.__new__" = true
  sb : PySem.W.subIn K (.ref C) (.type "BaseException") = some true
  ty : PySem.W.typeIn K (.ref C) = some (.type "type")
theorem XcOk.raise {X : Cx} {Γ : Ctx} {W : WX} {x m : Str} {C : Addr} {j n : Nat} {p p2 pos pos' : Pos} (h : XcOk X.K X.mg x C) (hc : X.calm = true) (tk : L2N.Takes X W) (hg : Gl X x) (hk : Γ.xA n = C) (hdb : (x == ("__debug__" : Str)) = false := by decide) :
    PS X (.Raise (some (.Call (.Name x p) [.Constant (.str m) j p2] [] pos)) none pos') (tDS Γ W (sRaise n)) :=
  ds_raise (L2N.ps_raise hc tk (L2N.pmk_own PySem.F.excBase_ValueError h.ex h.g h.k (raises_own h.sb h.ty) hg hdb)) hk
theorem tab_uniq {T : List (Addr × Str)} {P : Addr} {q : Str} (nd : (T.map (·.1)).Nodup) (hm : (P, q) ∈ T) : ∀ p ∈ T, p.1 = P → p.2 = q := by
  induction T with
  | nil => cases hm
  | cons t r ih =>
    rw [List.map_cons, List.nodup_cons] at nd
    intro p hp e
    rcases List.mem_cons.mp hp with rfl | hp
    · rcases List.mem_cons.mp hm with h | h
      · rw [← h]
      · exact (nd.1 (List.mem_map.mpr ⟨(P, q), h, e.symm⟩)).elim
    · rcases List.mem_cons.mp hm with h | h
      · exact (nd.1 (List.mem_map.mpr ⟨p, hp, by rw [e, ← h]⟩)).elim
      · exact ih nd.2 h p hp e
theorem tyD_in {S : Hs} {d : D} {t : String} (h : tyD S d = some t) : t = "NoneType" ∨ t = "bool" ∨ t = "int" ∨ t = "str" ∨ t = "tuple" ∨ t = "list" ∨ t = "dict" := by
  cases d with
  | ref i =>
    simp only [tyD] at h
    split at h <;> cases h <;> simp
  | scr _ => cases h
  | _ => cases h <;> simp
theorem isa_of {g : String → Bool} {tn : String} (hg : ∀ t, (t = "NoneType" ∨ t = "bool" ∨ t = "int" ∨ t = "str" ∨ t = "tuple" ∨ t = "list" ∨ t = "dict") → kitB t tn = some (g t)) : ∀ S d v, ((tyD S d).map fun t => D.bl (g t)) = some v → ∃ t k, tyD S d = some t ∧ v = .bl k ∧ kitB t tn = some k := fun S d v h => by
  cases q : tyD S d with
  | none => rw [q] at h; cases h
  | some t => rw [q] at h; cases h; exact ⟨t, g t, rfl, rfl, hg t (tyD_in q)⟩
section
variable {X : Cx} {Γ : Ctx} {W : WX} {a : Expr} {da : DE} {p p2 pos : Pos}
theorem de_vIsStr (hx : On X Γ) (hg : Gl X "isinstance") (hm : X.mg "isinstance" = none) (hg2 : Gl X "str") (hm2 : X.mg "str" = none) (ha : PE X a (tD Γ W da))
    (he : starEach (a :: [.Name "str" p2]) X.env = (false, eval a X.env) :: starEach [.Name "str" p2] X.env := by rfl) (hpl : (backTo pos (starEach [.Name "str" p2] X.env)).any (·.1) = false := by rfl) (h2 : starEach ((.Name "str" p2) :: []) X.env = (false, eval (.Name "str" p2) X.env) :: starEach [] X.env := by rfl) :
    PE X (.Call (.Name "isinstance" p) [a, .Name "str" p2] [] pos) (tD Γ W (dOp1 vIsStr da)) :=
  de_isi (x := "str") (T := "str") (tn := "str") hx (isa_of (g := fun t => t == "str") fun t ht => by rcases ht with rfl | rfl | rfl | rfl | rfl | rfl | rfl <;> decide) hg hm rfl hg2 hm2 rfl ha (by decide) (by decide) he hpl h2
theorem de_vIsTup (hx : On X Γ) (hg : Gl X "isinstance") (hm : X.mg "isinstance" = none) (hg2 : Gl X "tuple") (hm2 : X.mg "tuple" = none) (ha : PE X a (tD Γ W da))
    (he : starEach (a :: [.Name "tuple" p2]) X.env = (false, eval a X.env) :: starEach [.Name "tuple" p2] X.env := by rfl) (hpl : (backTo pos (starEach [.Name "tuple" p2] X.env)).any (·.1) = false := by rfl) (h2 : starEach ((.Name "tuple" p2) :: []) X.env = (false, eval (.Name "tuple" p2) X.env) :: starEach [] X.env := by rfl) :
    PE X (.Call (.Name "isinstance" p) [a, .Name "tuple" p2] [] pos) (tD Γ W (dOp1 vIsTup da)) :=
  de_isi (x := "tuple") (T := "tuple") (tn := "tuple") hx (isa_of (g := fun t => t == "tuple") fun t ht => by rcases ht with rfl | rfl | rfl | rfl | rfl | rfl | rfl <;> decide) hg hm rfl hg2 hm2 rfl ha (by decide) (by decide) he hpl h2
theorem de_vIsLst (hx : On X Γ) (hg : Gl X "isinstance") (hm : X.mg "isinstance" = none) (hg2 : Gl X "list") (hm2 : X.mg "list" = none) (ha : PE X a (tD Γ W da))
    (he : starEach (a :: [.Name "list" p2]) X.env = (false, eval a X.env) :: starEach [.Name "list" p2] X.env := by rfl) (hpl : (backTo pos (starEach [.Name "list" p2] X.env)).any (·.1) = false := by rfl) (h2 : starEach ((.Name "list" p2) :: []) X.env = (false, eval (.Name "list" p2) X.env) :: starEach [] X.env := by rfl) :
    PE X (.Call (.Name "isinstance" p) [a, .Name "list" p2] [] pos) (tD Γ W (dOp1 vIsLst da)) :=
  de_isi (x := "list") (T := "list") (tn := "list") hx (isa_of (g := fun t => t == "list") fun t ht => by rcases ht with rfl | rfl | rfl | rfl | rfl | rfl | rfl <;> decide) hg hm rfl hg2 hm2 rfl ha (by decide) (by decide) he hpl h2
theorem de_vIsDct (hx : On X Γ) (hg : Gl X "isinstance") (hm : X.mg "isinstance" = none) (hg2 : Gl X "dict") (hm2 : X.mg "dict" = none) (ha : PE X a (tD Γ W da))
    (he : starEach (a :: [.Name "dict" p2]) X.env = (false, eval a X.env) :: starEach [.Name "dict" p2] X.env := by rfl) (hpl : (backTo pos (starEach [.Name "dict" p2] X.env)).any (·.1) = false := by rfl) (h2 : starEach ((.Name "dict" p2) :: []) X.env = (false, eval (.Name "dict" p2) X.env) :: starEach [] X.env := by rfl) :
    PE X (.Call (.Name "isinstance" p) [a, .Name "dict" p2] [] pos) (tD Γ W (dOp1 vIsDct da)) :=
  de_isi (x := "dict") (T := "dict") (tn := "dict") hx (isa_of (g := fun t => t == "dict") fun t ht => by rcases ht with rfl | rfl | rfl | rfl | rfl | rfl | rfl <;> decide) hg hm rfl hg2 hm2 rfl ha (by decide) (by decide) he hpl h2
theorem de_vIsInt (hx : On X Γ) (hg : Gl X "isinstance") (hm : X.mg "isinstance" = none) (hg2 : Gl X "int") (hm2 : X.mg "int" = none) (ha : PE X a (tD Γ W da))
    (he : starEach (a :: [.Name "int" p2]) X.env = (false, eval a X.env) :: starEach [.Name "int" p2] X.env := by rfl) (hpl : (backTo pos (starEach [.Name "int" p2] X.env)).any (·.1) = false := by rfl) (h2 : starEach ((.Name "int" p2) :: []) X.env = (false, eval (.Name "int" p2) X.env) :: starEach [] X.env := by rfl) :
    PE X (.Call (.Name "isinstance" p) [a, .Name "int" p2] [] pos) (tD Γ W (dOp1 vIsInt da)) :=
  de_isi (x := "int") (T := "int") (tn := "int") hx (isa_of (g := fun t => t == "int" || t == "bool") fun t ht => by rcases ht with rfl | rfl | rfl | rfl | rfl | rfl | rfl <;> decide) hg hm rfl hg2 hm2 rfl ha (by decide) (by decide) he hpl h2
theorem de_vIsBool (hx : On X Γ) (hg : Gl X "isinstance") (hm : X.mg "isinstance" = none) (hg2 : Gl X "bool") (hm2 : X.mg "bool" = none) (ha : PE X a (tD Γ W da))
    (he : starEach (a :: [.Name "bool" p2]) X.env = (false, eval a X.env) :: starEach [.Name "bool" p2] X.env := by rfl) (hpl : (backTo pos (starEach [.Name "bool" p2] X.env)).any (·.1) = false := by rfl) (h2 : starEach ((.Name "bool" p2) :: []) X.env = (false, eval (.Name "bool" p2) X.env) :: starEach [] X.env := by rfl) :
    PE X (.Call (.Name "isinstance" p) [a, .Name "bool" p2] [] pos) (tD Γ W (dOp1 vIsBool da)) :=
  de_isi (x := "bool") (T := "bool") (tn := "bool") hx (isa_of (g := fun t => t == "bool") fun t ht => by rcases ht with rfl | rfl | rfl | rfl | rfl | rfl | rfl <;> decide) hg hm rfl hg2 hm2 rfl ha (by decide) (by decide) he hpl h2
end
/-! ### the end -/
theorem FnOk.small {P : Program} {w : World} {K : PySem.W.Frag} {mg : Str → Option Value} {base : Heap} {CX : CXT} {k : Nat} {f : Addr} {fd : FuncData} {ps : List Str} {sp : Sp} (F : FnOk P w K mg base CX k f fd ps sp) :
    FnOk P w K mg base CX k f fd ps (fun vs H Q E => vs.length = ps.length ∧ ((∀ a o, H a = some o → Small o) → sp vs H Q E)) :=
  ⟨fun vs H Q E h => h.1, fun A outer s H args us vs Q E hr e0 hb r h => F.run A outer s H args us vs Q E hr e0 hb r (h.2 fun a o z => small_of (e0.hok a o z))⟩
theorem law_at {l : PySem.W.OpenLaw} {w : World} {K : PySem.W.Frag} {k : Nat} {mg : Str → Option Value} {fa : Addr} {h : Heap} {fd : FuncData} {cs : List (Addr × Addr)} {Γ : Ctx} {m : DF}
    (hK : Γ.K = K) (hT : ∀ p ∈ cs, h.get? p.2 = some { cls := .none, data := .fields #[] }) (nT : ∀ p ∈ cs, K.lookup p.2 = none) (C : ∀ p ∈ cs, PySem.W.CodeHd h p.1 p.2) (hb : ∀ (s : Shared) (u : Value), BindsTo s fd ⟨[u], []⟩ [("script", u)])
    (hG : ∀ p ∈ Γ.T, ∃ c, (c, p.1) ∈ cs)
    (F : ∀ base : Heap, (∀ p ∈ cs, LamX.TabB base mg p.1 p.2) → FnOk l.prog w K mg base (L2N.CX l.prog w) k fa fd ["script"] (spD Γ m))
    (hp : ∀ ns : List Int, ns.length ≤ 63 → (∀ z ∈ ns, Builtin.Int.intBits z ≤ 1048576) → ∃ S, m [.scr ns] [] = .ok (.bl true) S) :
    LamX.LawAtS l w K (L2N.CX l.prog w) k 63 "script" mg fa h := by
  refine ⟨fd, cs, _, hT, nT, C, hb, fun H a ns hn hz ht hS => ?_, fun base _ _ TB => FnOk.small (F base TB)⟩
  refine ⟨rfl, fun sm => ?_⟩
  obtain ⟨S, hm⟩ := hp ns hn hz
  subst hK
  refine ⟨⟨[], [], [], H⟩, [.scr ns], rfl, ⟨rfl, List.nodup_nil, fun i a o z => by simp at z, fun a z => by simp at z, sm, fun p hp => ?_, fun c q _ z => by simp at z⟩, .cons (.scr ?_) .nil, ?_⟩
  · obtain ⟨c, hc⟩ := hG p hp
    exact LamX.TabS.nil (ht _ hc)
  · rcases hS with z | z
    · exact .inl ⟨z, fun ⟨i, o, e, _⟩ => by simp at e, by simp⟩
    · exact .inr z
  · show WP Γ _ _ _ _ (m [.scr ns] []) _
    rw [hm]
    intro g' b _ _ _ r
    cases r
    rfl
theorem cx_false {P : Program} {w : World} {H : Hp} {s : Shared} {e : Value} {s' : Shared} (h : L2N.CX P w [] H s (fun _ _ _ => False) e s') : False := by
  obtain ⟨_, _, _, _, _, _, _, _, _, _, _, _, z⟩ := h
  exact z
end G

namespace G
open PySem L2
/-! # GR12: texts; an empty dict -/
theorem okS_app {a b : List Nat} (ha : okS a = true) (hb : okS b = true) : okS (a ++ b) = true := by unfold okS at *; rw [List.all_append, ha, hb]; rfl
theorem spl_one (c : Nat) : ∀ (s acc : List Nat), TL.spl [c] 0 acc s = splitC c acc s
  | [], acc => by simp [TL.spl, splitC]
  | x :: r, acc => by
    unfold TL.spl splitC
    by_cases h : x = c
    · subst h
      have : TL.pre [x] (x :: r) = true := by simp [TL.pre]
      rw [if_pos this, if_pos rfl]
      show acc :: TL.spl [x] 0 [] r = _
      rw [spl_one x r []]
    · have : ¬ TL.pre [c] (x :: r) = true := by simp [TL.pre]; exact h
      rw [if_neg this, if_neg h, spl_one c r (acc ++ [x])]
theorem splitC_ok (c : Nat) : ∀ (s acc : List Nat), okS acc = true → okS s = true → ∀ p ∈ splitC c acc s, okS p = true
  | [], acc, ha, _, p, hp => by simp [splitC] at hp; subst hp; exact ha
  | x :: r, acc, ha, hs, p, hp => by
    have hx : okS [x] = true := by unfold okS at *; simp at hs ⊢; exact hs.1
    have hr : okS r = true := by unfold okS at *; simp at hs ⊢; exact hs.2
    unfold splitC at hp
    split at hp
    · rcases List.mem_cons.mp hp with e | e
      · subst e; exact ha
      · exact splitC_ok c r [] rfl hr p e
    · exact splitC_ok c r _ (okS_app ha hx) hr p hp
theorem splitC_len (c : Nat) : ∀ (s acc : List Nat), (splitC c acc s).length ≤ s.length + 1
  | [], acc => by simp [splitC]
  | x :: r, acc => by
    unfold splitC
    split
    · have := splitC_len c r []; simp; omega
    · have := splitC_len c r (acc ++ [x]); simp; omega
theorem joinS_eq (a : List Nat) : ∀ ys : List (List Nat), TL.joinL a ys = joinS a ys
  | [] => rfl
  | [p] => rfl
  | p :: q :: r => by
    show p ++ (a ++ TL.joinL a (q :: r)) = p ++ a ++ joinS a (q :: r)
    rw [joinS_eq a (q :: r), List.append_assoc]
theorem joinS_ok {a : List Nat} (ha : okS a = true) : ∀ {ys : List (List Nat)}, (∀ y ∈ ys, okS y = true) → okS (joinS a ys) = true
  | [], _ => rfl
  | [p], h => h p (by simp)
  | p :: q :: r, h => by
    show okS (p ++ a ++ joinS a (q :: r)) = true
    exact okS_app (okS_app (h p (by simp)) ha) (joinS_ok ha fun y hy => h y (List.mem_cons_of_mem _ hy))
theorem joinS_sum (a : List Nat) : ∀ ys : List (List Nat), (ys.map (·.length)).sum ≤ (joinS a ys).length
  | [] => by simp
  | [p] => by simp [joinS]
  | p :: q :: r => by
    have := joinS_sum a (q :: r)
    show p.length + ((q :: r).map (·.length)).sum ≤ (p ++ a ++ joinS a (q :: r)).length
    rw [List.length_append, List.length_append]; omega
section
variable {X : Cx} {Γ : Ctx} {W : WX} {o e : Expr} {da db : DE} {g : Wd}
theorem strsOf_rep : ∀ {xs : List D} {vs : List V} {ss : List (List Nat)}, Reps Γ g xs vs → strsOf xs = some ss → vs = (ss.map sOf).map V.str ∧ ∀ s ∈ ss, okS s = true
  | [], _, ss, r, h => by cases r; cases h; exact ⟨rfl, by simp⟩
  | x :: xs, _, ss, r, h => by
    cases r with
    | cons r1 r2 =>
      cases x with
      | str s =>
        simp only [strsOf] at h
        cases q : strsOf xs with
        | none => rw [q] at h; cases h
        | some t =>
          rw [q] at h
          cases h
          obtain ⟨e1, e2⟩ := strsOf_rep r2 q
          cases r1 with
          | str _ ho => exact ⟨by rw [e1]; rfl, fun z hz => (List.mem_cons.mp hz).elim (fun e => e ▸ ho) (e2 z)⟩
      | _ => cases h
theorem de_join {apos pos : Pos} (hx : On X Γ) (ho : PE X o (tD Γ W da)) (he : PE X e (tD Γ W db)) (hs : starEach [e] X.env = [(false, eval e X.env)] := by rfl) (hbase : attributeBase o "join" X.env (eval o X.env) = eval o X.env := by rfl) (hline : (apos.endLine == pos.line) = true := by rfl) :
    PE X (.Call (.Attribute o "join" apos) [e] [] pos) (tD Γ W (dJoin da db)) :=
  PE.of (pe_join ho he hs hbase hline) fun g L σ Q sim rl h => by
    refine tD.mono (run1 sim rl h) fun x H1 ⟨g1, dx, e1, s1, st1, rl1, r1, w1⟩ => ?_
    subst e1
    cases r1 with
    | str a ha =>
      refine ⟨⟨_, rfl⟩, tD.mono (run1 s1 rl1 w1) fun y H2 ⟨g2, dy, e2, s2, st2, rl2, r2, w2⟩ => ?_⟩
      subst e2
      obtain ⟨v, ev, w⟩ := WP.opt w2
      unfold vJoin at ev
      dsimp only at ev
      split at ev
      · rename_i xs exs
        split at ev
        · rename_i ss ess
          split at ev
          · rename_i hz
            cases ev
            have key : ∃ p vs, y = .ref p ∧ (SqL X.K g2.H p vs ∨ SqT X.K g2.H p vs) ∧ Reps Γ g2 xs vs := by
              cases r2 with
              | tup t1 t2 => cases exs; exact ⟨_, _, rfl, .inr (by rw [hx.K]; exact t1.sq), t2⟩
              | lst t1 t2 => cases exs; exact ⟨_, _, rfl, .inl (by rw [hx.K]; exact t1.sq), t2⟩
              | ref t1 => obtain ⟨p, vs, e, q1, q2⟩ := seqOf_rep s2 (.ref t1) exs; exact ⟨p, vs, e, .inl (by rw [hx.K]; exact q1), q2⟩
              | scr t1 => obtain ⟨p, vs, e, q1, q2⟩ := seqOf_rep s2 (.scr t1) exs; exact ⟨p, vs, e, .inl (by rw [hx.K]; exact q1), q2⟩
              | _ => cases exs
            obtain ⟨p, vs, rfl, sq, rs⟩ := key
            obtain ⟨rfl, hok⟩ := strsOf_rep rs ess
            refine ⟨sOf a, p, ss.map sOf, rfl, rfl, sq, ?_, ?_⟩
            · have e1 : ((ss.map sOf).map (·.length)) = ss.map (·.length) := by rw [List.map_map]; congr 1
              have e2 : (sOf a).length = a.length := by simp [sOf, Str.length]
              rw [e1, e2, List.length_map]
              have := joinS_sum a ss
              have h3 : ss.length * a.length ≤ ss.length * (a.length + 1) := Nat.mul_le_mul_left _ (Nat.le_succ _)
              omega
            · have e3 : Txt.join (sOf a) (ss.map sOf) = sOf (joinS a ss) := by rw [← joinS_eq]; exact SX.join_S a ss
              rw [e3]
              exact w.here s2 (.str _ (joinS_ok ha hok))
          · cases ev
        · cases ev
      · cases ev
    | _ => exact w1.elim
theorem de_split {apos pos : Pos} (ho : PE X o (tD Γ W da)) (he : PE X e (tD Γ W db)) (hs : starEach [e] X.env = [(false, eval e X.env)] := by rfl) (hbase : attributeBase o "split" X.env (eval o X.env) = eval o X.env := by rfl) (hline : (apos.endLine == pos.line) = true := by rfl) :
    PE X (.Call (.Attribute o "split" apos) [e] [] pos) (tD Γ W (dSplit da db)) :=
  PE.of (pe_split ho he hs hbase hline) fun g L σ Q sim rl h => by
    refine tD.mono (run1 sim rl h) fun x H1 ⟨g1, dx, e1, s1, st1, rl1, r1, w1⟩ => ?_
    subst e1
    cases r1 with
    | str a ha =>
      refine ⟨⟨_, rfl⟩, tD.mono (run1 s1 rl1 w1) fun y H2 ⟨g2, dy, e2, s2, st2, rl2, r2, w2⟩ => ?_⟩
      subst e2
      obtain ⟨v, ev, w⟩ := WP.opt w2
      unfold vSplit at ev
      split at ev
      · rename_i s c e1 
        cases e1
        split at ev
        · rename_i hz
          cases ev
          cases r2 with
          | str _ hc =>
            refine ⟨sOf a, sOf [c], rfl, rfl, by simp [sOf, Str.length], by rw [line_big]; simpa [sOf, Str.length] using hz.2, fun p hp => ?_⟩
            have e3 : Txt.split (sOf a) (sOf [c]) = (splitC c [] a).map sOf := by
              have := SX.split_S (a := a) (b := [c]) (by simp) (by simpa using hz.1)
              rw [spl_one] at this
              exact this
            rw [e3, List.map_map]
            have rs : ∀ l : List (List Nat), (∀ p ∈ l, okS p = true) → Reps Γ g2 (l.map D.str) (l.map (V.str ∘ sOf)) := by
              intro l
              induction l with
              | nil => intro _; exact .nil
              | cons z r ih => intro h; exact .cons (.str z (h z (by simp))) (ih fun q hq => h q (List.mem_cons_of_mem _ hq))
            refine (WP.fin w).lst s2 (rs _ (splitC_ok c a [] rfl ha)) ?_ hp
            rw [List.length_map, line_big]
            have := splitC_len c a []
            omega
        · cases ev
      · cases ev
    | _ => exact w1.elim
theorem de_dnew0 {pos : Pos} : PE X (.Dict [] [] pos) (tD Γ W (dC (.dct []))) :=
  PE.of pe_dnewK fun g L σ Q sim rl w => by
    intro p hp
    have s1 : Sim Γ (g.put p (.dK [])) := sim.fresh hp (Nat.zero_le _) (fun c q z => by cases z)
    exact w (g.put p (.dK [])) (.ref p) rfl (Step.fresh hp) s1 (.dct ⟨upd_same, sim.notLive hp, sim.notR hp⟩ .nil)
end
end G

namespace G
/-! # PL: plain facts -/
theorem okds_ints (k : Nat) : ∀ ns : List Int, D.okds k (ns.map D.int) = true
  | [] => by simp [D.okds]
  | n :: r => by simp [D.okds, D.okd, okds_ints k r]
def cellD : DF := mDef 2 2 (sSeq (sIf (dT (dOp2 vEq (dVar 0) (dLst (aNil)))) ((sRet (dOp2 vMul (dVar 1) (dC (.int 7919))))) (sNext)) (sRet (dOp2 vAdd (dOp2 vIx (dVar 0) (dOp2 vMod (dVar 1) (dFn vLen (aCons (dVar 0) (aNil))))) (dOp2 vMul (dOp2 vFdiv (dVar 1) (dFn vLen (aCons (dVar 0) (aNil)))) (dC (.int 104729))))))
def cellZ (ns : List Int) (k : Nat) : Int := if ns = [] then (k : Int) * 7919 else ns.getD (k % ns.length) 0 + ((k / ns.length : Nat) : Int) * 104729
theorem bits_le {k : Nat} (h : k < 2 ^ 64) : intBits (k : Int) ≤ 64 := by
  unfold intBits
  split
  · omega
  · rename_i hk
    have hk0 : k ≠ 0 := fun z => hk (by simp [z])
    have : k.log2 < 64 := (Nat.log2_lt hk0).mpr h
    simp only [Int.natAbs_natCast]; omega
theorem cell_eq {ns : List Int} {k : Nat} {S : Hs} (hk : k < 2 ^ 64) (hl : ns.length < 2 ^ 64) : cellD [.scr ns, .int k] S = .ok (.int (cellZ ns k)) S := by
  unfold cellD mDef
  simp only [List.length_cons, List.length_nil, if_true, List.map_cons, List.map_nil]
  show (match (sSeq _ _ [some (D.scr ns), some (D.int k)] S) with | .nx _ S' => Out.ok D.non S' | .rt v S' => .ok v S' | .exc c S' => .exc c S' | _ => .bad) = _
  have hb := bits_le hk
  cases ns with
  | nil =>
    have h7 : intBits 7919 = 13 := by decide
    simp [sSeq, sIf, dT, dOp2, dVar, dLst, aNil, Out.bind, Out.toS, ofOpt, vEq, nrm, seqOf, D.okd, D.okds, D.eqv, D.eqvs, sRet, dC, vMul, h7, cellZ]
    rw [if_pos (by omega)]
  | cons n r =>
    have h7 : intBits 104729 = 17 := by decide
    have hlen : (0 : Int) < ((n :: r).length : Int) := by rw [List.length_cons]; omega
    have hlen2 : ((n :: r).length : Int) = ((r.length + 1 : Nat) : Int) := by simp
    have hm : ((k : Int) % ((r.length + 1 : Nat) : Int)) = ((k % (r.length + 1) : Nat) : Int) := by omega
    have hd : ((k : Int) / ((r.length + 1 : Nat) : Int)) = ((k / (r.length + 1) : Nat) : Int) := by omega
    have hlt : k % (r.length + 1) < r.length + 1 := Nat.mod_lt _ (by omega)
    have hdb : k / (r.length + 1) < 2 ^ 64 := Nat.lt_of_le_of_lt (Nat.div_le_self _ _) hk
    have hb2 := bits_le hdb
    have hlog : (r.length + 1).log2 < 9000 := by
      have : (r.length + 1).log2 < 64 := (Nat.log2_lt (by omega)).mpr (by simpa using hl)
      omega
    have hpos : (0 : Int) < ((r.length + 1 : Nat) : Int) := by omega
    have e1 : vEq S (.scr (n :: r)) (.lst []) = some (.bl false) := by
      simp [vEq, nrm, seqOf, D.okd, D.okds, D.eqv, D.eqvs, okds_ints]
    have e2 : vLen S [.scr (n :: r)] = some (.int ((r.length + 1 : Nat) : Int)) := by simp [vLen, seqOf]
    have e3 : vMod S (.int k) (.int ((r.length + 1 : Nat) : Int)) = some (.int ((k % (r.length + 1) : Nat) : Int)) := by
      simp only [vMod]; rw [if_pos hpos, hm]
    have e4 : vFdiv S (.int k) (.int ((r.length + 1 : Nat) : Int)) = some (.int ((k / (r.length + 1) : Nat) : Int)) := by
      simp only [vFdiv, Int.natAbs_natCast]; rw [if_pos ⟨hpos, hlog⟩, hd]
    have e5 : vMul S (.int ((k / (r.length + 1) : Nat) : Int)) (.int 104729) = some (.int (((k / (r.length + 1) : Nat) : Int) * 104729)) := by
      simp only [vMul, h7]; rw [if_pos (by omega)]
    have e6 : vIx S (.scr (n :: r)) (.int ((k % (r.length + 1) : Nat) : Int)) = some (.int ((n :: r).getD (k % (r.length + 1)) 0)) := by
      simp only [vIx, seqOf, vIxL, atD, ixD]
      have h0 : (0 : Int) ≤ ((k % (r.length + 1) : Nat) : Int) := by omega
      have h1 : ((k % (r.length + 1) : Nat) : Int) < ((List.map D.int (n :: r)).length : Int) := by rw [List.length_map, List.length_cons]; exact Int.ofNat_lt.mpr hlt
      rw [if_pos h0, if_pos h1, Option.bind_some, Int.toNat_natCast, List.getElem?_map]
      rw [List.getD_eq_getElem?_getD]
      rw [List.getElem?_eq_getElem (by simpa using hlt)]
      rfl
    have e0 : ∀ a b : DS, sSeq a b [some (D.scr (n :: r)), some (D.int k)] S = (match a [some (D.scr (n :: r)), some (D.int k)] S with | .nx L1 S1 => b L1 S1 | o => o) := fun _ _ => rfl
    rw [e0]
    have f1 : (sIf (dT (dOp2 vEq (dVar 0) (dLst (aNil)))) ((sRet (dOp2 vMul (dVar 1) (dC (.int 7919))))) (sNext)) [some (D.scr (n :: r)), some (D.int k)] S = .nx [some (D.scr (n :: r)), some (D.int k)] S := by
      simp only [sIf, dT, dOp2, dVar, dLst, aNil, Out.bind, List.getElem?_cons_zero, List.length_nil, Nat.zero_le, if_true, e1, ofOpt, Out.toS]
      rfl
    rw [f1]
    simp only [sRet, dOp2, dFn, dVar, aCons, aNil, dC, Out.bind, List.getElem?_cons_zero, List.getElem?_cons_succ, e2, e3, e4, e5, e6, ofOpt, Out.toS, vAdd, cellZ]
    simp
/-! ### bits -/
theorem bits_iff {x : Int} {n : Nat} : intBits x ≤ n ↔ x.natAbs < 2 ^ n := by
  unfold intBits
  by_cases h : x = 0
  · subst h; simp; exact Nat.two_pow_pos n
  · have h0 : x.natAbs ≠ 0 := by omega
    have hb : (x == 0) = false := by simpa using h
    rw [hb]
    simp only [Bool.false_eq_true, if_false]
    rw [← Nat.log2_lt h0]
    omega
theorem bits_add {x y : Int} {n : Nat} (hx : intBits x ≤ n) (hy : intBits y ≤ n) : intBits (x + y) ≤ n + 1 := by
  rw [bits_iff] at *
  have : 2 ^ (n + 1) = 2 ^ n + 2 ^ n := by rw [Nat.pow_succ]; omega
  omega
theorem bits_mul {x y : Int} {n m : Nat} (hx : intBits x ≤ n) (hy : intBits y ≤ m) : intBits (x * y) ≤ n + m := by
  rw [bits_iff] at *
  rw [Int.natAbs_mul, Nat.pow_add]
  exact Nat.mul_lt_mul'' hx hy
theorem bits_mono {x : Int} {n m : Nat} (hx : intBits x ≤ n) (h : n ≤ m) : intBits x ≤ m := Nat.le_trans hx h
theorem cell_bits {ns : List Int} {k : Nat} (hb : ∀ z ∈ ns, intBits z ≤ 1048576) (hk : k < 2 ^ 64) : intBits (cellZ ns k) ≤ 1048577 := by
  unfold cellZ
  split
  · exact bits_mono (bits_mul (bits_le hk) (show intBits 7919 ≤ 13 by decide)) (by decide)
  · rename_i h
    refine bits_add ?_ ?_
    · have hl : k % ns.length < ns.length := Nat.mod_lt _ (List.length_pos_iff.mpr h)
      rw [List.getD_eq_getElem?_getD, List.getElem?_eq_getElem hl]
      exact hb _ (List.getElem_mem _)
    · exact bits_mono (bits_mul (bits_le (Nat.lt_of_le_of_lt (Nat.div_le_self _ _) hk)) (show intBits 104729 ≤ 17 by decide)) (by decide)
/-! ### what is drawn -/
def drawnD : DF := mDef 2 3 (sSeq (sAsg 2 (dOp2 vMod (dOp2 vAdd (dOp2 vMul (dVar 0) (dC (.int 6364136223846793005))) (dOp2 vMul (dOp2 vAdd (dVar 1) (dC (.int 1))) (dC (.int 1442695040888963407)))) (dC (.int 340282366920938463463374607431768211507))))
  (sSeq (sAsg 2 (dOp2 vMod (dOp2 vMul (dVar 2) (dVar 2)) (dC (.int 340282366920938463463374607431768211297))))
  (sSeq (sAsg 2 (dOp2 vMul (dOp2 vMul (dOp2 vAdd (dOp2 vMod (dVar 2) (dC (.int 18446744073709551557))) (dC (.int 1))) (dOp2 vAdd (dOp2 vFdiv (dVar 2) (dC (.int 18446744073709551557))) (dC (.int 1)))) (dVar 2)))
  (sRet (dOp2 vMod (dVar 2) (dC (.int 340282366920938463463374607431768211507)))))))
def drawn1 (c k : Int) : Int := (c * 6364136223846793005 + (k + 1) * 1442695040888963407) % 340282366920938463463374607431768211507
def drawn2 (m : Int) : Int := m * m % 340282366920938463463374607431768211297
def drawn3 (m : Int) : Int := (m % 18446744073709551557 + 1) * (m / 18446744073709551557 + 1) * m
def drawnZ (c k : Int) : Int := drawn3 (drawn2 (drawn1 c k)) % 340282366920938463463374607431768211507
theorem drawnZ_nn (c k : Int) : 0 ≤ drawnZ c k := Int.emod_nonneg _ (by decide)
theorem drawnZ_lt (c k : Int) : drawnZ c k < 340282366920938463463374607431768211507 := Int.emod_lt_of_pos _ (by decide)
theorem bits_nn {x : Int} {n : Nat} (h0 : 0 ≤ x) (h : x < (2 ^ n : Nat)) : intBits x ≤ n := by
  rw [bits_iff]; omega
theorem drawnZ_bits (c k : Int) : intBits (drawnZ c k) ≤ 129 := bits_nn (drawnZ_nn c k) (Int.lt_trans (drawnZ_lt c k) (by decide))
theorem vMul_ok {S : Hs} {x y : Int} {n m : Nat} (hx : intBits x ≤ n) (hy : intBits y ≤ m) (h : n + m ≤ 134217728) : vMul S (.int x) (.int y) = some (.int (x * y)) := by
  simp only [vMul]; rw [if_pos (by omega)]
theorem drawn_eq {c k : Int} {S : Hs} (hc : intBits c ≤ 2000000) (hk : intBits k ≤ 200) : drawnD [.int c, .int k] S = .ok (.int (drawnZ c k)) S := by
  have k1 : intBits (k + 1) ≤ 201 := bits_add hk (by decide)
  have m1n : 0 ≤ drawn1 c k := Int.emod_nonneg _ (by decide)
  have m1l : drawn1 c k < 340282366920938463463374607431768211507 := Int.emod_lt_of_pos _ (by decide)
  have m1 : intBits (drawn1 c k) ≤ 129 := bits_nn m1n (Int.lt_trans m1l (by decide))
  have m2n : 0 ≤ drawn2 (drawn1 c k) := Int.emod_nonneg _ (by decide)
  have m2l : drawn2 (drawn1 c k) < 340282366920938463463374607431768211297 := Int.emod_lt_of_pos _ (by decide)
  generalize hm2 : drawn2 (drawn1 c k) = m at m2n m2l
  have m2 : intBits m ≤ 129 := bits_nn m2n (Int.lt_trans m2l (by decide))
  have p65 : ((2 ^ 65 : Nat) : Int) = 36893488147419103232 := by decide
  have p130 : ((2 ^ 130 : Nat) : Int) = 1361129467683753853853498429727072845824 := by decide
  have a1 : intBits (m % 18446744073709551557 + 1) ≤ 65 := bits_nn (by omega) (by rw [p65]; omega)
  have a2 : intBits (m / 18446744073709551557 + 1) ≤ 130 := bits_nn (by omega) (by rw [p130]; omega)
  have e1 : vMul S (.int c) (.int 6364136223846793005) = some (.int (c * 6364136223846793005)) := vMul_ok hc (show _ ≤ 63 by decide) (by decide)
  have e2 : vMul S (.int (k + 1)) (.int 1442695040888963407) = some (.int ((k + 1) * 1442695040888963407)) := vMul_ok k1 (show _ ≤ 63 by decide) (by decide)
  have e3 : vMul S (.int (drawn1 c k)) (.int (drawn1 c k)) = some (.int (drawn1 c k * drawn1 c k)) := vMul_ok m1 m1 (by decide)
  have e4 : vMul S (.int (m % 18446744073709551557 + 1)) (.int (m / 18446744073709551557 + 1)) = some (.int ((m % 18446744073709551557 + 1) * (m / 18446744073709551557 + 1))) := vMul_ok a1 a2 (by decide)
  have e5 : vMul S (.int ((m % 18446744073709551557 + 1) * (m / 18446744073709551557 + 1))) (.int m) = some (.int ((m % 18446744073709551557 + 1) * (m / 18446744073709551557 + 1) * m)) := vMul_ok (bits_mul a1 a2) m2 (by decide)
  have f1 : vMod S (.int (c * 6364136223846793005 + (k + 1) * 1442695040888963407)) (.int 340282366920938463463374607431768211507) = some (.int (drawn1 c k)) := by simp only [vMod]; rw [if_pos (by decide)]; rfl
  have f2 : vMod S (.int (drawn1 c k * drawn1 c k)) (.int 340282366920938463463374607431768211297) = some (.int m) := by simp only [vMod]; rw [if_pos (by decide), ← hm2]; rfl
  have f3 : vMod S (.int m) (.int 18446744073709551557) = some (.int (m % 18446744073709551557)) := by simp only [vMod]; rw [if_pos (by decide)]
  have f4 : vFdiv S (.int m) (.int 18446744073709551557) = some (.int (m / 18446744073709551557)) := by simp only [vFdiv]; rw [if_pos (by decide)]
  have f5 : vMod S (.int ((m % 18446744073709551557 + 1) * (m / 18446744073709551557 + 1) * m)) (.int 340282366920938463463374607431768211507) = some (.int (drawnZ c k)) := by
    simp only [vMod]; rw [if_pos (by decide)]; unfold drawnZ drawn3; rw [hm2]
  unfold drawnD mDef
  simp only [List.length_cons, List.length_nil, if_true, List.map_cons, List.map_nil, List.replicate, List.cons_append, List.nil_append]
  simp [sSeq, sAsg, sRet, dOp2, dVar, dC, Out.bind, Out.toS, ofOpt, vAdd, e1, e2, e3, e4, e5, f1, f2, f3, f4, f5]
/-! ### one step of each -/
section
variable {L : Lc} {S : Hs} {a b c : DE} {t u : DT} {as : DA} {sa sb : DS}
theorem ap_sSeq : sSeq sa sb L S = (match sa L S with | .nx L1 S1 => sb L1 S1 | o => o) := rfl
theorem ap_sIf : sIf t sa sb L S = (t L S).toS fun c S1 => if c then sa L S1 else sb L S1 := rfl
theorem ap_sRet : sRet a L S = (a L S).toS fun x S1 => .rt x S1 := rfl
theorem ap_sAsg {i : Nat} : sAsg i a L S = (a L S).toS fun x S1 => .nx (L.set i (some x)) S1 := rfl
theorem ap_sAsgT {is : List Nat} : sAsgT is a L S = (a L S).toS fun x S1 => match bindTg (.tup is) x L with | some L1 => .nx L1 S1 | none => .bad := rfl
theorem ap_sExpr : sExpr a L S = (a L S).toS fun _ S1 => .nx L S1 := rfl
theorem ap_sNext : sNext L S = .nx L S := rfl
theorem ap_sFor {it : DI} {tg : Tg} : sFor it tg sa L S = (it L S).toS fun gx S1 => forGo gx.1 gx.2 tg sa gx.2 L S1 := rfl
theorem ap_dT : dT a L S = (a L S).bind fun x S1 => match x with | .bl b => .ok b S1 | _ => .bad := rfl
theorem ap_dTnot : dTnot t L S = (t L S).bind fun c S1 => .ok (!c) S1 := rfl
theorem ap_dTand : dTand t u L S = (t L S).bind fun c S1 => if c then u L S1 else .ok false S1 := rfl
theorem ap_dTor : dTor t u L S = (t L S).bind fun c S1 => if c then .ok true S1 else u L S1 := rfl
theorem ap_dOp1 {f : Hs → D → Option D} : dOp1 f a L S = (a L S).bind fun x S1 => ofOpt (f S1 x) S1 := rfl
theorem ap_dOp2 {f : Hs → D → D → Option D} : dOp2 f a b L S = (a L S).bind fun x S1 => (b L S1).bind fun y S2 => ofOpt (f S2 x y) S2 := rfl
theorem ap_dC {v : D} : dC v L S = .ok v S := rfl
theorem ap_dCall {m : DF} : dCall m as L S = (as L S).bind m := rfl
theorem ap_dCall0 {m : DF} : dCall0 m L S = noExc (m [] S) := rfl
theorem ap_aNil : aNil L S = .ok [] S := rfl
theorem ap_aCons : aCons a as L S = (a L S).bind fun x S1 => (as L S1).bind fun xs S2 => .ok (x :: xs) S2 := rfl
theorem ap_dFn {f : Hs → List D → Option D} : dFn f as L S = (as L S).bind fun xs S1 => ofOpt (f S1 xs) S1 := rfl
theorem ap_dTup : dTup as L S = (as L S).bind fun xs S1 => if xs.length ≤ big then .ok (.tup xs) S1 else .bad := rfl
theorem ap_dLst : dLst as L S = (as L S).bind fun xs S1 => if xs.length ≤ big then .ok (.lst xs) S1 else .bad := rfl
theorem ap_dNewL : dNewL as L S = (as L S).bind fun xs S1 => if xs.length ≤ big then .ok (.ref S1.length) (S1 ++ [.lst xs]) else .bad := rfl
theorem ap_dAndV : dAndV a b L S = (a L S).bind fun x S1 => match x with | .bl c => if c then b L S1 else .ok (.bl false) S1 | _ => .bad := rfl
theorem ap_dOrV : dOrV a b L S = (a L S).bind fun x S1 => match x with | .bl c => if c then .ok (.bl true) S1 else b L S1 | _ => .bad := rfl
theorem ap_dIfE : dIfE t a b L S = (t L S).bind fun c S1 => if c then a L S1 else b L S1 := rfl
theorem ap_dTold {nm : Nat → Option D} : dTold nm a L S = (match a L S with | .ok v S1 => .ok v S1 | .exc c S1 => (match nm c with | some d => .ok d S1 | none => .bad) | .bad => .bad) := rfl
theorem ap_dApp : dApp a b L S = (a L S).bind fun x S1 => match x with
  | .ref i => match S1[i]? with
    | some (.lst _) => (b L S1).bind fun v S2 => match S2[i]? with
      | some (.lst ys) => if ys.length < big then .ok .non (S2.set i (.lst (ys ++ [v]))) else .bad
      | _ => .bad
    | _ => .bad
  | _ => .bad := rfl
theorem ap_bind_ok {α β : Type} {x : α} {f : α → Hs → Out β} : (Out.ok x S).bind f = f x S := rfl
theorem ap_toS_ok {α : Type} {x : α} {f : α → Hs → OutS} : (Out.ok x S).toS f = f x S := rfl
theorem ap_some {α : Type} {x : α} : ofOpt (some x) S = .ok x S := rfl
end
theorem lc_pure {all : List D} {tg : Tg} {te : DE} {L : Lc} {P : D → Prop} {S : Hs} : ∀ xs : List D, (∀ x ∈ xs, ∃ L1 y, bindTg tg x L = some L1 ∧ te L1 S = .ok y S ∧ P y) → ∃ ys, lcGo none all tg tYes te L xs S = .ok ys S ∧ ys.length = xs.length ∧ ∀ y ∈ ys, P y
  | [], _ => ⟨[], rfl, rfl, by simp⟩
  | x :: r, h => by
    obtain ⟨L1, y, h1, h2, h3⟩ := h x List.mem_cons_self
    obtain ⟨ys, e, hl, hp⟩ := lc_pure (all := all) r fun z hz => h z (List.mem_cons_of_mem _ hz)
    refine ⟨y :: ys, ?_, by simp [hl], fun z hz => (List.mem_cons.mp hz).elim (fun e => e ▸ h3) (hp z)⟩
    unfold lcGo
    simp only [srcOk, if_true, h1, tYes, Out.bind, h2, e]
theorem range_mem {n : Nat} {x : D} (h : x ∈ rangeD 0 n) : ∃ j : Nat, x = .int j ∧ j < n := by
  unfold rangeD at h
  obtain ⟨j, hj, e⟩ := List.mem_map.mp h
  exact ⟨j, by rw [← e]; simp, List.mem_range.mp hj⟩
end G

namespace K10
open PySem L2 L2H HotX PyProof.Rows G
def top (i : Nat) : Stmt := PySem.Challenge.pw_grovelocks_k10_things.main.body.getD i (.Pass ⟨0, 0, 0, 0⟩)
abbrev s__law_drawn : Stmt := top 21
abbrev s__law_none : Stmt := top 25
abbrev s__law_cell : Stmt := top 20
abbrev s__law_thing : Stmt := top 24
abbrev s_above : Stmt := top 15
abbrev s_is_below : Stmt := top 16
abbrev s_need : Stmt := top 11
abbrev s_is_word : Stmt := top 12
abbrev s_need_name : Stmt := top 14
abbrev s_need_thing : Stmt := top 13
abbrev s_written_thing : Stmt := top 17
abbrev s_read_thing : Stmt := top 18
abbrev s_law : Stmt := top 26
abbrev s__law_word : Stmt := top 22
abbrev s__law_told : Stmt := top 23
def nmE : Nat → Option D
  | 0 => some (.tup [.str [114, 101, 102, 117, 115, 101, 100], .str [66, 97, 100, 84, 104, 105, 110, 103]])
  | 1 => some (.tup [.str [114, 101, 102, 117, 115, 101, 100], .str [66, 97, 100, 76, 111, 99, 107]])
  | 2 => some (.tup [.str [114, 101, 102, 117, 115, 101, 100], .str [66, 97, 100, 65, 115, 107]])
  | 3 => some (.tup [.str [114, 101, 102, 117, 115, 101, 100], .str [66, 97, 100, 67, 111, 117, 110, 116]])
  | 4 => some (.tup [.str [114, 101, 102, 117, 115, 101, 100], .str [66, 97, 100, 69, 114, 114, 97, 110, 100]])
  | _ => none
def b__law_drawn_0 : DS := sRet (dOp2 vMod (dVar 2) (dC (.int 340282366920938463463374607431768211507)))
def b__law_drawn_1 : DS := sSeq (sAsg 2 (dOp2 vMul (dOp2 vMul (dOp2 vAdd (dOp2 vMod (dVar 2) (dC (.int 18446744073709551557))) (dC (.int 1))) (dOp2 vAdd (dOp2 vFdiv (dVar 2) (dC (.int 18446744073709551557))) (dC (.int 1)))) (dVar 2))) b__law_drawn_0
def b__law_drawn_2 : DS := sSeq (sAsg 2 (dOp2 vMod (dOp2 vMul (dVar 2) (dVar 2)) (dC (.int 340282366920938463463374607431768211297)))) b__law_drawn_1
def b__law_drawn_3 : DS := sSeq (sAsg 2 (dOp2 vMod (dOp2 vAdd (dOp2 vMul (dVar 0) (dC (.int 6364136223846793005))) (dOp2 vMul (dOp2 vAdd (dVar 1) (dC (.int 1))) (dC (.int 1442695040888963407)))) (dC (.int 340282366920938463463374607431768211507)))) b__law_drawn_2
def m__law_drawn : DF := mDef 2 3 b__law_drawn_3
def b__law_none_0 : DS := sRet (dOp2 vIx (dVar 1) (dOp2 vMod (dVar 0) (dFn vLen (aCons (dVar 1) (aNil)))))
def b__law_none_1 : DS := sSeq (sAsg 1 (dOp2 vAdd (dVar 1) (dLst (aCons (dTup (aCons (dC (.str [97, 47])) (aNil))) (aCons (dTup (aCons (dTup (aCons (dC (.str [97])) (aNil))) (aNil))) (aCons (dTup (aCons (dC (.str [97, 49])) (aNil))) (aCons (dC (.dct [])) (aCons (dC (.int 5)) (aCons (dTup (aCons (dC (.str [10])) (aNil))) (aNil)))))))))) b__law_none_0
def b__law_none_2 : DS := sSeq (sAsg 1 (dLst (aCons (dC .non) (aCons (dC (.str [97])) (aCons (dLst (aCons (dC (.str [97])) (aNil))) (aCons (dTup (aCons (dC (.str [65])) (aNil))) (aCons (dTup (aCons (dC (.str [])) (aNil))) (aCons (dTup (aCons (dC (.str [97, 98, 99, 100, 101, 102, 103])) (aNil))) (aCons (dTup (aCons (dC (.str [97])) (aCons (dC (.str [98])) (aCons (dC (.str [99])) (aCons (dC (.str [100])) (aCons (dC (.str [101])) (aNil))))))) (aCons (dTup (aCons (dC (.int 1)) (aNil))) (aCons (dTup (aCons (dC (.str [97])) (aCons (dC .non) (aNil)))) (aCons (dTup (aCons (dC (.str [97, 32, 98])) (aNil))) (aNil))))))))))))) b__law_none_1
def m__law_none : DF := mDef 1 2 b__law_none_2
def b__law_cell_0 : DS := sRet (dOp2 vMul (dVar 1) (dC (.int 7919)))
def b__law_cell_1 : DS := sRet (dOp2 vAdd (dOp2 vIx (dVar 0) (dOp2 vMod (dVar 1) (dFn vLen (aCons (dVar 0) (aNil))))) (dOp2 vMul (dOp2 vFdiv (dVar 1) (dFn vLen (aCons (dVar 0) (aNil)))) (dC (.int 104729))))
def b__law_cell_2 : DS := sSeq (sIf (dT (dOp2 vEq (dVar 0) (dLst (aNil)))) (b__law_cell_0) (sNext)) b__law_cell_1
def m__law_cell : DF := mDef 2 2 b__law_cell_2
def b__law_thing_0 : DS := sRet (dFn vTuple (aCons (dLc (iRange1 (dOp2 vMod (dVar 0) (dOp2 vAdd (dVar 1) (dC (.int 1))))) [2] (.one 2) (tYes) (dOp2 vIx (dLst (aCons (dC (.str [97])) (aCons (dC (.str [98])) (aCons (dC (.str [99, 99])) (aNil))))) (dOp2 vMod (dCall m__law_drawn (aCons (dVar 0) (aCons (dVar 2) (aNil)))) (dC (.int 3))))) (aNil)))
def m__law_thing : DF := mDef 2 3 b__law_thing_0
def b_above_0 : DS := sRet (dLc (iRange1 (dFn vLen (aCons (dVar 0) (aNil)))) [1] (.one 1) (tYes) (dSlice vSl (dVar 0) oNone (oSome (dVar 1))))
def m_above : DF := mDef 1 2 b_above_0
def b_is_below_0 : DS := sRet (dAndV (dOp2 vGt (dFn vLen (aCons (dVar 0) (aNil))) (dFn vLen (aCons (dVar 1) (aNil)))) (dOp2 vEq (dSlice vSl (dVar 0) oNone (oSome (dFn vLen (aCons (dVar 1) (aNil))))) (dVar 1)))
def m_is_below : DF := mDef 2 2 b_is_below_0
def b_need_0 : DS := sIf (dTnot (dT (dVar 0))) ((sRaise 0)) (sNext)
def m_need : DF := mDef 1 1 b_need_0
def b_is_word_0 : DS := sRet (dAndV (dOp1 vIsStr (dVar 0)) (dAndV (dChain vLe vLe (dC (.int 1)) (dFn vLen (aCons (dVar 0) (aNil))) (dC (.int 6))) (dFn vAll (aCons (dLc (iAny (dVar 0)) [1] (.one 1) (tYes) (dOp2 vIn (dVar 1) (dC (.str [97, 98, 99, 100, 101, 102, 103, 104, 105, 106, 107, 108, 109, 110, 111, 112, 113, 114, 115, 116, 117, 118, 119, 120, 121, 122])))) (aNil)))))
def m_is_word : DF := mDef 1 2 b_is_word_0
def b_need_name_0 : DS := sExpr (dCall m_need (aCons (dCall m_is_word (aCons (dVar 0) (aNil))) (aNil)))
def m_need_name : DF := mDef 1 1 b_need_name_0
def b_need_thing_0 : DS := sExpr (dCall m_need (aCons (dAndV (dOp1 vIsTup (dVar 0)) (dAndV (dOp2 vLe (dFn vLen (aCons (dVar 0) (aNil))) (dC (.int 4))) (dFn vAll (aCons (dLc (iAny (dVar 0)) [1] (.one 1) (tYes) (dCall m_is_word (aCons (dVar 1) (aNil)))) (aNil))))) (aNil)))
def m_need_thing : DF := mDef 1 2 b_need_thing_0
def b_written_thing_0 : DS := sRet (dOp2 vAdd (dC (.str [47])) (dJoin (dC (.str [47])) (dVar 0)))
def b_written_thing_1 : DS := sSeq (sExpr (dCall m_need_thing (aCons (dVar 0) (aNil)))) b_written_thing_0
def m_written_thing : DF := mDef 1 1 b_written_thing_1
def b_read_thing_0 : DS := sSeq (sExpr (dCall m_need_thing (aCons (dVar 1) (aNil)))) (sRet (dVar 1))
def b_read_thing_1 : DS := sSeq (sAsg 1 (dIfE (dT (dOp2 vNe (dVar 0) (dC (.str [47])))) (dFn vTuple (aCons (dSplit (dSlice vSl (dVar 0) (oSome (dC (.int 1))) oNone) (dC (.str [47]))) (aNil))) (dTup (aNil)))) b_read_thing_0
def b_read_thing_2 : DS := sSeq (sExpr (dCall m_need (aCons (dAndV (dOp1 vIsStr (dVar 0)) (dOp2 vEq (dSlice vSl (dVar 0) oNone (oSome (dC (.int 1)))) (dC (.str [47])))) (aNil)))) b_read_thing_1
def m_read_thing : DF := mDef 1 2 b_read_thing_2
def b_law_0 : DS := sAsg 4 (dSlice vSl (dVar 3) oNone (oSome (dOp2 vMod (dOp2 vFdiv (dVar 2) (dC (.int 4))) (dC (.int 5)))))
def b_law_1 : DS := sIf (dT (dOp2 vNe (dTold nmE (dCall m_need_name (aCons (dVar 9) (aNil)))) (dTup (aCons (dC (.str [114, 101, 102, 117, 115, 101, 100])) (aCons (dC (.str [66, 97, 100, 84, 104, 105, 110, 103])) (aNil)))))) ((sRet (dC (.bl false)))) (sNext)
def b_law_2 : DS := sIf (dT (dOp2 vNe (dTold nmE (dCall m_read_thing (aCons (dVar 9) (aNil)))) (dTup (aCons (dC (.str [114, 101, 102, 117, 115, 101, 100])) (aCons (dC (.str [66, 97, 100, 84, 104, 105, 110, 103])) (aNil)))))) ((sRet (dC (.bl false)))) (sNext)
def b_law_3 : DS := sFor (iAny (dLst (aCons (dC (.str [])) (aCons (dC (.str [97])) (aCons (dC (.str [47, 47])) (aCons (dC (.str [47, 97, 47])) (aCons (dC (.str [97, 47, 98])) (aCons (dC (.str [47, 65])) (aCons (dC (.str [47, 97, 47, 47, 98])) (aCons (dC (.str [47, 97, 47, 98, 47, 99, 47, 100, 47, 101])) (aCons (dC .non) (aCons (dC (.str [47, 97, 98, 99, 100, 101, 102, 103])) (aCons (dC (.str [47, 97, 32, 98])) (aCons (dC (.int 5)) (aNil))))))))))))))) (.one 9) (b_law_2)
def b_law_4 : DS := sSeq (sFor (iAny (dLst (aCons (dC (.str [])) (aCons (dC (.str [65])) (aCons (dC (.str [97, 98, 99, 100, 101, 102, 103])) (aCons (dC .non) (aCons (dC (.str [97, 32, 98])) (aCons (dC (.int 5)) (aCons (dTup (aCons (dC (.str [97])) (aNil))) (aNil)))))))))) (.one 9) (b_law_1)) b_law_3
def b_law_5 : DS := sSeq (sIf (dT (dOp2 vNe (dVar 8) (dOp2 vMul (dLst (aCons (dTup (aCons (dC (.str [114, 101, 102, 117, 115, 101, 100])) (aCons (dC (.str [66, 97, 100, 84, 104, 105, 110, 103])) (aNil)))) (aNil))) (dC (.int 2))))) ((sRet (dC (.bl false)))) (sNext)) b_law_4
def b_law_6 : DS := sSeq (sExpr (dApp (dVar 8) (dTold nmE (dCall m_written_thing (aCons (dVar 7) (aNil)))))) b_law_5
def b_law_7 : DS := sSeq (sAsg 8 (dNewL (aCons (dTold nmE (dCall m_need_thing (aCons (dVar 7) (aNil)))) (aNil)))) b_law_6
def b_law_8 : DS := sSeq (sAsg 7 (dCall m__law_none (aCons (dCall m__law_drawn (aCons (dVar 2) (aCons (dC (.int 3)) (aNil)))) (aNil)))) b_law_7
def b_law_9 : DS := sSeq (sIf (dT (dOp2 vNe (dTold nmE (dCall m_read_thing (aCons (dVar 6) (aNil)))) (dVar 3))) ((sRet (dC (.bl false)))) (sNext)) b_law_8
def b_law_10 : DS := sSeq (sIf (dT (dOp2 vNe (dTold nmE (dCall m_written_thing (aCons (dVar 3) (aNil)))) (dVar 6))) ((sRet (dC (.bl false)))) (sNext)) b_law_9
def b_law_11 : DS := sSeq (sAsg 6 (dOp2 vAdd (dC (.str [47])) (dJoin (dC (.str [47])) (dVar 3)))) b_law_10
def b_law_12 : DS := sSeq (sIf (dT (dOp2 vNe (dCall m_is_below (aCons (dVar 3) (aCons (dVar 4) (aNil)))) (dAndV (dOp2 vGt (dFn vLen (aCons (dVar 3) (aNil))) (dFn vLen (aCons (dVar 4) (aNil)))) (dOp2 vEq (dSlice vSl (dFn vList (aCons (dVar 3) (aNil))) oNone (oSome (dFn vLen (aCons (dVar 4) (aNil))))) (dFn vList (aCons (dVar 4) (aNil))))))) ((sRet (dC (.bl false)))) (sNext)) b_law_11
def b_law_13 : DS := sSeq (sIf (dT (dOp2 vNe (dCall m_above (aCons (dVar 3) (aNil))) (dLc (iRange1 (dFn vLen (aCons (dVar 3) (aNil)))) [10] (.one 10) (tYes) (dSlice vSl (dVar 3) oNone (oSome (dVar 10)))))) ((sRet (dC (.bl false)))) (sNext)) b_law_12
def b_law_14 : DS := sSeq (sIf (dTor (dT (dOp1 vNotN (dTold nmE (dCall m_need_thing (aCons (dVar 3) (aNil)))))) (dT (dOp1 vNotN (dCall m_need_name (aCons (dVar 5) (aNil)))))) ((sRet (dC (.bl false)))) (sNext)) b_law_13
def b_law_15 : DS := sSeq (sAsg 5 (dSlice vSl (dC (.str [97, 98, 99, 100, 101, 102])) oNone (oSome (dOp2 vAdd (dC (.int 1)) (dOp2 vMod (dVar 2) (dC (.int 6))))))) b_law_14
def b_law_16 : DS := sSeq (sIf (dT (dOp2 vEq (dOp2 vMod (dVar 2) (dC (.int 3))) (dC (.int 0)))) (b_law_0) (sNext)) b_law_15
def b_law_17 : DS := sSeq (sAsgT [3, 4] (dTup (aCons (dCall m__law_thing (aCons (dCall m__law_drawn (aCons (dVar 2) (aCons (dC (.int 1)) (aNil)))) (aCons (dC (.int 4)) (aNil)))) (aCons (dCall m__law_thing (aCons (dCall m__law_drawn (aCons (dVar 2) (aCons (dC (.int 2)) (aNil)))) (aCons (dC (.int 4)) (aNil)))) (aNil))))) b_law_16
def b_law_18 : DS := sSeq (sAsg 2 (dCall m__law_drawn (aCons (dCall m__law_cell (aCons (dVar 0) (aCons (dVar 1) (aNil)))) (aCons (dVar 1) (aNil))))) b_law_17
def b_law_19 : DS := sSeq (sFor (iRange1 (dFn vMax2 (aCons (dC (.int 1)) (aCons (dFn vMin2 (aCons (dC (.int 5)) (aCons (dFn vLen (aCons (dVar 0) (aNil))) (aNil)))) (aNil))))) (.one 1) (b_law_18)) (sRet (dC (.bl true)))
def m_law : DF := mDef 1 11 b_law_19
structure Ad where
  f__law_drawn : Addr
  d__law_drawn : FuncData
  f__law_none : Addr
  d__law_none : FuncData
  f__law_cell : Addr
  d__law_cell : FuncData
  f__law_thing : Addr
  d__law_thing : FuncData
  f_above : Addr
  d_above : FuncData
  f_is_below : Addr
  d_is_below : FuncData
  f_need : Addr
  d_need : FuncData
  f_is_word : Addr
  d_is_word : FuncData
  f_need_name : Addr
  d_need_name : FuncData
  f_need_thing : Addr
  d_need_thing : FuncData
  f_written_thing : Addr
  d_written_thing : FuncData
  f_read_thing : Addr
  d_read_thing : FuncData
  f_law : Addr
  d_law : FuncData
  f__law_word : Addr
  d__law_word : FuncData
  f__law_told : Addr
  d__law_told : FuncData
  c_law : Addr
  P_law : Addr
  x_BadThing : Addr
  x_BadLock : Addr
  x_BadAsk : Addr
  x_BadCount : Addr
  x_BadErrand : Addr
  x_GroveError : Addr
  cd_told : Value
def xA0 (A : Ad) : Nat → Addr
  | 0 => A.x_BadThing
  | 1 => A.x_BadLock
  | 2 => A.x_BadAsk
  | 3 => A.x_BadCount
  | 4 => A.x_BadErrand
  | _ => 0
def T0 (A : Ad) : List (Addr × Str) := [(A.P_law, (("law" : Str) ++ ".<locals>.") ++ "<lambda>")]
abbrev Γ0 (P : Program) (w : World) (K : PySem.W.Frag) (A : Ad) : G.Ctx := ⟨K, P, w, fun _ => 0, xA0 A, T0 A⟩
structure Tx (P : Program) (w : World) (K : PySem.W.Frag) (mg : Str → Option Value) (A : Ad) : Prop where
  _law_drawn : Df K mg "_law_drawn" s__law_drawn A.f__law_drawn A.d__law_drawn ["cell", "k"]
  _law_none : Df K mg "_law_none" s__law_none A.f__law_none A.d__law_none ["more"]
  _law_cell : Df K mg "_law_cell" s__law_cell A.f__law_cell A.d__law_cell ["script", "k"]
  _law_thing : Df K mg "_law_thing" s__law_thing A.f__law_thing A.d__law_thing ["more", "deep"]
  above : Df K mg "above" s_above A.f_above A.d_above ["thing"]
  is_below : Df K mg "is_below" s_is_below A.f_is_below A.d_is_below ["thing", "other"]
  need : Df K mg "need" s_need A.f_need A.d_need ["good"]
  is_word : Df K mg "is_word" s_is_word A.f_is_word A.d_is_word ["thing"]
  need_name : Df K mg "need_name" s_need_name A.f_need_name A.d_need_name ["name"]
  need_thing : Df K mg "need_thing" s_need_thing A.f_need_thing A.d_need_thing ["thing"]
  written_thing : Df K mg "written_thing" s_written_thing A.f_written_thing A.d_written_thing ["thing"]
  read_thing : Df K mg "read_thing" s_read_thing A.f_read_thing A.d_read_thing ["text"]
  law : Df K mg "law" s_law A.f_law A.d_law ["script"]
  _law_word : Df K mg "_law_word" s__law_word A.f__law_word A.d__law_word ["e"]
  _law_told : Df K mg "_law_told" s__law_told A.f__law_told A.d__law_told ["deed"]
  L_law : ∃ oc od an osl kV doc pm ct, K.lookup A.f_law = some ⟨oc, od, .func (PySem.W.fnOf "law" "law" (defArgs s_law) (defBody s_law) (defScope s_law) .none kV doc pm an (.ref A.c_law) ct), osl⟩ ∧ A.d_law = PySem.W.fnOf "law" "law" (defArgs s_law) (defBody s_law) (defScope s_law) .none kV doc pm an (.ref A.c_law) ct
  cd_law : PySem.W.codeIn K (.ref A.c_law) "law" = true
  x_BadThing : XcOk K mg "BadThing" A.x_BadThing
  x_BadLock : XcOk K mg "BadLock" A.x_BadLock
  x_BadAsk : XcOk K mg "BadAsk" A.x_BadAsk
  x_BadCount : XcOk K mg "BadCount" A.x_BadCount
  x_BadErrand : XcOk K mg "BadErrand" A.x_BadErrand
  c_SMALL : CG (Γ0 P w K A) mg "SMALL" (.str [97, 98, 99, 100, 101, 102, 103, 104, 105, 106, 107, 108, 109, 110, 111, 112, 113, 114, 115, 116, 117, 118, 119, 120, 121, 122])
  c_MOST_WORD : CG (Γ0 P w K A) mg "MOST_WORD" (.int 6)
  c_MOST_DEEP : CG (Γ0 P w K A) mg "MOST_DEEP" (.int 4)
  z_ValueError : mg "ValueError" = none
  z_all : mg "all" = none
  z_int : mg "int" = none
  z_isinstance : mg "isinstance" = none
  z_len : mg "len" = none
  z_list : mg "list" = none
  z_max : mg "max" = none
  z_min : mg "min" = none
  z_range : mg "range" = none
  z_str : mg "str" = none
  z_sum : mg "sum" = none
  z_tuple : mg "tuple" = none
  nd : ((T0 A).map (·.1)).Nodup
  gGE : mg "GroveError" = some (.ref A.x_GroveError)
  Lt : ∃ oc od pg dV kV doc pm an ct osl, K.lookup A.f__law_told = some ⟨oc, od, .func (PySem.W.fnOf "_law_told" "_law_told" pg (defBody s__law_told) (defScope s__law_told) dV kV doc pm an A.cd_told ct), osl⟩ ∧ L2.Binds K (PySem.W.fnOf "_law_told" "_law_told" pg (defBody s__law_told) (defScope s__law_told) dV kV doc pm an A.cd_told ct) ["deed"] []
  cdt : PySem.W.codeIn K A.cd_told "_law_told" = true
  em_BadThing : PySem.W.exmOne K (.ref A.x_BadThing) (.ref A.x_GroveError) = some true
  ec_BadThing : ExcC K A.x_BadThing
  ki_BadThing_BadThing : PySem.W.kitOne K (.ref A.x_BadThing) (.ref A.x_BadThing) = some true
  ki_BadThing_BadLock : PySem.W.kitOne K (.ref A.x_BadThing) (.ref A.x_BadLock) = some false
  ki_BadThing_BadAsk : PySem.W.kitOne K (.ref A.x_BadThing) (.ref A.x_BadAsk) = some false
  ki_BadThing_BadCount : PySem.W.kitOne K (.ref A.x_BadThing) (.ref A.x_BadCount) = some false
  ki_BadThing_BadErrand : PySem.W.kitOne K (.ref A.x_BadThing) (.ref A.x_BadErrand) = some false
  kv_BadThing : PySem.W.kitOne K (.ref A.x_BadThing) (.type "ValueError") = some true
  em_BadLock : PySem.W.exmOne K (.ref A.x_BadLock) (.ref A.x_GroveError) = some true
  ec_BadLock : ExcC K A.x_BadLock
  ki_BadLock_BadThing : PySem.W.kitOne K (.ref A.x_BadLock) (.ref A.x_BadThing) = some false
  ki_BadLock_BadLock : PySem.W.kitOne K (.ref A.x_BadLock) (.ref A.x_BadLock) = some true
  ki_BadLock_BadAsk : PySem.W.kitOne K (.ref A.x_BadLock) (.ref A.x_BadAsk) = some false
  ki_BadLock_BadCount : PySem.W.kitOne K (.ref A.x_BadLock) (.ref A.x_BadCount) = some false
  ki_BadLock_BadErrand : PySem.W.kitOne K (.ref A.x_BadLock) (.ref A.x_BadErrand) = some false
  kv_BadLock : PySem.W.kitOne K (.ref A.x_BadLock) (.type "ValueError") = some true
  em_BadAsk : PySem.W.exmOne K (.ref A.x_BadAsk) (.ref A.x_GroveError) = some true
  ec_BadAsk : ExcC K A.x_BadAsk
  ki_BadAsk_BadThing : PySem.W.kitOne K (.ref A.x_BadAsk) (.ref A.x_BadThing) = some false
  ki_BadAsk_BadLock : PySem.W.kitOne K (.ref A.x_BadAsk) (.ref A.x_BadLock) = some false
  ki_BadAsk_BadAsk : PySem.W.kitOne K (.ref A.x_BadAsk) (.ref A.x_BadAsk) = some true
  ki_BadAsk_BadCount : PySem.W.kitOne K (.ref A.x_BadAsk) (.ref A.x_BadCount) = some false
  ki_BadAsk_BadErrand : PySem.W.kitOne K (.ref A.x_BadAsk) (.ref A.x_BadErrand) = some false
  kv_BadAsk : PySem.W.kitOne K (.ref A.x_BadAsk) (.type "ValueError") = some true
  em_BadCount : PySem.W.exmOne K (.ref A.x_BadCount) (.ref A.x_GroveError) = some true
  ec_BadCount : ExcC K A.x_BadCount
  ki_BadCount_BadThing : PySem.W.kitOne K (.ref A.x_BadCount) (.ref A.x_BadThing) = some false
  ki_BadCount_BadLock : PySem.W.kitOne K (.ref A.x_BadCount) (.ref A.x_BadLock) = some false
  ki_BadCount_BadAsk : PySem.W.kitOne K (.ref A.x_BadCount) (.ref A.x_BadAsk) = some false
  ki_BadCount_BadCount : PySem.W.kitOne K (.ref A.x_BadCount) (.ref A.x_BadCount) = some true
  ki_BadCount_BadErrand : PySem.W.kitOne K (.ref A.x_BadCount) (.ref A.x_BadErrand) = some false
  kv_BadCount : PySem.W.kitOne K (.ref A.x_BadCount) (.type "ValueError") = some true
  em_BadErrand : PySem.W.exmOne K (.ref A.x_BadErrand) (.ref A.x_GroveError) = some true
  ec_BadErrand : ExcC K A.x_BadErrand
  ki_BadErrand_BadThing : PySem.W.kitOne K (.ref A.x_BadErrand) (.ref A.x_BadThing) = some false
  ki_BadErrand_BadLock : PySem.W.kitOne K (.ref A.x_BadErrand) (.ref A.x_BadLock) = some false
  ki_BadErrand_BadAsk : PySem.W.kitOne K (.ref A.x_BadErrand) (.ref A.x_BadAsk) = some false
  ki_BadErrand_BadCount : PySem.W.kitOne K (.ref A.x_BadErrand) (.ref A.x_BadCount) = some false
  ki_BadErrand_BadErrand : PySem.W.kitOne K (.ref A.x_BadErrand) (.ref A.x_BadErrand) = some true
  kv_BadErrand : PySem.W.kitOne K (.ref A.x_BadErrand) (.type "ValueError") = some true
structure Tb (base : Heap) (mg : Str → Option Value) (A : Ad) : Prop where
  law : LamX.TabB base mg A.c_law A.P_law
section
variable {P : Program} {w : World} {K : PySem.W.Frag} {mg : Str → Option Value} {base : Heap} {A : Ad}
theorem sc__law_word : FnScope ["e", "flags", "flag"] ["e"] (defScope s__law_word) := ⟨rfl, rfl, rfl, by decide +kernel, rfl, by decide +kernel, by decide +kernel⟩
theorem word_is {X : Cx} {y : Str} {C Cy a : Addr} {oe : Obj} {p1 p2 p3 pos : Pos} (C0 : ExcC X.K C) (hp : (a, oe) ∈ X.pn) (hz : Zc (.ref C) none oe) (hf : ∃ vs, oe.data = .fields vs) (hN : X.N[0]? = some ("e" : Str)) (hv : Vis X.env.scope "e") (hg : Gl X "isinstance") (hm : X.mg "isinstance" = none) (hgy : Gl X y) (hmy : X.mg y = some (.ref Cy)) (hd : (y == ("__debug__" : Str)) = false)
    (he : starEach (.Name "e" p2 :: [.Name y p3]) X.env = (false, eval (.Name "e" p2) X.env) :: starEach [.Name y p3] X.env) (hpl : (backTo pos (starEach [.Name y p3] X.env)).any (·.1) = false) (h2 : starEach ((.Name y p3) :: []) X.env = (false, eval (.Name y p3) X.env) :: starEach [] X.env) {b : Bool} (hb : PySem.W.kitOne X.K (.ref C) (.ref Cy) = some b) :
    PE X (.Call (.Name "isinstance" p1) [.Name "e" p2, .Name y p3] [] pos) (fun σ H Q => σ[0]? = some (some (.ref a)) ∧ Q (.bl b) H) :=
  ⟨fun pins s σ H Q I h => (pe_callB (cr_isE C0 hp hz hf) hg hm rfl (pa2 (pe_var (i := 0) hN hv) (pe_glob (v := .ref Cy) hgy hmy rfl hd) he h2) (by decide) (by decide) he hpl).run pins s σ H Q I ⟨_, h.1, .ref Cy, .ref Cy, b, rfl, fun u r => r, hb, h.2⟩⟩
theorem word_isV {X : Cx} {C a : Addr} {oe : Obj} {p1 p2 p3 pos : Pos} (C0 : ExcC X.K C) (hp : (a, oe) ∈ X.pn) (hz : Zc (.ref C) none oe) (hf : ∃ vs, oe.data = .fields vs) (hN : X.N[0]? = some ("e" : Str)) (hv : Vis X.env.scope "e") (hg : Gl X "isinstance") (hm : X.mg "isinstance" = none) (hgy : Gl X "ValueError") (hmy : X.mg "ValueError" = none)
    (he : starEach (.Name "e" p2 :: [.Name "ValueError" p3]) X.env = (false, eval (.Name "e" p2) X.env) :: starEach [.Name "ValueError" p3] X.env) (hpl : (backTo pos (starEach [.Name "ValueError" p3] X.env)).any (·.1) = false) (h2 : starEach ((.Name "ValueError" p3) :: []) X.env = (false, eval (.Name "ValueError" p3) X.env) :: starEach [] X.env) {b : Bool} (hb : PySem.W.kitOne X.K (.ref C) (.type "ValueError") = some b) :
    PE X (.Call (.Name "isinstance" p1) [.Name "e" p2, .Name "ValueError" p3] [] pos) (fun σ H Q => σ[0]? = some (some (.ref a)) ∧ Q (.bl b) H) :=
  ⟨fun pins s σ H Q I h => (pe_callB (cr_isE C0 hp hz hf) hg hm rfl (pa2 (pe_var (i := 0) hN hv) (pe_bltn (v := .ty "ValueError") hgy hmy rfl rfl (by decide) (by decide)) he h2) (by decide) (by decide) he hpl).run pins s σ H Q I ⟨_, h.1, .ty "ValueError", .type "ValueError", b, rfl, fun u r => r, hb, h.2⟩⟩
theorem word_run (T : Tx P w K mg A) {C : Addr} {b0 b1 b2 b3 b4 : Bool} {j : Nat} {nm : List Nat} (C0 : ExcC K C) (k0 : PySem.W.kitOne K (.ref C) (.ref A.x_BadAsk) = some b0) (k1 : PySem.W.kitOne K (.ref C) (.ref A.x_BadCount) = some b1) (k2 : PySem.W.kitOne K (.ref C) (.ref A.x_BadErrand) = some b2) (k3 : PySem.W.kitOne K (.ref C) (.ref A.x_BadLock) = some b3)
    (k4 : PySem.W.kitOne K (.ref C) (.ref A.x_BadThing) = some b4) (kv : PySem.W.kitOne K (.ref C) (.type "ValueError") = some true) {cdv : Value} {A1 : Around} {outer : List Env} {s : Shared} {g : Wd} {Q : VK} {p : Addr × Obj} (hot : Hot1 A1 p) (hz : Zc (.ref C) none p.2) (hf : ∃ vs, p.2.data = .fields vs) (sim : Sim (Γ0 P w K A) g)
    (hs : ([b0, b1, b2, b3, b4].map fun k : Bool => (if k = true then 1 else 0 : Int)).sum = 1) (hj : [b0, b1, b2, b3, b4][j]? = some true) (hno : ∀ m : Nat, m < j → [b0, b1, b2, b3, b4][m]? = some false) (hnm : (([[66, 97, 100, 65, 115, 107], [66, 97, 100, 67, 111, 117, 110, 116], [66, 97, 100, 69, 114, 114, 97, 110, 100], [66, 97, 100, 76, 111, 99, 107], [66, 97, 100, 84, 104, 105, 110, 103]] : List (List Nat))[j]?) = some nm) (ho : okS nm = true)
    (fin : Fin1 (Γ0 P w K A) g (.tup [.str [114, 101, 102, 117, 115, 101, 100], .str nm]) Q) :
    ∃ t, PSs (cxH CX0 P w K mg base ["e", "flags", "flag"] "_law_word" (defScope s__law_word) A.f__law_word cdv A1 outer s g.H E0 p).nox (defBody s__law_word) t ∧ t { nx := fun _ H' => Q .non H', rt := Q } (L2.start ["e", "flags", "flag"] [.ref p.1]) g.H := by
  have hotc : HotC (cxH CX0 P w K mg base ["e", "flags", "flag"] "_law_word" (defScope s__law_word) A.f__law_word cdv A1 outer s g.H E0 p).nox := ⟨p, hot, List.mem_singleton.mpr rfl⟩
  have mem : p ∈ (cxH CX0 P w K mg base ["e", "flags", "flag"] "_law_word" (defScope s__law_word) A.f__law_word cdv A1 outer s g.H E0 p).nox.pn := List.mem_singleton.mpr rfl
  refine ⟨_, pss_cons (ps_set (i := 1) sc__law_word.nd rfl (Or.inl rfl) (pe_lst (pa_cons (word_is (y := "BadAsk") C0 mem hz hf rfl (Or.inl rfl) rfl T.z_isinstance rfl T.x_BadAsk.g (by decide) rfl rfl rfl k0) (pa_cons (word_is (y := "BadCount") C0 mem hz hf rfl (Or.inl rfl) rfl T.z_isinstance rfl T.x_BadCount.g (by decide) rfl rfl rfl k1) (pa_cons (word_is (y := "BadErrand") C0 mem hz hf rfl (Or.inl rfl) rfl T.z_isinstance rfl T.x_BadErrand.g (by decide) rfl rfl rfl k2) (pa_cons (word_is (y := "BadLock") C0 mem hz hf rfl (Or.inl rfl) rfl T.z_isinstance rfl T.x_BadLock.g (by decide) rfl rfl rfl k3) pa_nil))))))
    (pss_cons (ps_set (i := 1) sc__law_word.nd rfl (Or.inl rfl) (pe_op op_cat (pv 1) (pe_lst (pa_cons (word_is (y := "BadThing") C0 mem hz hf rfl (Or.inl rfl) rfl T.z_isinstance rfl T.x_BadThing.g (by decide) rfl rfl rfl k4) pa_nil))))
    (pss_cons (ps_if (PW.pt (pw_or (pt_cmpR op_ne (pe_callB (cr_sum_hot hotc) rfl T.z_sum rfl (pa_cons (pe_lc_hot hotc sc__law_word.nd (pv 1) (blkOk_by (own := [("flag", 2)]) (by kernel_rfl)) (fun _ _ _ _ _ => pg_name (i := 2) sc__law_word.nd rfl (Or.inl rfl)) (fun _ _ _ _ _ => pe_callTy call_int1 rfl T.z_int rfl (pa_cons (pv 2) pa_nil))) pa_nil)) pe_int (nomark _)) (pw_or1 (pt_not (pt_val (word_isV C0 mem hz hf rfl (Or.inl rfl) rfl T.z_isinstance rfl T.z_ValueError rfl rfl rfl kv))))))
      (pss_one (ps_ret (pe_tup (pa_cons pe_str (pa_cons pe_str pa_nil))))) pss_nil)
    (pss_one (ps_ret (pe_tup (pa_cons pe_str (pa_cons (pe_ix ix_list (pe_lst (pa_cons pe_str (pa_cons pe_str (pa_cons pe_str (pa_cons pe_str (pa_cons pe_str pa_nil)))))) (pe_bm PySem.F.plainAttrs_list PySem.F.slot_list_index PySem.F.type_list_index mt_index (pv 1) (pa_cons pe_bl pa_nil)) (fun _ _ => rfl)) pa_nil))))))), ?_⟩
  have hbi : ∀ {n : Nat}, n ≤ 10 → n ≤ sizeLine := fun h => by rw [sizeLine_eq]; omega
  refine ⟨rfl, rfl, rfl, rfl, hbi (by show 4 ≤ 10; decide), fun l1 h1 => ?_⟩
  refine ⟨.ref l1, rfl, rfl, hbi (by show 1 ≤ 10; decide), fun l2 h2 => ?_⟩
  have n21 : l1 ≠ l2 := ne_of_none upd_same h2
  refine ⟨l1, l2, _, _, rfl, rfl, (upd_ne n21).trans upd_same, upd_same, hbi (by show 5 ≤ 10; decide), fun l3 h3 => ?_⟩
  have s1 : Sim (Γ0 P w K A) (g.put l1 (.lst [.bl b0, .bl b1, .bl b2, .bl b3])) := sim.fresh h1 (hbi (by show 4 ≤ 10; decide)) (fun c q z => by cases z)
  have s2 := s1.fresh (u := .lst [.bl b4]) h2 (hbi (by show 1 ≤ 10; decide)) (fun c q z => by cases z)
  have s3 := s2.fresh (u := .lst [.bl b0, .bl b1, .bl b2, .bl b3, .bl b4]) h3 (hbi (by show 5 ≤ 10; decide)) (fun c q z => by cases z)
  have st3 := ((Step.fresh (u := .lst [.bl b0, .bl b1, .bl b2, .bl b3]) h1).trans (Step.fresh (u := .lst [.bl b4]) h2)).trans (Step.fresh (u := .lst [.bl b0, .bl b1, .bl b2, .bl b3, .bl b4]) h3)
  generalize hg3 : ((g.put l1 (.lst [.bl b0, .bl b1, .bl b2, .bl b3])).put l2 (.lst [.bl b4])).put l3 (.lst [.bl b0, .bl b1, .bl b2, .bl b3, .bl b4]) = g3 at s3 st3
  have eH : upd (upd (upd g.H l1 (.lst [.bl b0, .bl b1, .bl b2, .bl b3])) l2 (.lst [.bl b4])) l3 (.lst ([.bl b0, .bl b1, .bl b2, .bl b3] ++ [.bl b4])) = g3.H := by rw [← hg3]; rfl
  have hl3 : g3.H l3 = some (.lst [.bl b0, .bl b1, .bl b2, .bl b3, .bl b4]) := by rw [← eH]; exact upd_same
  show tSeq _ _ _ _ (upd (upd (upd g.H l1 (.lst [.bl b0, .bl b1, .bl b2, .bl b3])) l2 (.lst [.bl b4])) l3 (.lst ([.bl b0, .bl b1, .bl b2, .bl b3] ++ [.bl b4])))
  rw [eH]
  refine ⟨.ref l3, rfl, l3, rfl, ⟨_, SqL.of hl3⟩, fun D hD => ?_⟩
  have n3D : l3 ≠ D := ne_of_none hl3 hD
  refine lc_list (K := K) (a := l3) (xs := [.bl b0, .bl b1, .bl b2, .bl b3, .bl b4]) (fun i H => H = upd g3.H D (.lst (([b0, b1, b2, b3, b4].take i).map fun k : Bool => V.int (if k = true then 1 else 0)))) rfl (fun i H _ e => by rw [e]; exact SqL.of ((upd_ne n3D).trans hl3)) (fun i x H hi e => ?_) (fun H e => ?_)
  · subst e
    have hx : ∃ b, [b0, b1, b2, b3, b4][i]? = some b ∧ x = .bl b := by
      have e : ([V.bl b0, .bl b1, .bl b2, .bl b3, .bl b4] : List V) = [b0, b1, b2, b3, b4].map V.bl := rfl
      rw [e, List.getElem?_map] at hi
      cases q : [b0, b1, b2, b3, b4][i]? with
      | none => rw [q] at hi; cases hi
      | some b => rw [q] at hi; cases hi; exact ⟨b, rfl, rfl⟩
    obtain ⟨b, hb, rfl⟩ := hx
    refine ⟨rfl, ?_⟩
    unfold L2.tYes
    refine Eq.mpr (if_pos rfl) ?_
    refine ⟨.bl b, rfl, .inr ⟨b, rfl, _, upd_same, ?_, ?_⟩⟩
    · have hil : i < 5 := (List.getElem?_eq_some_iff.mp hb).1
      rw [List.length_map, List.length_take]
      rw [sizeLine_eq]; omega
    · rw [upd_upd, List.take_add_one, hb, List.map_append]
      rfl
  · subst e
    rw [List.take_of_length_le (by show 5 ≤ 5; decide)]
    have s4 : Sim (Γ0 P w K A) (g3.put D (.lst ([b0, b1, b2, b3, b4].map fun k : Bool => V.int (if k = true then 1 else 0)))) := s3.fresh hD (hbi (by show 5 ≤ 10; decide)) (fun c q z => by cases z)
    have st4 := st3.trans (Step.fresh (u := .lst ([b0, b1, b2, b3, b4].map fun k : Bool => V.int (if k = true then 1 else 0))) hD)
    generalize hg4 : g3.put D (.lst ([b0, b1, b2, b3, b4].map fun k : Bool => V.int (if k = true then 1 else 0))) = g4 at s4 st4
    have eH4 : upd g3.H D (.lst ([b0, b1, b2, b3, b4].map fun k : Bool => V.int (if k = true then 1 else 0))) = g4.H := by rw [← hg4]; rfl
    have hl4 : g4.H l3 = some (.lst [.bl b0, .bl b1, .bl b2, .bl b3, .bl b4]) := by rw [← eH4]; exact (upd_ne n3D).trans hl3
    refine ⟨D, [b0, b1, b2, b3, b4].map fun k : Bool => (if k = true then 1 else 0 : Int), rfl, SqL.of upd_same, ?_⟩
    rw [eH4, hs]
    refine ⟨rfl, _, rfl, ?_⟩
    refine Eq.mpr (if_neg (by decide)) ?_
    refine ⟨rfl, true, rfl, ?_⟩
    refine Eq.mpr (if_neg (by decide)) ?_
    unfold tNext
    refine ⟨hbi (by show 5 ≤ 10; decide), fun l5 h5 => ?_⟩
    have n35 : l3 ≠ l5 := ne_of_none hl4 h5
    refine ⟨.ref l3, rfl, .inl ⟨rfl, _, SqL.of ((upd_ne n35).trans hl4)⟩, l3, [.bl b0, .bl b1, .bl b2, .bl b3, .bl b4], .bl true, j, .bl true, rfl, rfl, SqL.of ((upd_ne n35).trans hl4), rfl, rfl, ?_, rfl, ?_, ?_⟩
    · have e : ([V.bl b0, .bl b1, .bl b2, .bl b3, .bl b4] : List V) = [b0, b1, b2, b3, b4].map V.bl := rfl
      rw [e, List.getElem?_map, hj]; rfl
    · intro m z' hm hz'
      have e : ([V.bl b0, .bl b1, .bl b2, .bl b3, .bl b4] : List V) = [b0, b1, b2, b3, b4].map V.bl := rfl
      rw [e, List.getElem?_map, hno m hm] at hz'
      cases hz'; rfl
    · have s5 := s4.fresh (u := .lst [.str (Str.ofString "BadAsk"), .str (Str.ofString "BadCount"), .str (Str.ofString "BadErrand"), .str (Str.ofString "BadLock"), .str (Str.ofString "BadThing")]) h5 (hbi (by show 5 ≤ 10; decide)) (fun c q z => by cases z)
      have st5 := st4.trans (Step.fresh (u := .lst [.str (Str.ofString "BadAsk"), .str (Str.ofString "BadCount"), .str (Str.ofString "BadErrand"), .str (Str.ofString "BadLock"), .str (Str.ofString "BadThing")]) h5)
      refine ⟨l5, _, (j : Int), .str (sOf nm), rfl, rfl, SqL.of upd_same, ?_, hbi (by show 2 ≤ 10; decide), fun l6 h6 => ?_⟩
      · have hj5 : j < 5 := (List.getElem?_eq_some_iff.mp hj).1
        have e : ([.str (Str.ofString "BadAsk"), .str (Str.ofString "BadCount"), .str (Str.ofString "BadErrand"), .str (Str.ofString "BadLock"), .str (Str.ofString "BadThing")] : List V) = ([[66, 97, 100, 65, 115, 107], [66, 97, 100, 67, 111, 117, 110, 116], [66, 97, 100, 69, 114, 114, 97, 110, 100], [66, 97, 100, 76, 111, 99, 107], [66, 97, 100, 84, 104, 105, 110, 103]] : List (List Nat)).map fun x => V.str (sOf x) := rfl
        show atI _ (j : Int) = _
        unfold atI
        have e2 : ixN 5 (j : Int) = some j := by
          unfold ixN
          have h1 : (0 : Int) ≤ (j : Int) := by omega
          have h2 : (j : Int) < ((5 : Nat) : Int) := by omega
          rw [if_pos h1, if_pos h2]; simp
        show (ixN 5 (j : Int)).bind _ = _
        rw [e2, Option.bind_some, e, List.getElem?_map, hnm]
        rfl
      · have f5 : Fin1 (Γ0 P w K A) (g4.put l5 (.lst [.str (Str.ofString "BadAsk"), .str (Str.ofString "BadCount"), .str (Str.ofString "BadErrand"), .str (Str.ofString "BadLock"), .str (Str.ofString "BadThing")])) (.tup [.str [114, 101, 102, 117, 115, 101, 100], .str nm]) Q := fun g' b e st sm r => fin g' b (e.trans (by rw [← hg4, ← hg3]; rfl)) (st5.trans st) sm r
        exact f5.tup s5 (.cons (.str [114, 101, 102, 117, 115, 101, 100] (by decide)) (.cons (.str nm ho) .nil)) (hbi (by show 2 ≤ 10; decide)) h6
theorem ok_word (T : Tx P w K mg A) : FnE P w K mg base 1 A.f__law_word A.d__law_word ["e"] (spWord (Γ0 P w K A) nmE) := by
  refine fnE_of (k := 0) T._law_word.F sc__law_word (fun p vs H Q ⟨g, k, d, _, _, e, _⟩ => by rw [e]; rfl) (fun cdv A1 outer s H vs Q p hot hr h => ?_)
  obtain ⟨g, k, d, rfl, sim, rfl, hz, hf, hn, fin⟩ := h
  match k, hz, hn with
  | 0, hz, hn => cases hn; exact word_run (j := 4) T T.ec_BadThing T.ki_BadThing_BadAsk T.ki_BadThing_BadCount T.ki_BadThing_BadErrand T.ki_BadThing_BadLock T.ki_BadThing_BadThing T.kv_BadThing hot hz hf sim (by decide) rfl (by decide) rfl (by decide) fin
  | 1, hz, hn => cases hn; exact word_run (j := 3) T T.ec_BadLock T.ki_BadLock_BadAsk T.ki_BadLock_BadCount T.ki_BadLock_BadErrand T.ki_BadLock_BadLock T.ki_BadLock_BadThing T.kv_BadLock hot hz hf sim (by decide) rfl (by decide) rfl (by decide) fin
  | 2, hz, hn => cases hn; exact word_run (j := 0) T T.ec_BadAsk T.ki_BadAsk_BadAsk T.ki_BadAsk_BadCount T.ki_BadAsk_BadErrand T.ki_BadAsk_BadLock T.ki_BadAsk_BadThing T.kv_BadAsk hot hz hf sim (by decide) rfl (by decide) rfl (by decide) fin
  | 3, hz, hn => cases hn; exact word_run (j := 1) T T.ec_BadCount T.ki_BadCount_BadAsk T.ki_BadCount_BadCount T.ki_BadCount_BadErrand T.ki_BadCount_BadLock T.ki_BadCount_BadThing T.kv_BadCount hot hz hf sim (by decide) rfl (by decide) rfl (by decide) fin
  | 4, hz, hn => cases hn; exact word_run (j := 2) T T.ec_BadErrand T.ki_BadErrand_BadAsk T.ki_BadErrand_BadCount T.ki_BadErrand_BadErrand T.ki_BadErrand_BadLock T.ki_BadErrand_BadThing T.kv_BadErrand hot hz hf sim (by decide) rfl (by decide) rfl (by decide) fin
  | n + 5, hz, hn => cases hn
theorem ok_told (T : Tx P w K mg A) : ToldOk P w K mg base (Γ0 P w K A) nmE A.f__law_told (defScope s__law_told) A.cd_told (defBody s__law_told) where
  gm := T._law_told.m
  kp := T._law_told.k
  lk := T.Lt
  cd := T.cdt
  sc := ⟨rfl, rfl, rfl, by decide +kernel, rfl, by decide +kernel, by decide +kernel⟩
  vd := rfl
  ve := rfl
  vg := rfl
  vw := rfl
  bd := ⟨_, _, _, _, _, _, _, _, _, _, rfl⟩
  ge := ⟨A.x_GroveError, T.gGE, fun k d h => match k, h with
    | 0, _ => T.em_BadThing
    | 1, _ => T.em_BadLock
    | 2, _ => T.em_BadAsk
    | 3, _ => T.em_BadCount
    | 4, _ => T.em_BadErrand
    | n + 5, h => by cases h⟩
  wd := ⟨_, _, T._law_word.m, T._law_word.k, ok_word T, T._law_word.b⟩

theorem sc__law_drawn : FnScope ["cell", "k", "more"] ["cell", "k"] (defScope s__law_drawn) := ⟨rfl, rfl, rfl, by decide +kernel, rfl, by decide +kernel, by decide +kernel⟩
theorem ok__law_drawn (T : Tx P w K mg A) (B : Tb base mg A) : FnOk P w K mg base (L2N.CX P w) 1 A.f__law_drawn A.d__law_drawn ["cell", "k"] (spD (Γ0 P w K A) m__law_drawn) := by
  exact fn_den (k := 0) T._law_drawn.F sc__law_drawn rfl (by decide) fun cdv A1 outer s H E hr tk hp =>
    (dss_cons (ds_set (i := 2) sc__law_drawn.nd rfl (by first | exact Or.inl rfl | exact Or.inr rfl) (de_op op_modD (de_op (op_addD ⟨rfl, rfl, rfl⟩) (de_op op_mulD (de_var 0) de_int) (de_op op_mulD (de_op (op_addD ⟨rfl, rfl, rfl⟩) (de_var 1) de_int) de_int)) de_int))
    (dss_cons (ds_set (i := 2) sc__law_drawn.nd rfl (by first | exact Or.inl rfl | exact Or.inr rfl) (de_op op_modD (de_op op_mulD (de_var 2) (de_var 2)) de_int))
    (dss_cons (ds_set (i := 2) sc__law_drawn.nd rfl (by first | exact Or.inl rfl | exact Or.inr rfl) (de_op op_mulD (de_op op_mulD (de_op (op_addD ⟨rfl, rfl, rfl⟩) (de_op op_modD (de_var 2) de_int) de_int) (de_op (op_addD ⟨rfl, rfl, rfl⟩) (de_op op_fdivD (de_var 2) de_int) de_int)) (de_var 2)))
    (dss_one (ds_ret (de_op op_modD (de_var 2) de_int))))))
theorem sc__law_none : FnScope ["more", "some"] ["more"] (defScope s__law_none) := ⟨rfl, rfl, rfl, by decide +kernel, rfl, by decide +kernel, by decide +kernel⟩
theorem ok__law_none (T : Tx P w K mg A) (B : Tb base mg A) : FnOk P w K mg base (L2N.CX P w) 1 A.f__law_none A.d__law_none ["more"] (spD (Γ0 P w K A) m__law_none) := by
  exact fn_den (k := 0) T._law_none.F sc__law_none rfl (by decide) fun cdv A1 outer s H E hr tk hp =>
    (dss_cons (ds_set (i := 1) sc__law_none.nd rfl (by first | exact Or.inl rfl | exact Or.inr rfl) (de_lst (da_cons de_non (da_cons (de_str (s := [97]) rfl rfl) (da_cons (de_lst (da_cons (de_str (s := [97]) rfl rfl) da_nil)) (da_cons (de_tup (da_cons (de_str (s := [65]) rfl rfl) da_nil)) (da_cons (de_tup (da_cons (de_str (s := []) rfl rfl) da_nil)) (da_cons (de_tup (da_cons (de_str (s := [97, 98, 99, 100, 101, 102, 103]) rfl rfl) da_nil)) (da_cons (de_tup (da_cons (de_str (s := [97]) rfl rfl) (da_cons (de_str (s := [98]) rfl rfl) (da_cons (de_str (s := [99]) rfl rfl) (da_cons (de_str (s := [100]) rfl rfl) (da_cons (de_str (s := [101]) rfl rfl) da_nil)))))) (da_cons (de_tup (da_cons de_int da_nil)) (da_cons (de_tup (da_cons (de_str (s := [97]) rfl rfl) (da_cons de_non da_nil))) (da_cons (de_tup (da_cons (de_str (s := [97, 32, 98]) rfl rfl) da_nil)) da_nil))))))))))))
    (dss_cons (ds_set (i := 1) sc__law_none.nd rfl (by first | exact Or.inl rfl | exact Or.inr rfl) (de_op (op_addD ⟨rfl, rfl, rfl⟩) (de_var 1) (de_lst (da_cons (de_tup (da_cons (de_str (s := [97, 47]) rfl rfl) da_nil)) (da_cons (de_tup (da_cons (de_tup (da_cons (de_str (s := [97]) rfl rfl) da_nil)) da_nil)) (da_cons (de_tup (da_cons (de_str (s := [97, 49]) rfl rfl) da_nil)) (da_cons de_dnew0 (da_cons de_int (da_cons (de_tup (da_cons (de_str (s := [10]) rfl rfl) da_nil)) da_nil)))))))))
    (dss_one (ds_ret (de_sub ⟨rfl, rfl, rfl⟩ (huR1 hr) (de_var 1) (de_op op_modD (de_var 0) (de_callB (cr_lenD ⟨rfl, rfl, rfl⟩) rfl T.z_len rfl (da_cons (de_var 1) da_nil))))))))
theorem sc__law_cell : FnScope ["script", "k"] ["script", "k"] (defScope s__law_cell) := ⟨rfl, rfl, rfl, by decide +kernel, rfl, by decide +kernel, by decide +kernel⟩
theorem ok__law_cell (T : Tx P w K mg A) (B : Tb base mg A) : FnOk P w K mg base (L2N.CX P w) 1 A.f__law_cell A.d__law_cell ["script", "k"] (spD (Γ0 P w K A) m__law_cell) := by
  exact fn_den (k := 0) T._law_cell.F sc__law_cell rfl (by decide) fun cdv A1 outer s H E hr tk hp =>
    (dss_cons (ds_if (dt_cmp (op_eqV ⟨rfl, rfl, rfl⟩ (huR4 hr)) (de_var 0) (de_lst da_nil)) (dss_one (ds_ret (de_op op_mulD (de_var 1) de_int))) dss_nil)
    (dss_one (ds_ret (de_op (op_addD ⟨rfl, rfl, rfl⟩) (de_sub ⟨rfl, rfl, rfl⟩ (huR1 hr) (de_var 0) (de_op op_modD (de_var 1) (de_callB (cr_lenD ⟨rfl, rfl, rfl⟩) rfl T.z_len rfl (da_cons (de_var 0) da_nil)))) (de_op op_mulD (de_op op_fdivD (de_var 1) (de_callB (cr_lenD ⟨rfl, rfl, rfl⟩) rfl T.z_len rfl (da_cons (de_var 0) da_nil))) de_int)))))
theorem sc__law_thing : FnScope ["more", "deep", "j"] ["more", "deep"] (defScope s__law_thing) := ⟨rfl, rfl, rfl, by decide +kernel, rfl, by decide +kernel, by decide +kernel⟩
theorem ok__law_thing (T : Tx P w K mg A) (B : Tb base mg A) : FnOk P w K mg base (L2N.CX P w) 2 A.f__law_thing A.d__law_thing ["more", "deep"] (spD (Γ0 P w K A) m__law_thing) := by
  exact fn_den (k := 1) T._law_thing.F sc__law_thing rfl (by decide) fun cdv A1 outer s H E hr tk hp =>
    (dss_one (ds_ret (de_callTy (cr_tupleD ⟨rfl, rfl, rfl⟩) rfl T.z_tuple rfl (da_cons (de_lc (own := [("j", 2)]) (t := (.one 2)) ⟨rfl, rfl, rfl⟩ rfl sc__law_thing.nd (by decide) (di_range1 rfl T.z_range (de_op op_modD (de_var 0) (de_op (op_addD ⟨rfl, rfl, rfl⟩) (de_var 1) de_int))) (blkOk_by (by kernel_rfl)) (fun _ _ _ _ _ => (pg_name (i := 2) sc__law_thing.nd rfl (by first | exact Or.inl rfl | exact Or.inr rfl))) (fun _ _ _ _ _ => dts_nil) (fun _ _ _ _ _ => (de_sub ⟨rfl, rfl, rfl⟩ (huR1 hr) (de_lst (da_cons (de_str (s := [97]) rfl rfl) (da_cons (de_str (s := [98]) rfl rfl) (da_cons (de_str (s := [99, 99]) rfl rfl) da_nil)))) (de_op op_modD (de_call (E := L2.E0) (ok__law_drawn T B) (hr.mono (by decide)) rfl T._law_drawn.m T._law_drawn.k T._law_drawn.b takesN (da_cons (de_var 0) (da_cons (de_var 2) da_nil))) de_int)))) da_nil))))
theorem sc_above : FnScope ["thing", "many"] ["thing"] (defScope s_above) := ⟨rfl, rfl, rfl, by decide +kernel, rfl, by decide +kernel, by decide +kernel⟩
theorem ok_above (T : Tx P w K mg A) (B : Tb base mg A) : FnOk P w K mg base (L2N.CX P w) 1 A.f_above A.d_above ["thing"] (spD (Γ0 P w K A) m_above) := by
  exact fn_den (k := 0) T.above.F sc_above rfl (by decide) fun cdv A1 outer s H E hr tk hp =>
    (dss_one (ds_ret (de_lc (own := [("many", 1)]) (t := (.one 1)) ⟨rfl, rfl, rfl⟩ rfl sc_above.nd (by decide) (di_range1 rfl T.z_range (de_callB (cr_lenD ⟨rfl, rfl, rfl⟩) rfl T.z_len rfl (da_cons (de_var 0) da_nil))) (blkOk_by (by kernel_rfl)) (fun _ _ _ _ _ => (pg_name (i := 1) sc_above.nd rfl (by first | exact Or.inl rfl | exact Or.inr rfl))) (fun _ _ _ _ _ => dts_nil) (fun _ _ _ _ _ => (de_slice (sl_any ⟨rfl, rfl, rfl⟩) (de_var 0) do_none (do_some (de_var 1)))))))
theorem sc_is_below : FnScope ["thing", "other"] ["thing", "other"] (defScope s_is_below) := ⟨rfl, rfl, rfl, by decide +kernel, rfl, by decide +kernel, by decide +kernel⟩
theorem ok_is_below (T : Tx P w K mg A) (B : Tb base mg A) : FnOk P w K mg base (L2N.CX P w) 1 A.f_is_below A.d_is_below ["thing", "other"] (spD (Γ0 P w K A) m_is_below) := by
  exact fn_den (k := 0) T.is_below.F sc_is_below rfl (by decide) fun cdv A1 outer s H E hr tk hp =>
    (dss_one (ds_ret (de_and (de_cmp op_gtD (de_callB (cr_lenD ⟨rfl, rfl, rfl⟩) rfl T.z_len rfl (da_cons (de_var 0) da_nil)) (de_callB (cr_lenD ⟨rfl, rfl, rfl⟩) rfl T.z_len rfl (da_cons (de_var 1) da_nil))) (de_one (de_cmp (op_eqV ⟨rfl, rfl, rfl⟩ (huR4 hr)) (de_slice (sl_any ⟨rfl, rfl, rfl⟩) (de_var 0) do_none (do_some (de_callB (cr_lenD ⟨rfl, rfl, rfl⟩) rfl T.z_len rfl (da_cons (de_var 1) da_nil)))) (de_var 1))))))
theorem sc_need : FnScope ["good"] ["good"] (defScope s_need) := ⟨rfl, rfl, rfl, by decide +kernel, rfl, by decide +kernel, by decide +kernel⟩
theorem ok_need (T : Tx P w K mg A) (B : Tb base mg A) : FnOk P w K mg base (L2N.CX P w) 1 A.f_need A.d_need ["good"] (spD (Γ0 P w K A) m_need) := by
  exact fn_den (k := 0) T.need.F sc_need rfl (by decide) fun cdv A1 outer s H E hr tk hp =>
    (dss_one (ds_if (dt_not (dt_val (de_var 0))) (dss_one (XcOk.raise T.x_BadThing rfl tk rfl rfl)) dss_nil))
theorem sc_is_word : FnScope ["thing", "sign"] ["thing"] (defScope s_is_word) := ⟨rfl, rfl, rfl, by decide +kernel, rfl, by decide +kernel, by decide +kernel⟩
theorem ok_is_word (T : Tx P w K mg A) (B : Tb base mg A) : FnOk P w K mg base (L2N.CX P w) 1 A.f_is_word A.d_is_word ["thing"] (spD (Γ0 P w K A) m_is_word) := by
  exact fn_den (k := 0) T.is_word.F sc_is_word rfl (by decide) fun cdv A1 outer s H E hr tk hp =>
    (dss_one (ds_ret (de_and (de_vIsStr ⟨rfl, rfl, rfl⟩ rfl T.z_isinstance rfl T.z_str (de_var 0)) (de_and (de_chain op_leD op_leD de_int (de_callB (cr_lenD ⟨rfl, rfl, rfl⟩) rfl T.z_len rfl (da_cons (de_var 0) da_nil)) (CG.de T.c_MOST_WORD rfl)) (de_one (de_callB (cr_allD ⟨rfl, rfl, rfl⟩ rfl) rfl T.z_all rfl (da_cons (de_lc (own := [("sign", 1)]) (t := (.one 1)) ⟨rfl, rfl, rfl⟩ rfl sc_is_word.nd (by decide) (di_any ⟨rfl, rfl, rfl⟩ (de_var 0)) (blkOk_by (by kernel_rfl)) (fun _ _ _ _ _ => (pg_name (i := 1) sc_is_word.nd rfl (by first | exact Or.inl rfl | exact Or.inr rfl))) (fun _ _ _ _ _ => dts_nil) (fun _ _ _ _ _ => (de_cmp (op_in ⟨rfl, rfl, rfl⟩ (huR hr)) (de_var 1) (CG.de T.c_SMALL rfl)))) da_nil)))))))
theorem sc_need_name : FnScope ["name"] ["name"] (defScope s_need_name) := ⟨rfl, rfl, rfl, by decide +kernel, rfl, by decide +kernel, by decide +kernel⟩
theorem ok_need_name (T : Tx P w K mg A) (B : Tb base mg A) : FnOk P w K mg base (L2N.CX P w) 2 A.f_need_name A.d_need_name ["name"] (spD (Γ0 P w K A) m_need_name) := by
  exact fn_den (k := 1) T.need_name.F sc_need_name rfl (by decide) fun cdv A1 outer s H E hr tk hp =>
    (dss_one (ds_expr (de_call (ok_need T B) (hr.mono (by decide)) rfl T.need.m T.need.k T.need.b tk (da_cons (de_call (ok_is_word T B) (hr.mono (by decide)) rfl T.is_word.m T.is_word.k T.is_word.b tk (da_cons (de_var 0) da_nil)) da_nil))))
theorem sc_need_thing : FnScope ["thing", "word"] ["thing"] (defScope s_need_thing) := ⟨rfl, rfl, rfl, by decide +kernel, rfl, by decide +kernel, by decide +kernel⟩
theorem ok_need_thing (T : Tx P w K mg A) (B : Tb base mg A) : FnOk P w K mg base (L2N.CX P w) 2 A.f_need_thing A.d_need_thing ["thing"] (spD (Γ0 P w K A) m_need_thing) := by
  exact fn_den (k := 1) T.need_thing.F sc_need_thing rfl (by decide) fun cdv A1 outer s H E hr tk hp =>
    (dss_one (ds_expr (de_call (ok_need T B) (hr.mono (by decide)) rfl T.need.m T.need.k T.need.b tk (da_cons (de_and (de_vIsTup ⟨rfl, rfl, rfl⟩ rfl T.z_isinstance rfl T.z_tuple (de_var 0)) (de_and (de_cmp op_leD (de_callB (cr_lenD ⟨rfl, rfl, rfl⟩) rfl T.z_len rfl (da_cons (de_var 0) da_nil)) (CG.de T.c_MOST_DEEP rfl)) (de_one (de_callB (cr_allD ⟨rfl, rfl, rfl⟩ rfl) rfl T.z_all rfl (da_cons (de_lc (own := [("word", 1)]) (t := (.one 1)) ⟨rfl, rfl, rfl⟩ rfl sc_need_thing.nd (by decide) (di_any ⟨rfl, rfl, rfl⟩ (de_var 0)) (blkOk_by (by kernel_rfl)) (fun _ _ _ _ _ => (pg_name (i := 1) sc_need_thing.nd rfl (by first | exact Or.inl rfl | exact Or.inr rfl))) (fun _ _ _ _ _ => dts_nil) (fun _ _ _ _ _ => (de_call (E := L2.E0) (ok_is_word T B) (hr.mono (by decide)) rfl T.is_word.m T.is_word.k T.is_word.b takesN (da_cons (de_var 1) da_nil)))) da_nil))))) da_nil))))
theorem sc_written_thing : FnScope ["thing"] ["thing"] (defScope s_written_thing) := ⟨rfl, rfl, rfl, by decide +kernel, rfl, by decide +kernel, by decide +kernel⟩
theorem ok_written_thing (T : Tx P w K mg A) (B : Tb base mg A) : FnOk P w K mg base (L2N.CX P w) 3 A.f_written_thing A.d_written_thing ["thing"] (spD (Γ0 P w K A) m_written_thing) := by
  exact fn_den (k := 2) T.written_thing.F sc_written_thing rfl (by decide) fun cdv A1 outer s H E hr tk hp =>
    (dss_cons (ds_expr (de_call (ok_need_thing T B) (hr.mono (by decide)) rfl T.need_thing.m T.need_thing.k T.need_thing.b tk (da_cons (de_var 0) da_nil)))
    (dss_one (ds_ret (de_op (op_addD ⟨rfl, rfl, rfl⟩) (de_str (s := [47]) rfl rfl) (de_join ⟨rfl, rfl, rfl⟩ (de_str (s := [47]) rfl rfl) (de_var 0))))))
theorem sc_read_thing : FnScope ["text", "found"] ["text"] (defScope s_read_thing) := ⟨rfl, rfl, rfl, by decide +kernel, rfl, by decide +kernel, by decide +kernel⟩
theorem ok_read_thing (T : Tx P w K mg A) (B : Tb base mg A) : FnOk P w K mg base (L2N.CX P w) 3 A.f_read_thing A.d_read_thing ["text"] (spD (Γ0 P w K A) m_read_thing) := by
  exact fn_den (k := 2) T.read_thing.F sc_read_thing rfl (by decide) fun cdv A1 outer s H E hr tk hp =>
    (dss_cons (ds_expr (de_call (ok_need T B) (hr.mono (by decide)) rfl T.need.m T.need.k T.need.b tk (da_cons (de_and (de_vIsStr ⟨rfl, rfl, rfl⟩ rfl T.z_isinstance rfl T.z_str (de_var 0)) (de_one (de_cmp (op_eqV ⟨rfl, rfl, rfl⟩ (huR4 hr)) (de_slice (sl_any ⟨rfl, rfl, rfl⟩) (de_var 0) do_none (do_some de_int)) (de_str (s := [47]) rfl rfl)))) da_nil)))
    (dss_cons (ds_set (i := 1) sc_read_thing.nd rfl (by first | exact Or.inl rfl | exact Or.inr rfl) (de_ifE (dt_cmp (op_neV ⟨rfl, rfl, rfl⟩ (huR4 hr)) (de_var 0) (de_str (s := [47]) rfl rfl)) (de_callTy (cr_tupleD ⟨rfl, rfl, rfl⟩) rfl T.z_tuple rfl (da_cons (de_split (de_slice (sl_any ⟨rfl, rfl, rfl⟩) (de_var 0) (do_some de_int) do_none) (de_str (s := [47]) rfl rfl)) da_nil)) (de_tup da_nil)))
    (dss_cons (ds_expr (de_call (ok_need_thing T B) (hr.mono (by decide)) rfl T.need_thing.m T.need_thing.k T.need_thing.b tk (da_cons (de_var 1) da_nil)))
    (dss_one (ds_ret (de_var 1))))))
theorem sc_law : FnScope ["script", "k", "more", "thing", "other", "word", "text", "none", "some", "bad", "many"] ["script"] (defScope s_law) := ⟨rfl, rfl, rfl, by decide +kernel, rfl, by decide +kernel, by decide +kernel⟩
theorem ok_law (T : Tx P w K mg A) (B : Tb base mg A) : FnOk P w K mg base (L2N.CX P w) 6 A.f_law A.d_law ["script"] (spD (Γ0 P w K A) m_law) := by
  obtain ⟨oc, od, an, osl, kV, doc, pm, ct, lk, e⟩ := T.L_law
  rw [e]
  exact fn_denC (k := 5) lk T.cd_law sc_law rfl (by decide) fun A1 outer s H E hr tk hp =>
    (dss_cons (ds_for (t := (.one 1)) ⟨rfl, rfl, rfl⟩ hp rfl (di_range1 rfl T.z_range (de_callB (cr_max2D rfl) rfl T.z_max rfl (da_cons de_int (da_cons (de_callB (cr_min2D rfl) rfl T.z_min rfl (da_cons de_int (da_cons (de_callB (cr_lenD ⟨rfl, rfl, rfl⟩) rfl T.z_len rfl (da_cons (de_var 0) da_nil)) da_nil))) da_nil)))) (pg_name (i := 1) sc_law.nd rfl (by first | exact Or.inl rfl | exact Or.inr rfl))
    (dss_cons (ds_set (i := 2) sc_law.nd rfl (by first | exact Or.inl rfl | exact Or.inr rfl) (de_call (ok__law_drawn T B) (hr.mono (by decide)) rfl T._law_drawn.m T._law_drawn.k T._law_drawn.b tk (da_cons (de_call (ok__law_cell T B) (hr.mono (by decide)) rfl T._law_cell.m T._law_cell.k T._law_cell.b tk (da_cons (de_var 0) (da_cons (de_var 1) da_nil))) (da_cons (de_var 1) da_nil))))
    (dss_cons (ds_asgT ⟨rfl, rfl, rfl⟩ (de_tup (da_cons (de_call (ok__law_thing T B) (hr.mono (by decide)) rfl T._law_thing.m T._law_thing.k T._law_thing.b tk (da_cons (de_call (ok__law_drawn T B) (hr.mono (by decide)) rfl T._law_drawn.m T._law_drawn.k T._law_drawn.b tk (da_cons (de_var 2) (da_cons de_int da_nil))) (da_cons de_int da_nil))) (da_cons (de_call (ok__law_thing T B) (hr.mono (by decide)) rfl T._law_thing.m T._law_thing.k T._law_thing.b tk (da_cons (de_call (ok__law_drawn T B) (hr.mono (by decide)) rfl T._law_drawn.m T._law_drawn.k T._law_drawn.b tk (da_cons (de_var 2) (da_cons de_int da_nil))) (da_cons de_int da_nil))) da_nil))) (pg_tup rfl (pgs_cons (pg_name (i := 3) sc_law.nd rfl (by first | exact Or.inl rfl | exact Or.inr rfl)) (pgs_cons (pg_name (i := 4) sc_law.nd rfl (by first | exact Or.inl rfl | exact Or.inr rfl)) pgs_nil))))
    (dss_cons (ds_if (dt_cmp (op_eqV ⟨rfl, rfl, rfl⟩ (huR4 hr)) (de_op op_modD (de_var 2) de_int) de_int) (dss_one (ds_set (i := 4) sc_law.nd rfl (by first | exact Or.inl rfl | exact Or.inr rfl) (de_slice (sl_any ⟨rfl, rfl, rfl⟩) (de_var 3) do_none (do_some (de_op op_modD (de_op op_fdivD (de_var 2) de_int) de_int))))) dss_nil)
    (dss_cons (ds_set (i := 5) sc_law.nd rfl (by first | exact Or.inl rfl | exact Or.inr rfl) (de_slice (sl_any ⟨rfl, rfl, rfl⟩) (de_str (s := [97, 98, 99, 100, 101, 102]) rfl rfl) do_none (do_some (de_op (op_addD ⟨rfl, rfl, rfl⟩) de_int (de_op op_modD (de_var 2) de_int)))))
    (dss_cons (ds_if (PW.pt (dw_or (dt_notN (de_told (k := 2) (ok_told T) rfl B.law rfl (List.Mem.head _) (tab_uniq T.nd (List.Mem.head _)) (hr.mono (by decide)) (LamX.lamS_by (by kernel_rfl)) rfl (fun _ _ _ _ _ => rfl) fun E A9 o9 s9 H9 f9 c9 hr2 => (de_call (ok_need_thing T B) (hr2.mono (by decide)) rfl T.need_thing.m T.need_thing.k T.need_thing.b lamN_takes (da_cons (de_var 3) da_nil)))) (dw_or1 (dt_notN (de_call (ok_need_name T B) (hr.mono (by decide)) rfl T.need_name.m T.need_name.k T.need_name.b tk (da_cons (de_var 5) da_nil)))))) (dss_one (ds_ret de_bl)) dss_nil)
    (dss_cons (ds_if (dt_cmp (op_neV ⟨rfl, rfl, rfl⟩ (huR4 hr)) (de_call (ok_above T B) (hr.mono (by decide)) rfl T.above.m T.above.k T.above.b tk (da_cons (de_var 3) da_nil)) (de_lc (own := [("many", 10)]) (t := (.one 10)) ⟨rfl, rfl, rfl⟩ rfl sc_law.nd (by decide) (di_range1 rfl T.z_range (de_callB (cr_lenD ⟨rfl, rfl, rfl⟩) rfl T.z_len rfl (da_cons (de_var 3) da_nil))) (blkOk_by (by kernel_rfl)) (fun _ _ _ _ _ => (pg_name (i := 10) sc_law.nd rfl (by first | exact Or.inl rfl | exact Or.inr rfl))) (fun _ _ _ _ _ => dts_nil) (fun _ _ _ _ _ => (de_slice (sl_any ⟨rfl, rfl, rfl⟩) (de_var 3) do_none (do_some (de_var 10)))))) (dss_one (ds_ret de_bl)) dss_nil)
    (dss_cons (ds_if (dt_cmp (op_neV ⟨rfl, rfl, rfl⟩ (huR4 hr)) (de_call (ok_is_below T B) (hr.mono (by decide)) rfl T.is_below.m T.is_below.k T.is_below.b tk (da_cons (de_var 3) (da_cons (de_var 4) da_nil))) (de_and (de_cmp op_gtD (de_callB (cr_lenD ⟨rfl, rfl, rfl⟩) rfl T.z_len rfl (da_cons (de_var 3) da_nil)) (de_callB (cr_lenD ⟨rfl, rfl, rfl⟩) rfl T.z_len rfl (da_cons (de_var 4) da_nil))) (de_one (de_cmp (op_eqV ⟨rfl, rfl, rfl⟩ (huR4 hr)) (de_slice (sl_any ⟨rfl, rfl, rfl⟩) (de_callTy (cr_listD ⟨rfl, rfl, rfl⟩) rfl T.z_list rfl (da_cons (de_var 3) da_nil)) do_none (do_some (de_callB (cr_lenD ⟨rfl, rfl, rfl⟩) rfl T.z_len rfl (da_cons (de_var 4) da_nil)))) (de_callTy (cr_listD ⟨rfl, rfl, rfl⟩) rfl T.z_list rfl (da_cons (de_var 4) da_nil)))))) (dss_one (ds_ret de_bl)) dss_nil)
    (dss_cons (ds_set (i := 6) sc_law.nd rfl (by first | exact Or.inl rfl | exact Or.inr rfl) (de_op (op_addD ⟨rfl, rfl, rfl⟩) (de_str (s := [47]) rfl rfl) (de_join ⟨rfl, rfl, rfl⟩ (de_str (s := [47]) rfl rfl) (de_var 3))))
    (dss_cons (ds_if (dt_cmp (op_neV ⟨rfl, rfl, rfl⟩ (huR4 hr)) (de_told (k := 3) (ok_told T) rfl B.law rfl (List.Mem.head _) (tab_uniq T.nd (List.Mem.head _)) (hr.mono (by decide)) (LamX.lamS_by (by kernel_rfl)) rfl (fun _ _ _ _ _ => rfl) fun E A9 o9 s9 H9 f9 c9 hr2 => (de_call (ok_written_thing T B) (hr2.mono (by decide)) rfl T.written_thing.m T.written_thing.k T.written_thing.b lamN_takes (da_cons (de_var 3) da_nil))) (de_var 6)) (dss_one (ds_ret de_bl)) dss_nil)
    (dss_cons (ds_if (dt_cmp (op_neV ⟨rfl, rfl, rfl⟩ (huR4 hr)) (de_told (k := 3) (ok_told T) rfl B.law rfl (List.Mem.head _) (tab_uniq T.nd (List.Mem.head _)) (hr.mono (by decide)) (LamX.lamS_by (by kernel_rfl)) rfl (fun _ _ _ _ _ => rfl) fun E A9 o9 s9 H9 f9 c9 hr2 => (de_call (ok_read_thing T B) (hr2.mono (by decide)) rfl T.read_thing.m T.read_thing.k T.read_thing.b lamN_takes (da_cons (de_var 6) da_nil))) (de_var 3)) (dss_one (ds_ret de_bl)) dss_nil)
    (dss_cons (ds_set (i := 7) sc_law.nd rfl (by first | exact Or.inl rfl | exact Or.inr rfl) (de_call (ok__law_none T B) (hr.mono (by decide)) rfl T._law_none.m T._law_none.k T._law_none.b tk (da_cons (de_call (ok__law_drawn T B) (hr.mono (by decide)) rfl T._law_drawn.m T._law_drawn.k T._law_drawn.b tk (da_cons (de_var 2) (da_cons de_int da_nil))) da_nil)))
    (dss_cons (ds_set sc_law.nd rfl (by first | exact Or.inl rfl | exact Or.inr rfl) (de_newL (da_cons (de_told (k := 2) (ok_told T) rfl B.law rfl (List.Mem.head _) (tab_uniq T.nd (List.Mem.head _)) (hr.mono (by decide)) (LamX.lamS_by (by kernel_rfl)) rfl (fun _ _ _ _ _ => rfl) fun E A9 o9 s9 H9 f9 c9 hr2 => (de_call (ok_need_thing T B) (hr2.mono (by decide)) rfl T.need_thing.m T.need_thing.k T.need_thing.b lamN_takes (da_cons (de_var 7) da_nil))) da_nil)))
    (dss_cons (ds_expr (de_app (de_var 8) (de_told (k := 3) (ok_told T) rfl B.law rfl (List.Mem.head _) (tab_uniq T.nd (List.Mem.head _)) (hr.mono (by decide)) (LamX.lamS_by (by kernel_rfl)) rfl (fun _ _ _ _ _ => rfl) fun E A9 o9 s9 H9 f9 c9 hr2 => (de_call (ok_written_thing T B) (hr2.mono (by decide)) rfl T.written_thing.m T.written_thing.k T.written_thing.b lamN_takes (da_cons (de_var 7) da_nil)))))
    (dss_cons (ds_if (dt_cmp (op_neV ⟨rfl, rfl, rfl⟩ (huR4 hr)) (de_var 8) (de_op op_mulD (de_lst (da_cons (de_tup (da_cons (de_str (s := [114, 101, 102, 117, 115, 101, 100]) rfl rfl) (da_cons (de_str (s := [66, 97, 100, 84, 104, 105, 110, 103]) rfl rfl) da_nil))) da_nil)) de_int)) (dss_one (ds_ret de_bl)) dss_nil)
    (dss_cons (ds_for (t := (.one 9)) ⟨rfl, rfl, rfl⟩ hp rfl (di_any ⟨rfl, rfl, rfl⟩ (de_lst (da_cons (de_str (s := []) rfl rfl) (da_cons (de_str (s := [65]) rfl rfl) (da_cons (de_str (s := [97, 98, 99, 100, 101, 102, 103]) rfl rfl) (da_cons de_non (da_cons (de_str (s := [97, 32, 98]) rfl rfl) (da_cons de_int (da_cons (de_tup (da_cons (de_str (s := [97]) rfl rfl) da_nil)) da_nil))))))))) (pg_name (i := 9) sc_law.nd rfl (by first | exact Or.inl rfl | exact Or.inr rfl))
    (dss_one (ds_if (dt_cmp (op_neV ⟨rfl, rfl, rfl⟩ (huR4 hr)) (de_told (k := 2) (ok_told T) rfl B.law rfl (List.Mem.head _) (tab_uniq T.nd (List.Mem.head _)) (hr.mono (by decide)) (LamX.lamS_by (by kernel_rfl)) rfl (fun _ _ _ _ _ => rfl) fun E A9 o9 s9 H9 f9 c9 hr2 => (de_call (ok_need_name T B) (hr2.mono (by decide)) rfl T.need_name.m T.need_name.k T.need_name.b lamN_takes (da_cons (de_var 9) da_nil))) (de_tup (da_cons (de_str (s := [114, 101, 102, 117, 115, 101, 100]) rfl rfl) (da_cons (de_str (s := [66, 97, 100, 84, 104, 105, 110, 103]) rfl rfl) da_nil)))) (dss_one (ds_ret de_bl)) dss_nil)))
    (dss_one (ds_for (t := (.one 9)) ⟨rfl, rfl, rfl⟩ hp rfl (di_any ⟨rfl, rfl, rfl⟩ (de_lst (da_cons (de_str (s := []) rfl rfl) (da_cons (de_str (s := [97]) rfl rfl) (da_cons (de_str (s := [47, 47]) rfl rfl) (da_cons (de_str (s := [47, 97, 47]) rfl rfl) (da_cons (de_str (s := [97, 47, 98]) rfl rfl) (da_cons (de_str (s := [47, 65]) rfl rfl) (da_cons (de_str (s := [47, 97, 47, 47, 98]) rfl rfl) (da_cons (de_str (s := [47, 97, 47, 98, 47, 99, 47, 100, 47, 101]) rfl rfl) (da_cons de_non (da_cons (de_str (s := [47, 97, 98, 99, 100, 101, 102, 103]) rfl rfl) (da_cons (de_str (s := [47, 97, 32, 98]) rfl rfl) (da_cons de_int da_nil)))))))))))))) (pg_name (i := 9) sc_law.nd rfl (by first | exact Or.inl rfl | exact Or.inr rfl))
    (dss_one (ds_if (dt_cmp (op_neV ⟨rfl, rfl, rfl⟩ (huR4 hr)) (de_told (k := 3) (ok_told T) rfl B.law rfl (List.Mem.head _) (tab_uniq T.nd (List.Mem.head _)) (hr.mono (by decide)) (LamX.lamS_by (by kernel_rfl)) rfl (fun _ _ _ _ _ => rfl) fun E A9 o9 s9 H9 f9 c9 hr2 => (de_call (ok_read_thing T B) (hr2.mono (by decide)) rfl T.read_thing.m T.read_thing.k T.read_thing.b lamN_takes (da_cons (de_var 9) da_nil))) (de_tup (da_cons (de_str (s := [114, 101, 102, 117, 115, 101, 100]) rfl rfl) (da_cons (de_str (s := [66, 97, 100, 84, 104, 105, 110, 103]) rfl rfl) da_nil)))) (dss_one (ds_ret de_bl)) dss_nil))))))))))))))))))))
    (dss_one (ds_ret de_bl)))
end
theorem all_mk {l : PySem.W.OpenLaw} {w : World} {K : PySem.W.Frag} {h : Heap} {mg : Str → Option Value} {fa : Addr} (X : K.In h) (G : h.Ns mainGlobals mg) (hfa : mg "law" = some (.ref fa))
    {f__law_drawn : Addr} {od__law_drawn an__law_drawn : Option Addr} {sl__law_drawn : Array (Option Value)} {oc__law_drawn kV__law_drawn dc__law_drawn pm__law_drawn ct__law_drawn : Value}
    {cd__law_drawn : Value}
    {f__law_none : Addr} {od__law_none an__law_none : Option Addr} {sl__law_none : Array (Option Value)} {oc__law_none kV__law_none dc__law_none pm__law_none ct__law_none : Value}
    {cd__law_none : Value}
    {f__law_cell : Addr} {od__law_cell an__law_cell : Option Addr} {sl__law_cell : Array (Option Value)} {oc__law_cell kV__law_cell dc__law_cell pm__law_cell ct__law_cell : Value}
    {cd__law_cell : Value}
    {f__law_thing : Addr} {od__law_thing an__law_thing : Option Addr} {sl__law_thing : Array (Option Value)} {oc__law_thing kV__law_thing dc__law_thing pm__law_thing ct__law_thing : Value}
    {cd__law_thing : Value}
    {f_above : Addr} {od_above an_above : Option Addr} {sl_above : Array (Option Value)} {oc_above kV_above dc_above pm_above ct_above : Value}
    {cd_above : Value}
    {f_is_below : Addr} {od_is_below an_is_below : Option Addr} {sl_is_below : Array (Option Value)} {oc_is_below kV_is_below dc_is_below pm_is_below ct_is_below : Value}
    {cd_is_below : Value}
    {f_need : Addr} {od_need an_need : Option Addr} {sl_need : Array (Option Value)} {oc_need kV_need dc_need pm_need ct_need : Value}
    {cd_need : Value}
    {f_is_word : Addr} {od_is_word an_is_word : Option Addr} {sl_is_word : Array (Option Value)} {oc_is_word kV_is_word dc_is_word pm_is_word ct_is_word : Value}
    {cd_is_word : Value}
    {f_need_name : Addr} {od_need_name an_need_name : Option Addr} {sl_need_name : Array (Option Value)} {oc_need_name kV_need_name dc_need_name pm_need_name ct_need_name : Value}
    {cd_need_name : Value}
    {f_need_thing : Addr} {od_need_thing an_need_thing : Option Addr} {sl_need_thing : Array (Option Value)} {oc_need_thing kV_need_thing dc_need_thing pm_need_thing ct_need_thing : Value}
    {cd_need_thing : Value}
    {f_written_thing : Addr} {od_written_thing an_written_thing : Option Addr} {sl_written_thing : Array (Option Value)} {oc_written_thing kV_written_thing dc_written_thing pm_written_thing ct_written_thing : Value}
    {cd_written_thing : Value}
    {f_read_thing : Addr} {od_read_thing an_read_thing : Option Addr} {sl_read_thing : Array (Option Value)} {oc_read_thing kV_read_thing dc_read_thing pm_read_thing ct_read_thing : Value}
    {cd_read_thing : Value}
    {f_law : Addr} {od_law an_law : Option Addr} {sl_law : Array (Option Value)} {oc_law kV_law dc_law pm_law ct_law : Value}
    {c_law P_law : Addr}
    {te_law : Value} {td_law : Option Addr} {tv_law : Array Value} {ts_law : Array (Option Value)}
    {f__law_word : Addr} {od__law_word an__law_word : Option Addr} {sl__law_word : Array (Option Value)} {oc__law_word kV__law_word dc__law_word pm__law_word ct__law_word : Value}
    {cd__law_word : Value}
    {f__law_told : Addr} {od__law_told an__law_told : Option Addr} {sl__law_told : Array (Option Value)} {oc__law_told kV__law_told dc__law_told pm__law_told ct__law_told : Value}
    {cd__law_told : Value}
    {x_BadThing : Addr}
    {x_BadLock : Addr}
    {x_BadAsk : Addr}
    {x_BadCount : Addr}
    {x_BadErrand : Addr}
    {x_GroveError : Addr}
    {qSMALL_t : Tok}
    {qMOST_WORD_t : Tok}
    {qMOST_DEEP_t : Tok}
    (a__law_drawn : PySem.W.nsIn K mainGlobals "_law_drawn" = some (some (.ref f__law_drawn)))
    (l__law_drawn : K.lookup f__law_drawn = some ⟨oc__law_drawn, od__law_drawn, .func (PySem.W.fnOf "_law_drawn" "_law_drawn" (defArgs s__law_drawn) (defBody s__law_drawn) (defScope s__law_drawn) .none kV__law_drawn dc__law_drawn pm__law_drawn an__law_drawn cd__law_drawn ct__law_drawn), sl__law_drawn⟩)
    (cc__law_drawn : PySem.W.codeIn K cd__law_drawn "_law_drawn" = true)
    (k__law_drawn : PySem.W.keepIn K (.ref f__law_drawn) = true)
    (a__law_none : PySem.W.nsIn K mainGlobals "_law_none" = some (some (.ref f__law_none)))
    (l__law_none : K.lookup f__law_none = some ⟨oc__law_none, od__law_none, .func (PySem.W.fnOf "_law_none" "_law_none" (defArgs s__law_none) (defBody s__law_none) (defScope s__law_none) .none kV__law_none dc__law_none pm__law_none an__law_none cd__law_none ct__law_none), sl__law_none⟩)
    (cc__law_none : PySem.W.codeIn K cd__law_none "_law_none" = true)
    (k__law_none : PySem.W.keepIn K (.ref f__law_none) = true)
    (a__law_cell : PySem.W.nsIn K mainGlobals "_law_cell" = some (some (.ref f__law_cell)))
    (l__law_cell : K.lookup f__law_cell = some ⟨oc__law_cell, od__law_cell, .func (PySem.W.fnOf "_law_cell" "_law_cell" (defArgs s__law_cell) (defBody s__law_cell) (defScope s__law_cell) .none kV__law_cell dc__law_cell pm__law_cell an__law_cell cd__law_cell ct__law_cell), sl__law_cell⟩)
    (cc__law_cell : PySem.W.codeIn K cd__law_cell "_law_cell" = true)
    (k__law_cell : PySem.W.keepIn K (.ref f__law_cell) = true)
    (a__law_thing : PySem.W.nsIn K mainGlobals "_law_thing" = some (some (.ref f__law_thing)))
    (l__law_thing : K.lookup f__law_thing = some ⟨oc__law_thing, od__law_thing, .func (PySem.W.fnOf "_law_thing" "_law_thing" (defArgs s__law_thing) (defBody s__law_thing) (defScope s__law_thing) .none kV__law_thing dc__law_thing pm__law_thing an__law_thing cd__law_thing ct__law_thing), sl__law_thing⟩)
    (cc__law_thing : PySem.W.codeIn K cd__law_thing "_law_thing" = true)
    (k__law_thing : PySem.W.keepIn K (.ref f__law_thing) = true)
    (a_above : PySem.W.nsIn K mainGlobals "above" = some (some (.ref f_above)))
    (l_above : K.lookup f_above = some ⟨oc_above, od_above, .func (PySem.W.fnOf "above" "above" (defArgs s_above) (defBody s_above) (defScope s_above) .none kV_above dc_above pm_above an_above cd_above ct_above), sl_above⟩)
    (cc_above : PySem.W.codeIn K cd_above "above" = true)
    (k_above : PySem.W.keepIn K (.ref f_above) = true)
    (a_is_below : PySem.W.nsIn K mainGlobals "is_below" = some (some (.ref f_is_below)))
    (l_is_below : K.lookup f_is_below = some ⟨oc_is_below, od_is_below, .func (PySem.W.fnOf "is_below" "is_below" (defArgs s_is_below) (defBody s_is_below) (defScope s_is_below) .none kV_is_below dc_is_below pm_is_below an_is_below cd_is_below ct_is_below), sl_is_below⟩)
    (cc_is_below : PySem.W.codeIn K cd_is_below "is_below" = true)
    (k_is_below : PySem.W.keepIn K (.ref f_is_below) = true)
    (a_need : PySem.W.nsIn K mainGlobals "need" = some (some (.ref f_need)))
    (l_need : K.lookup f_need = some ⟨oc_need, od_need, .func (PySem.W.fnOf "need" "need" (defArgs s_need) (defBody s_need) (defScope s_need) .none kV_need dc_need pm_need an_need cd_need ct_need), sl_need⟩)
    (cc_need : PySem.W.codeIn K cd_need "need" = true)
    (k_need : PySem.W.keepIn K (.ref f_need) = true)
    (a_is_word : PySem.W.nsIn K mainGlobals "is_word" = some (some (.ref f_is_word)))
    (l_is_word : K.lookup f_is_word = some ⟨oc_is_word, od_is_word, .func (PySem.W.fnOf "is_word" "is_word" (defArgs s_is_word) (defBody s_is_word) (defScope s_is_word) .none kV_is_word dc_is_word pm_is_word an_is_word cd_is_word ct_is_word), sl_is_word⟩)
    (cc_is_word : PySem.W.codeIn K cd_is_word "is_word" = true)
    (k_is_word : PySem.W.keepIn K (.ref f_is_word) = true)
    (a_need_name : PySem.W.nsIn K mainGlobals "need_name" = some (some (.ref f_need_name)))
    (l_need_name : K.lookup f_need_name = some ⟨oc_need_name, od_need_name, .func (PySem.W.fnOf "need_name" "need_name" (defArgs s_need_name) (defBody s_need_name) (defScope s_need_name) .none kV_need_name dc_need_name pm_need_name an_need_name cd_need_name ct_need_name), sl_need_name⟩)
    (cc_need_name : PySem.W.codeIn K cd_need_name "need_name" = true)
    (k_need_name : PySem.W.keepIn K (.ref f_need_name) = true)
    (a_need_thing : PySem.W.nsIn K mainGlobals "need_thing" = some (some (.ref f_need_thing)))
    (l_need_thing : K.lookup f_need_thing = some ⟨oc_need_thing, od_need_thing, .func (PySem.W.fnOf "need_thing" "need_thing" (defArgs s_need_thing) (defBody s_need_thing) (defScope s_need_thing) .none kV_need_thing dc_need_thing pm_need_thing an_need_thing cd_need_thing ct_need_thing), sl_need_thing⟩)
    (cc_need_thing : PySem.W.codeIn K cd_need_thing "need_thing" = true)
    (k_need_thing : PySem.W.keepIn K (.ref f_need_thing) = true)
    (a_written_thing : PySem.W.nsIn K mainGlobals "written_thing" = some (some (.ref f_written_thing)))
    (l_written_thing : K.lookup f_written_thing = some ⟨oc_written_thing, od_written_thing, .func (PySem.W.fnOf "written_thing" "written_thing" (defArgs s_written_thing) (defBody s_written_thing) (defScope s_written_thing) .none kV_written_thing dc_written_thing pm_written_thing an_written_thing cd_written_thing ct_written_thing), sl_written_thing⟩)
    (cc_written_thing : PySem.W.codeIn K cd_written_thing "written_thing" = true)
    (k_written_thing : PySem.W.keepIn K (.ref f_written_thing) = true)
    (a_read_thing : PySem.W.nsIn K mainGlobals "read_thing" = some (some (.ref f_read_thing)))
    (l_read_thing : K.lookup f_read_thing = some ⟨oc_read_thing, od_read_thing, .func (PySem.W.fnOf "read_thing" "read_thing" (defArgs s_read_thing) (defBody s_read_thing) (defScope s_read_thing) .none kV_read_thing dc_read_thing pm_read_thing an_read_thing cd_read_thing ct_read_thing), sl_read_thing⟩)
    (cc_read_thing : PySem.W.codeIn K cd_read_thing "read_thing" = true)
    (k_read_thing : PySem.W.keepIn K (.ref f_read_thing) = true)
    (a_law : PySem.W.nsIn K mainGlobals "law" = some (some (.ref f_law)))
    (l_law : K.lookup f_law = some ⟨oc_law, od_law, .func (PySem.W.fnOf "law" "law" (defArgs s_law) (defBody s_law) (defScope s_law) .none kV_law dc_law pm_law an_law (.ref c_law) ct_law), sl_law⟩)
    (cc_law : PySem.W.codeIn K (.ref c_law) "law" = true)
    (k_law : PySem.W.keepIn K (.ref f_law) = true)
    (lc_law : K.lookup c_law = some ⟨te_law, td_law, .fields tv_law, ts_law⟩)
    (tp_law : (tv_law[11]? : Option Value) = some (.ref P_law))
    (hd_law : PySem.W.codeHdIn K c_law P_law = true)
    (n_law : K.lookup P_law = none)
    (e_law : h.get? P_law = some (PySem.W.tabObj #[]))
    (a__law_word : PySem.W.nsIn K mainGlobals "_law_word" = some (some (.ref f__law_word)))
    (l__law_word : K.lookup f__law_word = some ⟨oc__law_word, od__law_word, .func (PySem.W.fnOf "_law_word" "_law_word" (defArgs s__law_word) (defBody s__law_word) (defScope s__law_word) .none kV__law_word dc__law_word pm__law_word an__law_word cd__law_word ct__law_word), sl__law_word⟩)
    (cc__law_word : PySem.W.codeIn K cd__law_word "_law_word" = true)
    (k__law_word : PySem.W.keepIn K (.ref f__law_word) = true)
    (a__law_told : PySem.W.nsIn K mainGlobals "_law_told" = some (some (.ref f__law_told)))
    (l__law_told : K.lookup f__law_told = some ⟨oc__law_told, od__law_told, .func (PySem.W.fnOf "_law_told" "_law_told" (defArgs s__law_told) (defBody s__law_told) (defScope s__law_told) .none kV__law_told dc__law_told pm__law_told an__law_told cd__law_told ct__law_told), sl__law_told⟩)
    (cc__law_told : PySem.W.codeIn K cd__law_told "_law_told" = true)
    (k__law_told : PySem.W.keepIn K (.ref f__law_told) = true)
    (nd : [P_law].Nodup)
    (xa_BadThing : PySem.W.nsIn K mainGlobals "BadThing" = some (some (.ref x_BadThing)))
    (xk_BadThing : PySem.W.keepIn K (.ref x_BadThing) = true)
    (xe_BadThing : PySem.W.excIn K x_BadThing [.type "ValueError", .type "Exception", .type "BaseException", .type "object"] "ValueError.__new__" = true)
    (xs_BadThing : PySem.W.subIn K (.ref x_BadThing) (.type "BaseException") = some true)
    (xt_BadThing : PySem.W.typeIn K (.ref x_BadThing) = some (.type "type"))
    (xa_BadLock : PySem.W.nsIn K mainGlobals "BadLock" = some (some (.ref x_BadLock)))
    (xk_BadLock : PySem.W.keepIn K (.ref x_BadLock) = true)
    (xe_BadLock : PySem.W.excIn K x_BadLock [.type "ValueError", .type "Exception", .type "BaseException", .type "object"] "ValueError.__new__" = true)
    (xs_BadLock : PySem.W.subIn K (.ref x_BadLock) (.type "BaseException") = some true)
    (xt_BadLock : PySem.W.typeIn K (.ref x_BadLock) = some (.type "type"))
    (xa_BadAsk : PySem.W.nsIn K mainGlobals "BadAsk" = some (some (.ref x_BadAsk)))
    (xk_BadAsk : PySem.W.keepIn K (.ref x_BadAsk) = true)
    (xe_BadAsk : PySem.W.excIn K x_BadAsk [.type "ValueError", .type "Exception", .type "BaseException", .type "object"] "ValueError.__new__" = true)
    (xs_BadAsk : PySem.W.subIn K (.ref x_BadAsk) (.type "BaseException") = some true)
    (xt_BadAsk : PySem.W.typeIn K (.ref x_BadAsk) = some (.type "type"))
    (xa_BadCount : PySem.W.nsIn K mainGlobals "BadCount" = some (some (.ref x_BadCount)))
    (xk_BadCount : PySem.W.keepIn K (.ref x_BadCount) = true)
    (xe_BadCount : PySem.W.excIn K x_BadCount [.type "ValueError", .type "Exception", .type "BaseException", .type "object"] "ValueError.__new__" = true)
    (xs_BadCount : PySem.W.subIn K (.ref x_BadCount) (.type "BaseException") = some true)
    (xt_BadCount : PySem.W.typeIn K (.ref x_BadCount) = some (.type "type"))
    (xa_BadErrand : PySem.W.nsIn K mainGlobals "BadErrand" = some (some (.ref x_BadErrand)))
    (xk_BadErrand : PySem.W.keepIn K (.ref x_BadErrand) = true)
    (xe_BadErrand : PySem.W.excIn K x_BadErrand [.type "ValueError", .type "Exception", .type "BaseException", .type "object"] "ValueError.__new__" = true)
    (xs_BadErrand : PySem.W.subIn K (.ref x_BadErrand) (.type "BaseException") = some true)
    (xt_BadErrand : PySem.W.typeIn K (.ref x_BadErrand) = some (.type "type"))
    (xa_GE : PySem.W.nsIn K mainGlobals "GroveError" = some (some (.ref x_GroveError)))
    (em_BadThing : PySem.W.exmOne K (.ref x_BadThing) (.ref x_GroveError) = some true)
    (eg_BadThing : PySem.W.findIn K (.ref x_BadThing) "__getattribute__" = some (some (.builtin "BaseException.__getattribute__")))
    (ek_BadThing : PySem.W.findIn K (.ref x_BadThing) "__getattr__" = some none)
    (ed_BadThing : PySem.W.hasDictIn K x_BadThing = true)
    (ea_BadThing : PySem.W.findIn K (.ref x_BadThing) "__class__" = some (some (.builtin "object.__class__")))
    (em9_BadThing : PySem.W.mroIn K x_BadThing (.type "object") = some true)
    (ki_BadThing_BadThing : PySem.W.kitOne K (.ref x_BadThing) (.ref x_BadThing) = some true)
    (ki_BadThing_BadLock : PySem.W.kitOne K (.ref x_BadThing) (.ref x_BadLock) = some false)
    (ki_BadThing_BadAsk : PySem.W.kitOne K (.ref x_BadThing) (.ref x_BadAsk) = some false)
    (ki_BadThing_BadCount : PySem.W.kitOne K (.ref x_BadThing) (.ref x_BadCount) = some false)
    (ki_BadThing_BadErrand : PySem.W.kitOne K (.ref x_BadThing) (.ref x_BadErrand) = some false)
    (kv_BadThing : PySem.W.kitOne K (.ref x_BadThing) (.type "ValueError") = some true)
    (em_BadLock : PySem.W.exmOne K (.ref x_BadLock) (.ref x_GroveError) = some true)
    (eg_BadLock : PySem.W.findIn K (.ref x_BadLock) "__getattribute__" = some (some (.builtin "BaseException.__getattribute__")))
    (ek_BadLock : PySem.W.findIn K (.ref x_BadLock) "__getattr__" = some none)
    (ed_BadLock : PySem.W.hasDictIn K x_BadLock = true)
    (ea_BadLock : PySem.W.findIn K (.ref x_BadLock) "__class__" = some (some (.builtin "object.__class__")))
    (em9_BadLock : PySem.W.mroIn K x_BadLock (.type "object") = some true)
    (ki_BadLock_BadThing : PySem.W.kitOne K (.ref x_BadLock) (.ref x_BadThing) = some false)
    (ki_BadLock_BadLock : PySem.W.kitOne K (.ref x_BadLock) (.ref x_BadLock) = some true)
    (ki_BadLock_BadAsk : PySem.W.kitOne K (.ref x_BadLock) (.ref x_BadAsk) = some false)
    (ki_BadLock_BadCount : PySem.W.kitOne K (.ref x_BadLock) (.ref x_BadCount) = some false)
    (ki_BadLock_BadErrand : PySem.W.kitOne K (.ref x_BadLock) (.ref x_BadErrand) = some false)
    (kv_BadLock : PySem.W.kitOne K (.ref x_BadLock) (.type "ValueError") = some true)
    (em_BadAsk : PySem.W.exmOne K (.ref x_BadAsk) (.ref x_GroveError) = some true)
    (eg_BadAsk : PySem.W.findIn K (.ref x_BadAsk) "__getattribute__" = some (some (.builtin "BaseException.__getattribute__")))
    (ek_BadAsk : PySem.W.findIn K (.ref x_BadAsk) "__getattr__" = some none)
    (ed_BadAsk : PySem.W.hasDictIn K x_BadAsk = true)
    (ea_BadAsk : PySem.W.findIn K (.ref x_BadAsk) "__class__" = some (some (.builtin "object.__class__")))
    (em9_BadAsk : PySem.W.mroIn K x_BadAsk (.type "object") = some true)
    (ki_BadAsk_BadThing : PySem.W.kitOne K (.ref x_BadAsk) (.ref x_BadThing) = some false)
    (ki_BadAsk_BadLock : PySem.W.kitOne K (.ref x_BadAsk) (.ref x_BadLock) = some false)
    (ki_BadAsk_BadAsk : PySem.W.kitOne K (.ref x_BadAsk) (.ref x_BadAsk) = some true)
    (ki_BadAsk_BadCount : PySem.W.kitOne K (.ref x_BadAsk) (.ref x_BadCount) = some false)
    (ki_BadAsk_BadErrand : PySem.W.kitOne K (.ref x_BadAsk) (.ref x_BadErrand) = some false)
    (kv_BadAsk : PySem.W.kitOne K (.ref x_BadAsk) (.type "ValueError") = some true)
    (em_BadCount : PySem.W.exmOne K (.ref x_BadCount) (.ref x_GroveError) = some true)
    (eg_BadCount : PySem.W.findIn K (.ref x_BadCount) "__getattribute__" = some (some (.builtin "BaseException.__getattribute__")))
    (ek_BadCount : PySem.W.findIn K (.ref x_BadCount) "__getattr__" = some none)
    (ed_BadCount : PySem.W.hasDictIn K x_BadCount = true)
    (ea_BadCount : PySem.W.findIn K (.ref x_BadCount) "__class__" = some (some (.builtin "object.__class__")))
    (em9_BadCount : PySem.W.mroIn K x_BadCount (.type "object") = some true)
    (ki_BadCount_BadThing : PySem.W.kitOne K (.ref x_BadCount) (.ref x_BadThing) = some false)
    (ki_BadCount_BadLock : PySem.W.kitOne K (.ref x_BadCount) (.ref x_BadLock) = some false)
    (ki_BadCount_BadAsk : PySem.W.kitOne K (.ref x_BadCount) (.ref x_BadAsk) = some false)
    (ki_BadCount_BadCount : PySem.W.kitOne K (.ref x_BadCount) (.ref x_BadCount) = some true)
    (ki_BadCount_BadErrand : PySem.W.kitOne K (.ref x_BadCount) (.ref x_BadErrand) = some false)
    (kv_BadCount : PySem.W.kitOne K (.ref x_BadCount) (.type "ValueError") = some true)
    (em_BadErrand : PySem.W.exmOne K (.ref x_BadErrand) (.ref x_GroveError) = some true)
    (eg_BadErrand : PySem.W.findIn K (.ref x_BadErrand) "__getattribute__" = some (some (.builtin "BaseException.__getattribute__")))
    (ek_BadErrand : PySem.W.findIn K (.ref x_BadErrand) "__getattr__" = some none)
    (ed_BadErrand : PySem.W.hasDictIn K x_BadErrand = true)
    (ea_BadErrand : PySem.W.findIn K (.ref x_BadErrand) "__class__" = some (some (.builtin "object.__class__")))
    (em9_BadErrand : PySem.W.mroIn K x_BadErrand (.type "object") = some true)
    (ki_BadErrand_BadThing : PySem.W.kitOne K (.ref x_BadErrand) (.ref x_BadThing) = some false)
    (ki_BadErrand_BadLock : PySem.W.kitOne K (.ref x_BadErrand) (.ref x_BadLock) = some false)
    (ki_BadErrand_BadAsk : PySem.W.kitOne K (.ref x_BadErrand) (.ref x_BadAsk) = some false)
    (ki_BadErrand_BadCount : PySem.W.kitOne K (.ref x_BadErrand) (.ref x_BadCount) = some false)
    (ki_BadErrand_BadErrand : PySem.W.kitOne K (.ref x_BadErrand) (.ref x_BadErrand) = some true)
    (kv_BadErrand : PySem.W.kitOne K (.ref x_BadErrand) (.type "ValueError") = some true)
    (eh : PySem.W.specialIn K (.builtin "object.__class__") "__get__" = some (some (.builtin "getset_descriptor.__get__")))
    (ei : PySem.W.takesIn K (.builtin "object.__class__") = some true)
    (qa_SMALL : PySem.W.nsIn K mainGlobals "SMALL" = some (some (.str "abcdefghijklmnopqrstuvwxyz" qSMALL_t)))
    (qa_MOST_WORD : PySem.W.nsIn K mainGlobals "MOST_WORD" = some (some (.int 6 qMOST_WORD_t)))
    (qa_MOST_DEEP : PySem.W.nsIn K mainGlobals "MOST_DEEP" = some (some (.int 4 qMOST_DEEP_t)))
    (z_ValueError : PySem.W.nsIn K mainGlobals "ValueError" = some none)
    (z_all : PySem.W.nsIn K mainGlobals "all" = some none)
    (z_int : PySem.W.nsIn K mainGlobals "int" = some none)
    (z_isinstance : PySem.W.nsIn K mainGlobals "isinstance" = some none)
    (z_len : PySem.W.nsIn K mainGlobals "len" = some none)
    (z_list : PySem.W.nsIn K mainGlobals "list" = some none)
    (z_max : PySem.W.nsIn K mainGlobals "max" = some none)
    (z_min : PySem.W.nsIn K mainGlobals "min" = some none)
    (z_range : PySem.W.nsIn K mainGlobals "range" = some none)
    (z_str : PySem.W.nsIn K mainGlobals "str" = some none)
    (z_sum : PySem.W.nsIn K mainGlobals "sum" = some none)
    (z_tuple : PySem.W.nsIn K mainGlobals "tuple" = some none)
    (hp : ∀ ns : List Int, ns.length ≤ 63 → (∀ z ∈ ns, Builtin.Int.intBits z ≤ 1048576) → ∃ S, m_law [.scr ns] [] = .ok (.bl true) S) :
    LamX.LawAtS l w K (L2N.CX l.prog w) 6 63 "script" mg fa h := by
  have e := hfa.symm.trans (PySem.W.mg_of X G a_law)
  cases e
  have F__law_drawn := fun_mk (st := s__law_drawn) l__law_drawn cc__law_drawn k__law_drawn
  have F__law_none := fun_mk (st := s__law_none) l__law_none cc__law_none k__law_none
  have F__law_cell := fun_mk (st := s__law_cell) l__law_cell cc__law_cell k__law_cell
  have F__law_thing := fun_mk (st := s__law_thing) l__law_thing cc__law_thing k__law_thing
  have F_above := fun_mk (st := s_above) l_above cc_above k_above
  have F_is_below := fun_mk (st := s_is_below) l_is_below cc_is_below k_is_below
  have F_need := fun_mk (st := s_need) l_need cc_need k_need
  have F_is_word := fun_mk (st := s_is_word) l_is_word cc_is_word k_is_word
  have F_need_name := fun_mk (st := s_need_name) l_need_name cc_need_name k_need_name
  have F_need_thing := fun_mk (st := s_need_thing) l_need_thing cc_need_thing k_need_thing
  have F_written_thing := fun_mk (st := s_written_thing) l_written_thing cc_written_thing k_written_thing
  have F_read_thing := fun_mk (st := s_read_thing) l_read_thing cc_read_thing k_read_thing
  have F_law := fun_mk (st := s_law) l_law cc_law k_law
  have F__law_word := fun_mk (st := s__law_word) l__law_word cc__law_word k__law_word
  have F__law_told := fun_mk (st := s__law_told) l__law_told cc__law_told k__law_told
  let A : Ad := {
    f__law_drawn := f__law_drawn, d__law_drawn := (PySem.W.fnOf "_law_drawn" "_law_drawn" (defArgs s__law_drawn) (defBody s__law_drawn) (defScope s__law_drawn) .none kV__law_drawn dc__law_drawn pm__law_drawn an__law_drawn cd__law_drawn ct__law_drawn),
    f__law_none := f__law_none, d__law_none := (PySem.W.fnOf "_law_none" "_law_none" (defArgs s__law_none) (defBody s__law_none) (defScope s__law_none) .none kV__law_none dc__law_none pm__law_none an__law_none cd__law_none ct__law_none),
    f__law_cell := f__law_cell, d__law_cell := (PySem.W.fnOf "_law_cell" "_law_cell" (defArgs s__law_cell) (defBody s__law_cell) (defScope s__law_cell) .none kV__law_cell dc__law_cell pm__law_cell an__law_cell cd__law_cell ct__law_cell),
    f__law_thing := f__law_thing, d__law_thing := (PySem.W.fnOf "_law_thing" "_law_thing" (defArgs s__law_thing) (defBody s__law_thing) (defScope s__law_thing) .none kV__law_thing dc__law_thing pm__law_thing an__law_thing cd__law_thing ct__law_thing),
    f_above := f_above, d_above := (PySem.W.fnOf "above" "above" (defArgs s_above) (defBody s_above) (defScope s_above) .none kV_above dc_above pm_above an_above cd_above ct_above),
    f_is_below := f_is_below, d_is_below := (PySem.W.fnOf "is_below" "is_below" (defArgs s_is_below) (defBody s_is_below) (defScope s_is_below) .none kV_is_below dc_is_below pm_is_below an_is_below cd_is_below ct_is_below),
    f_need := f_need, d_need := (PySem.W.fnOf "need" "need" (defArgs s_need) (defBody s_need) (defScope s_need) .none kV_need dc_need pm_need an_need cd_need ct_need),
    f_is_word := f_is_word, d_is_word := (PySem.W.fnOf "is_word" "is_word" (defArgs s_is_word) (defBody s_is_word) (defScope s_is_word) .none kV_is_word dc_is_word pm_is_word an_is_word cd_is_word ct_is_word),
    f_need_name := f_need_name, d_need_name := (PySem.W.fnOf "need_name" "need_name" (defArgs s_need_name) (defBody s_need_name) (defScope s_need_name) .none kV_need_name dc_need_name pm_need_name an_need_name cd_need_name ct_need_name),
    f_need_thing := f_need_thing, d_need_thing := (PySem.W.fnOf "need_thing" "need_thing" (defArgs s_need_thing) (defBody s_need_thing) (defScope s_need_thing) .none kV_need_thing dc_need_thing pm_need_thing an_need_thing cd_need_thing ct_need_thing),
    f_written_thing := f_written_thing, d_written_thing := (PySem.W.fnOf "written_thing" "written_thing" (defArgs s_written_thing) (defBody s_written_thing) (defScope s_written_thing) .none kV_written_thing dc_written_thing pm_written_thing an_written_thing cd_written_thing ct_written_thing),
    f_read_thing := f_read_thing, d_read_thing := (PySem.W.fnOf "read_thing" "read_thing" (defArgs s_read_thing) (defBody s_read_thing) (defScope s_read_thing) .none kV_read_thing dc_read_thing pm_read_thing an_read_thing cd_read_thing ct_read_thing),
    f_law := fa, d_law := (PySem.W.fnOf "law" "law" (defArgs s_law) (defBody s_law) (defScope s_law) .none kV_law dc_law pm_law an_law (.ref c_law) ct_law),
    f__law_word := f__law_word, d__law_word := (PySem.W.fnOf "_law_word" "_law_word" (defArgs s__law_word) (defBody s__law_word) (defScope s__law_word) .none kV__law_word dc__law_word pm__law_word an__law_word cd__law_word ct__law_word),
    f__law_told := f__law_told, d__law_told := (PySem.W.fnOf "_law_told" "_law_told" (defArgs s__law_told) (defBody s__law_told) (defScope s__law_told) .none kV__law_told dc__law_told pm__law_told an__law_told cd__law_told ct__law_told),
    c_law := c_law, P_law := P_law,
    x_BadThing := x_BadThing,
    x_BadLock := x_BadLock,
    x_BadAsk := x_BadAsk,
    x_BadCount := x_BadCount,
    x_BadErrand := x_BadErrand,
    x_GroveError := x_GroveError, cd_told := cd__law_told }
  have T : Tx l.prog w K mg A := {
    _law_drawn := ⟨F__law_drawn, F__law_drawn.binds (ps := ["cell", "k"]) fun _ _ _ _ _ _ us hl => match us, hl with | [_, _], _ => rfl, PySem.W.mg_of X G a__law_drawn, k__law_drawn⟩,
    _law_none := ⟨F__law_none, F__law_none.binds (ps := ["more"]) fun _ _ _ _ _ _ us hl => match us, hl with | [_], _ => rfl, PySem.W.mg_of X G a__law_none, k__law_none⟩,
    _law_cell := ⟨F__law_cell, F__law_cell.binds (ps := ["script", "k"]) fun _ _ _ _ _ _ us hl => match us, hl with | [_, _], _ => rfl, PySem.W.mg_of X G a__law_cell, k__law_cell⟩,
    _law_thing := ⟨F__law_thing, F__law_thing.binds (ps := ["more", "deep"]) fun _ _ _ _ _ _ us hl => match us, hl with | [_, _], _ => rfl, PySem.W.mg_of X G a__law_thing, k__law_thing⟩,
    above := ⟨F_above, F_above.binds (ps := ["thing"]) fun _ _ _ _ _ _ us hl => match us, hl with | [_], _ => rfl, PySem.W.mg_of X G a_above, k_above⟩,
    is_below := ⟨F_is_below, F_is_below.binds (ps := ["thing", "other"]) fun _ _ _ _ _ _ us hl => match us, hl with | [_, _], _ => rfl, PySem.W.mg_of X G a_is_below, k_is_below⟩,
    need := ⟨F_need, F_need.binds (ps := ["good"]) fun _ _ _ _ _ _ us hl => match us, hl with | [_], _ => rfl, PySem.W.mg_of X G a_need, k_need⟩,
    is_word := ⟨F_is_word, F_is_word.binds (ps := ["thing"]) fun _ _ _ _ _ _ us hl => match us, hl with | [_], _ => rfl, PySem.W.mg_of X G a_is_word, k_is_word⟩,
    need_name := ⟨F_need_name, F_need_name.binds (ps := ["name"]) fun _ _ _ _ _ _ us hl => match us, hl with | [_], _ => rfl, PySem.W.mg_of X G a_need_name, k_need_name⟩,
    need_thing := ⟨F_need_thing, F_need_thing.binds (ps := ["thing"]) fun _ _ _ _ _ _ us hl => match us, hl with | [_], _ => rfl, PySem.W.mg_of X G a_need_thing, k_need_thing⟩,
    written_thing := ⟨F_written_thing, F_written_thing.binds (ps := ["thing"]) fun _ _ _ _ _ _ us hl => match us, hl with | [_], _ => rfl, PySem.W.mg_of X G a_written_thing, k_written_thing⟩,
    read_thing := ⟨F_read_thing, F_read_thing.binds (ps := ["text"]) fun _ _ _ _ _ _ us hl => match us, hl with | [_], _ => rfl, PySem.W.mg_of X G a_read_thing, k_read_thing⟩,
    law := ⟨F_law, F_law.binds (ps := ["script"]) fun _ _ _ _ _ _ us hl => match us, hl with | [_], _ => rfl, PySem.W.mg_of X G a_law, k_law⟩,
    _law_word := ⟨F__law_word, F__law_word.binds (ps := ["e"]) fun _ _ _ _ _ _ us hl => match us, hl with | [_], _ => rfl, PySem.W.mg_of X G a__law_word, k__law_word⟩,
    _law_told := ⟨F__law_told, F__law_told.binds (ps := ["deed"]) fun _ _ _ _ _ _ us hl => match us, hl with | [_], _ => rfl, PySem.W.mg_of X G a__law_told, k__law_told⟩,
    L_law := ⟨_, _, _, _, _, _, _, _, l_law, rfl⟩,
    cd_law := cc_law,
    x_BadThing := ⟨PySem.W.mg_of X G xa_BadThing, xk_BadThing, xe_BadThing, xs_BadThing, xt_BadThing⟩,
    x_BadLock := ⟨PySem.W.mg_of X G xa_BadLock, xk_BadLock, xe_BadLock, xs_BadLock, xt_BadLock⟩,
    x_BadAsk := ⟨PySem.W.mg_of X G xa_BadAsk, xk_BadAsk, xe_BadAsk, xs_BadAsk, xt_BadAsk⟩,
    x_BadCount := ⟨PySem.W.mg_of X G xa_BadCount, xk_BadCount, xe_BadCount, xs_BadCount, xt_BadCount⟩,
    x_BadErrand := ⟨PySem.W.mg_of X G xa_BadErrand, xk_BadErrand, xe_BadErrand, xs_BadErrand, xt_BadErrand⟩,
    c_SMALL := ⟨(.str (sOf [97, 98, 99, 100, 101, 102, 103, 104, 105, 106, 107, 108, 109, 110, 111, 112, 113, 114, 115, 116, 117, 118, 119, 120, 121, 122])), _, PySem.W.mg_of X G qa_SMALL, ⟨qSMALL_t, rfl⟩, fun g => (.str [97, 98, 99, 100, 101, 102, 103, 104, 105, 106, 107, 108, 109, 110, 111, 112, 113, 114, 115, 116, 117, 118, 119, 120, 121, 122] (by decide))⟩,
    c_MOST_WORD := ⟨(.int 6), _, PySem.W.mg_of X G qa_MOST_WORD, ⟨qMOST_WORD_t, rfl⟩, fun g => (.int 6)⟩,
    c_MOST_DEEP := ⟨(.int 4), _, PySem.W.mg_of X G qa_MOST_DEEP, ⟨qMOST_DEEP_t, rfl⟩, fun g => (.int 4)⟩,
    z_ValueError := PySem.W.mg_none_of X G z_ValueError,
    z_all := PySem.W.mg_none_of X G z_all,
    z_int := PySem.W.mg_none_of X G z_int,
    z_isinstance := PySem.W.mg_none_of X G z_isinstance,
    z_len := PySem.W.mg_none_of X G z_len,
    z_list := PySem.W.mg_none_of X G z_list,
    z_max := PySem.W.mg_none_of X G z_max,
    z_min := PySem.W.mg_none_of X G z_min,
    z_range := PySem.W.mg_none_of X G z_range,
    z_str := PySem.W.mg_none_of X G z_str,
    z_sum := PySem.W.mg_none_of X G z_sum,
    z_tuple := PySem.W.mg_none_of X G z_tuple,
    nd := nd,
    gGE := PySem.W.mg_of X G xa_GE,
    Lt := ⟨_, _, _, _, _, _, _, _, _, _, l__law_told, F__law_told.binds (ps := ["deed"]) fun _ _ _ _ _ _ us hl => match us, hl with | [_], _ => rfl⟩,
    cdt := cc__law_told,
    em_BadThing := em_BadThing,
    ec_BadThing := ⟨eg_BadThing, ek_BadThing, xs_BadThing, ed_BadThing, ea_BadThing, eh, ei, em9_BadThing⟩,
    ki_BadThing_BadThing := ki_BadThing_BadThing,
    ki_BadThing_BadLock := ki_BadThing_BadLock,
    ki_BadThing_BadAsk := ki_BadThing_BadAsk,
    ki_BadThing_BadCount := ki_BadThing_BadCount,
    ki_BadThing_BadErrand := ki_BadThing_BadErrand,
    kv_BadThing := kv_BadThing,
    em_BadLock := em_BadLock,
    ec_BadLock := ⟨eg_BadLock, ek_BadLock, xs_BadLock, ed_BadLock, ea_BadLock, eh, ei, em9_BadLock⟩,
    ki_BadLock_BadThing := ki_BadLock_BadThing,
    ki_BadLock_BadLock := ki_BadLock_BadLock,
    ki_BadLock_BadAsk := ki_BadLock_BadAsk,
    ki_BadLock_BadCount := ki_BadLock_BadCount,
    ki_BadLock_BadErrand := ki_BadLock_BadErrand,
    kv_BadLock := kv_BadLock,
    em_BadAsk := em_BadAsk,
    ec_BadAsk := ⟨eg_BadAsk, ek_BadAsk, xs_BadAsk, ed_BadAsk, ea_BadAsk, eh, ei, em9_BadAsk⟩,
    ki_BadAsk_BadThing := ki_BadAsk_BadThing,
    ki_BadAsk_BadLock := ki_BadAsk_BadLock,
    ki_BadAsk_BadAsk := ki_BadAsk_BadAsk,
    ki_BadAsk_BadCount := ki_BadAsk_BadCount,
    ki_BadAsk_BadErrand := ki_BadAsk_BadErrand,
    kv_BadAsk := kv_BadAsk,
    em_BadCount := em_BadCount,
    ec_BadCount := ⟨eg_BadCount, ek_BadCount, xs_BadCount, ed_BadCount, ea_BadCount, eh, ei, em9_BadCount⟩,
    ki_BadCount_BadThing := ki_BadCount_BadThing,
    ki_BadCount_BadLock := ki_BadCount_BadLock,
    ki_BadCount_BadAsk := ki_BadCount_BadAsk,
    ki_BadCount_BadCount := ki_BadCount_BadCount,
    ki_BadCount_BadErrand := ki_BadCount_BadErrand,
    kv_BadCount := kv_BadCount,
    em_BadErrand := em_BadErrand,
    ec_BadErrand := ⟨eg_BadErrand, ek_BadErrand, xs_BadErrand, ed_BadErrand, ea_BadErrand, eh, ei, em9_BadErrand⟩,
    ki_BadErrand_BadThing := ki_BadErrand_BadThing,
    ki_BadErrand_BadLock := ki_BadErrand_BadLock,
    ki_BadErrand_BadAsk := ki_BadErrand_BadAsk,
    ki_BadErrand_BadCount := ki_BadErrand_BadCount,
    ki_BadErrand_BadErrand := ki_BadErrand_BadErrand,
    kv_BadErrand := kv_BadErrand }
  exact law_at (Γ := Γ0 l.prog w K A) (m := m_law) (cs := [(c_law, P_law)]) rfl (List.forall_mem_cons.mpr ⟨e_law, (fun _ z => by cases z)⟩) (List.forall_mem_cons.mpr ⟨n_law, (fun _ z => by cases z)⟩) (List.forall_mem_cons.mpr ⟨PySem.W.codeHd_of_K X hd_law, (fun _ z => by cases z)⟩) (fun s v => .of_eq rfl) (List.forall_mem_cons.mpr ⟨⟨c_law, List.Mem.head _⟩, (fun _ z => by cases z)⟩) (fun base TB => ok_law T ⟨TB _ (List.Mem.head _)⟩) hp
end K10

namespace K10
open G
def Wd3 (d : D) : Prop := d = .str [97] ∨ d = .str [98] ∨ d = .str [99, 99]
def GoodT (t : D) : Prop := ∃ ws, t = .tup ws ∧ ws.length ≤ 4 ∧ ∀ w ∈ ws, Wd3 w
theorem cell_ok {ns : List Int} {k : Nat} {S : Hs} (hn : ns.length ≤ 63) (hk : k < 2 ^ 64) : m__law_cell [.scr ns, .int k] S = .ok (.int (cellZ ns k)) S := cell_eq hk (by omega)
theorem drawn_ok {c k : Int} {S : Hs} (hc : intBits c ≤ 2000000) (hk : intBits k ≤ 200) : m__law_drawn [.int c, .int k] S = .ok (.int (drawnZ c k)) S := drawn_eq hc hk
theorem thing_ok {M : Int} {S : Hs} (h0 : 0 ≤ M) (hb : intBits M ≤ 200) : ∃ t, m__law_thing [.int M, .int 4] S = .ok t S ∧ GoodT t := by
  have hm : vMod S (.int M) (.int 5) = some (.int (M % 5)) := by simp only [vMod]; rw [if_pos (by decide)]
  obtain ⟨ys, e, hl, hp⟩ := lc_pure (all := rangeD 0 (M % 5).toNat) (tg := .one 2) (L := [some (.int M), some (.int 4), none]) (S := S) (P := Wd3)
    (te := dOp2 vIx (dLst (aCons (dC (.str [97])) (aCons (dC (.str [98])) (aCons (dC (.str [99, 99])) (aNil))))) (dOp2 vMod (dCall m__law_drawn (aCons (dVar 0) (aCons (dVar 2) (aNil)))) (dC (.int 3)))) (rangeD 0 (M % 5).toNat) (fun x hx => by
      obtain ⟨j, rfl, hj⟩ := range_mem hx
      have hj5 : j < 5 := by omega
      have d := drawn_ok (c := M) (k := (j : Int)) (S := S) (bits_mono hb (by decide)) (bits_mono (bits_le (Nat.lt_of_lt_of_le hj5 (by decide))) (by decide))
      refine ⟨[some (.int M), some (.int 4), some (.int j)], ?_⟩
      have h3 : drawnZ M j % 3 = 0 ∨ drawnZ M j % 3 = 1 ∨ drawnZ M j % 3 = 2 := by omega
      have hm3 : vMod S (.int (drawnZ M j)) (.int 3) = some (.int (drawnZ M j % 3)) := by simp only [vMod]; rw [if_pos (by decide)]
      have ev : ∀ y, vIx S (.lst [.str [97], .str [98], .str [99, 99]]) (.int (drawnZ M j % 3)) = some y → dOp2 vIx (dLst (aCons (dC (.str [97])) (aCons (dC (.str [98])) (aCons (dC (.str [99, 99])) (aNil))))) (dOp2 vMod (dCall m__law_drawn (aCons (dVar 0) (aCons (dVar 2) (aNil)))) (dC (.int 3))) [some (.int M), some (.int 4), some (.int j)] S = .ok y S := fun y hy => by
        simp [dOp2, dLst, aCons, aNil, dC, dVar, dCall, Out.bind, ofOpt, big, d, hm3, hy]
      rcases h3 with h | h | h
      · exact ⟨.str [97], rfl, ev _ (by rw [h]; rfl), .inl rfl⟩
      · exact ⟨.str [98], rfl, ev _ (by rw [h]; rfl), .inr (.inl rfl)⟩
      · exact ⟨.str [99, 99], rfl, ev _ (by rw [h]; rfl), .inr (.inr rfl)⟩)
  have hlen : ys.length ≤ 4 := by
    rw [hl]; unfold rangeD; simp; omega
  refine ⟨.tup ys, ?_, ys, rfl, hlen, hp⟩
  have hr : -(2 ^ 62) ≤ M % 5 ∧ M % 5 ≤ 16777216 := by omega
  have hr2 : iRange1 (dOp2 vMod (dVar 0) (dOp2 vAdd (dVar 1) (dC (.int 1)))) [some (.int M), some (.int 4), none] S = .ok (none, rangeD 0 (M % 5).toNat) S := by
    unfold iRange1
    have e0 : dOp2 vMod (dVar 0) (dOp2 vAdd (dVar 1) (dC (.int 1))) [some (.int M), some (.int 4), none] S = .ok (.int (M % 5)) S := by
      simp [dOp2, dVar, dC, Out.bind, ofOpt, vAdd, hm]
    rw [e0]
    show (if _ then _ else _) = _
    rw [if_pos hr]
  show (match b__law_thing_0 [some (.int M), some (.int 4), none] S with | .nx _ S' => Out.ok D.non S' | .rt v S' => .ok v S' | .exc c S' => .exc c S' | _ => .bad) = _
  have eb : b__law_thing_0 [some (.int M), some (.int 4), none] S = .rt (.tup ys) S := by
    unfold b__law_thing_0
    have e1 : dLc (iRange1 (dOp2 vMod (dVar 0) (dOp2 vAdd (dVar 1) (dC (.int 1))))) [2] (.one 2) (tYes) (dOp2 vIx (dLst (aCons (dC (.str [97])) (aCons (dC (.str [98])) (aCons (dC (.str [99, 99])) (aNil))))) (dOp2 vMod (dCall m__law_drawn (aCons (dVar 0) (aCons (dVar 2) (aNil)))) (dC (.int 3)))) [some (.int M), some (.int 4), none] S = .ok (.lst ys) S := by
      unfold dLc
      rw [hr2]
      show (noExc (lcGo none (rangeD 0 (M % 5).toNat) (.one 2) tYes _ [some (.int M), some (.int 4), none] (rangeD 0 (M % 5).toNat) S)).bind _ = _
      rw [e]
      rfl
    rw [ap_sRet, ap_dFn, ap_aCons, e1]
    rfl
  rw [eb]

def THINGS : List D := [.tup [], .tup [.str [97]], .tup [.str [98]], .tup [.str [99, 99]], .tup [.str [97], .str [97]], .tup [.str [97], .str [98]], .tup [.str [97], .str [99, 99]], .tup [.str [98], .str [97]], .tup [.str [98], .str [98]], .tup [.str [98], .str [99, 99]], .tup [.str [99, 99], .str [97]], .tup [.str [99, 99], .str [98]], .tup [.str [99, 99], .str [99, 99]], .tup [.str [97], .str [97], .str [97]], .tup [.str [97], .str [97], .str [98]], .tup [.str [97], .str [97], .str [99, 99]], .tup [.str [97], .str [98], .str [97]], .tup [.str [97], .str [98], .str [98]], .tup [.str [97], .str [98], .str [99, 99]], .tup [.str [97], .str [99, 99], .str [97]], .tup [.str [97], .str [99, 99], .str [98]], .tup [.str [97], .str [99, 99], .str [99, 99]], .tup [.str [98], .str [97], .str [97]], .tup [.str [98], .str [97], .str [98]], .tup [.str [98], .str [97], .str [99, 99]], .tup [.str [98], .str [98], .str [97]], .tup [.str [98], .str [98], .str [98]], .tup [.str [98], .str [98], .str [99, 99]], .tup [.str [98], .str [99, 99], .str [97]], .tup [.str [98], .str [99, 99], .str [98]], .tup [.str [98], .str [99, 99], .str [99, 99]], .tup [.str [99, 99], .str [97], .str [97]], .tup [.str [99, 99], .str [97], .str [98]], .tup [.str [99, 99], .str [97], .str [99, 99]], .tup [.str [99, 99], .str [98], .str [97]], .tup [.str [99, 99], .str [98], .str [98]], .tup [.str [99, 99], .str [98], .str [99, 99]], .tup [.str [99, 99], .str [99, 99], .str [97]], .tup [.str [99, 99], .str [99, 99], .str [98]], .tup [.str [99, 99], .str [99, 99], .str [99, 99]], .tup [.str [97], .str [97], .str [97], .str [97]], .tup [.str [97], .str [97], .str [97], .str [98]], .tup [.str [97], .str [97], .str [97], .str [99, 99]], .tup [.str [97], .str [97], .str [98], .str [97]], .tup [.str [97], .str [97], .str [98], .str [98]], .tup [.str [97], .str [97], .str [98], .str [99, 99]], .tup [.str [97], .str [97], .str [99, 99], .str [97]], .tup [.str [97], .str [97], .str [99, 99], .str [98]], .tup [.str [97], .str [97], .str [99, 99], .str [99, 99]], .tup [.str [97], .str [98], .str [97], .str [97]], .tup [.str [97], .str [98], .str [97], .str [98]], .tup [.str [97], .str [98], .str [97], .str [99, 99]], .tup [.str [97], .str [98], .str [98], .str [97]], .tup [.str [97], .str [98], .str [98], .str [98]], .tup [.str [97], .str [98], .str [98], .str [99, 99]], .tup [.str [97], .str [98], .str [99, 99], .str [97]], .tup [.str [97], .str [98], .str [99, 99], .str [98]], .tup [.str [97], .str [98], .str [99, 99], .str [99, 99]], .tup [.str [97], .str [99, 99], .str [97], .str [97]], .tup [.str [97], .str [99, 99], .str [97], .str [98]], .tup [.str [97], .str [99, 99], .str [97], .str [99, 99]], .tup [.str [97], .str [99, 99], .str [98], .str [97]], .tup [.str [97], .str [99, 99], .str [98], .str [98]], .tup [.str [97], .str [99, 99], .str [98], .str [99, 99]], .tup [.str [97], .str [99, 99], .str [99, 99], .str [97]], .tup [.str [97], .str [99, 99], .str [99, 99], .str [98]], .tup [.str [97], .str [99, 99], .str [99, 99], .str [99, 99]], .tup [.str [98], .str [97], .str [97], .str [97]], .tup [.str [98], .str [97], .str [97], .str [98]], .tup [.str [98], .str [97], .str [97], .str [99, 99]], .tup [.str [98], .str [97], .str [98], .str [97]], .tup [.str [98], .str [97], .str [98], .str [98]], .tup [.str [98], .str [97], .str [98], .str [99, 99]], .tup [.str [98], .str [97], .str [99, 99], .str [97]], .tup [.str [98], .str [97], .str [99, 99], .str [98]], .tup [.str [98], .str [97], .str [99, 99], .str [99, 99]], .tup [.str [98], .str [98], .str [97], .str [97]], .tup [.str [98], .str [98], .str [97], .str [98]], .tup [.str [98], .str [98], .str [97], .str [99, 99]], .tup [.str [98], .str [98], .str [98], .str [97]], .tup [.str [98], .str [98], .str [98], .str [98]], .tup [.str [98], .str [98], .str [98], .str [99, 99]], .tup [.str [98], .str [98], .str [99, 99], .str [97]], .tup [.str [98], .str [98], .str [99, 99], .str [98]], .tup [.str [98], .str [98], .str [99, 99], .str [99, 99]], .tup [.str [98], .str [99, 99], .str [97], .str [97]], .tup [.str [98], .str [99, 99], .str [97], .str [98]], .tup [.str [98], .str [99, 99], .str [97], .str [99, 99]], .tup [.str [98], .str [99, 99], .str [98], .str [97]], .tup [.str [98], .str [99, 99], .str [98], .str [98]], .tup [.str [98], .str [99, 99], .str [98], .str [99, 99]], .tup [.str [98], .str [99, 99], .str [99, 99], .str [97]], .tup [.str [98], .str [99, 99], .str [99, 99], .str [98]], .tup [.str [98], .str [99, 99], .str [99, 99], .str [99, 99]], .tup [.str [99, 99], .str [97], .str [97], .str [97]], .tup [.str [99, 99], .str [97], .str [97], .str [98]], .tup [.str [99, 99], .str [97], .str [97], .str [99, 99]], .tup [.str [99, 99], .str [97], .str [98], .str [97]], .tup [.str [99, 99], .str [97], .str [98], .str [98]], .tup [.str [99, 99], .str [97], .str [98], .str [99, 99]], .tup [.str [99, 99], .str [97], .str [99, 99], .str [97]], .tup [.str [99, 99], .str [97], .str [99, 99], .str [98]], .tup [.str [99, 99], .str [97], .str [99, 99], .str [99, 99]], .tup [.str [99, 99], .str [98], .str [97], .str [97]], .tup [.str [99, 99], .str [98], .str [97], .str [98]], .tup [.str [99, 99], .str [98], .str [97], .str [99, 99]], .tup [.str [99, 99], .str [98], .str [98], .str [97]], .tup [.str [99, 99], .str [98], .str [98], .str [98]], .tup [.str [99, 99], .str [98], .str [98], .str [99, 99]], .tup [.str [99, 99], .str [98], .str [99, 99], .str [97]], .tup [.str [99, 99], .str [98], .str [99, 99], .str [98]], .tup [.str [99, 99], .str [98], .str [99, 99], .str [99, 99]], .tup [.str [99, 99], .str [99, 99], .str [97], .str [97]], .tup [.str [99, 99], .str [99, 99], .str [97], .str [98]], .tup [.str [99, 99], .str [99, 99], .str [97], .str [99, 99]], .tup [.str [99, 99], .str [99, 99], .str [98], .str [97]], .tup [.str [99, 99], .str [99, 99], .str [98], .str [98]], .tup [.str [99, 99], .str [99, 99], .str [98], .str [99, 99]], .tup [.str [99, 99], .str [99, 99], .str [99, 99], .str [97]], .tup [.str [99, 99], .str [99, 99], .str [99, 99], .str [98]], .tup [.str [99, 99], .str [99, 99], .str [99, 99], .str [99, 99]]]
theorem good_mem {t : D} (h : GoodT t) : t ∈ THINGS := by
  obtain ⟨ws, rfl, hl, hw⟩ := h
  match ws, hl, hw with
  | [], _, _ => unfold THINGS; simp
  | [a], _, hw =>
    rcases hw a (by simp) with rfl | rfl | rfl <;> (unfold THINGS; simp)
  | [a, b], _, hw =>
    rcases hw a (by simp) with rfl | rfl | rfl <;> rcases hw b (by simp) with rfl | rfl | rfl <;> (unfold THINGS; simp)
  | [a, b, c], _, hw =>
    rcases hw a (by simp) with rfl | rfl | rfl <;> rcases hw b (by simp) with rfl | rfl | rfl <;> rcases hw c (by simp) with rfl | rfl | rfl <;> (unfold THINGS; simp)
  | [a, b, c, d], _, hw =>
    rcases hw a (by simp) with rfl | rfl | rfl <;> rcases hw b (by simp) with rfl | rfl | rfl <;> rcases hw c (by simp) with rfl | rfl | rfl <;> rcases hw d (by simp) with rfl | rfl | rfl <;> (unfold THINGS; simp)
  | a :: b :: c :: d :: e :: r, hl, _ => simp at hl
def strOf : D → List Nat
  | .str s => s
  | _ => []
def textOf : D → D
  | .tup ws => .str (47 :: joinS [47] (ws.map strOf))
  | _ => .non
def WORDS : List D := [.str [97], .str [97, 98], .str [97, 98, 99], .str [97, 98, 99, 100], .str [97, 98, 99, 100, 101], .str [97, 98, 99, 100, 101, 102]]
theorem need_t : ∀ t ∈ THINGS, ∀ S, m_need_thing [t] S = .ok .non S := by
  unfold THINGS
  repeat (refine List.forall_mem_cons.mpr ⟨by intro S; kernel_rfl, ?_⟩)
  intro t h; cases h
theorem need_w : ∀ w ∈ WORDS, ∀ S, m_need_name [w] S = .ok .non S := by
  unfold WORDS
  repeat (refine List.forall_mem_cons.mpr ⟨by intro S; kernel_rfl, ?_⟩)
  intro t h; cases h
theorem st13 : ∀ t ∈ THINGS, ∀ (x0 x1 x2 x4 x5 x6 x7 x8 x9 x10 : Option D) (S : Hs), b_law_13 [x0, x1, x2, some t, x4, x5, x6, x7, x8, x9, x10] S = b_law_12 [x0, x1, x2, some t, x4, x5, x6, x7, x8, x9, x10] S := by
  unfold THINGS
  repeat (refine List.forall_mem_cons.mpr ⟨by intros; kernel_rfl, ?_⟩)
  intro t h; cases h
theorem st11 : ∀ t ∈ THINGS, ∀ (x0 x1 x2 x4 x5 x6 x7 x8 x9 x10 : Option D) (S : Hs), b_law_11 [x0, x1, x2, some t, x4, x5, x6, x7, x8, x9, x10] S = b_law_8 [x0, x1, x2, some t, x4, x5, some (textOf t), x7, x8, x9, x10] S := by
  unfold THINGS
  repeat (refine List.forall_mem_cons.mpr ⟨by intros; kernel_rfl, ?_⟩)
  intro t h; cases h
theorem st4 (x0 x1 x2 x3 x4 x5 x6 x7 x8 x9 x10 : Option D) (S : Hs) : b_law_4 [x0, x1, x2, x3, x4, x5, x6, x7, x8, x9, x10] S = .nx [x0, x1, x2, x3, x4, x5, x6, x7, x8, some (.int 5), x10] S := by kernel_rfl
theorem st14 {t w : D} (ht : t ∈ THINGS) (hw : w ∈ WORDS) (x0 x1 x2 x4 x6 x7 x8 x9 x10 : Option D) (S : Hs) : b_law_14 [x0, x1, x2, some t, x4, some w, x6, x7, x8, x9, x10] S = b_law_13 [x0, x1, x2, some t, x4, some w, x6, x7, x8, x9, x10] S := by
  unfold b_law_14
  simp [ap_sSeq, ap_sIf, ap_dTor, ap_dT, ap_dOp1, ap_dTold, ap_dCall, ap_aCons, ap_aNil, dVar, Out.bind, need_t t ht S, need_w w hw S, vNotN, isNon, ofOpt, Out.toS, ap_sNext]
theorem okds_good {ws : List D} (h : ∀ w ∈ ws, Wd3 w) : D.okds 63 ws = true := by
  induction ws with
  | nil => simp [D.okds]
  | cons a r ih =>
    have h1 := ih fun w hw => h w (List.mem_cons_of_mem _ hw)
    rcases h a (by simp) with rfl | rfl | rfl <;> simp [D.okds, D.okd, h1]
theorem okds_take {n : Nat} : ∀ {ws : List D} (m : Nat), D.okds n ws = true → D.okds n (ws.take m) = true
  | _, 0, _ => by simp [D.okds]
  | [], m + 1, _ => by simp [D.okds]
  | w :: ws, m + 1, h => by
    simp only [D.okds, Bool.and_eq_true, List.take_succ_cons] at *
    exact ⟨h.1, okds_take m h.2⟩
theorem cut0 {ws : List D} {n : Nat} : cut ws none (some (n : Int)) = ws.take n := by
  unfold cut clip
  have : ¬ ((n : Int) < 0) := by omega
  simp [this]
theorem st12 {t o : D} (ht : GoodT t) (ho : GoodT o) (x0 x1 x2 x5 x6 x7 x8 x9 x10 : Option D) (S : Hs) : b_law_12 [x0, x1, x2, some t, some o, x5, x6, x7, x8, x9, x10] S = b_law_11 [x0, x1, x2, some t, some o, x5, x6, x7, x8, x9, x10] S := by
  obtain ⟨ws, rfl, _, hw⟩ := ht
  obtain ⟨us, rfl, _, hu⟩ := ho
  have k1 := okds_good hw
  have k2 := okds_good hu
  have k3 := okds_take us.length k1
  have e1 : m_is_below [.tup ws, .tup us] S = .ok (.bl (decide (us.length < ws.length) && D.eqvs (ws.take us.length) us)) S := by
    show (match b_is_below_0 [some (.tup ws), some (.tup us)] S with | .nx _ S' => Out.ok D.non S' | .rt v S' => .ok v S' | .exc c S' => .exc c S' | _ => .bad) = _
    unfold b_is_below_0
    by_cases hlt : us.length < ws.length
    · simp [ap_sRet, ap_dAndV, ap_dOp2, ap_dFn, ap_aCons, ap_aNil, dVar, Out.bind, ofOpt, vLen, vGt, hlt, dSlice, oNone, oSome, vSl, vSlT, cut0, vEq, nrm, seqOf, D.okd, k2, k3, D.eqv, Out.toS]
    · simp [ap_sRet, ap_dAndV, ap_dOp2, ap_dFn, ap_aCons, ap_aNil, dVar, Out.bind, ofOpt, vLen, vGt, hlt, Out.toS]
  unfold b_law_12
  by_cases hlt : us.length < ws.length
  · simp [ap_sSeq, ap_sIf, ap_dT, ap_dOp2, ap_dCall, ap_dAndV, ap_dFn, ap_aCons, ap_aNil, dVar, Out.bind, e1, ofOpt, vLen, vGt, hlt, dSlice, oNone, oSome, vSl, vSlL, vList, cut0, vEq, vNe, nrm, seqOf, D.okd, k2, k3, D.eqv, Out.toS, ap_sNext]
  · simp [ap_sSeq, ap_sIf, ap_dT, ap_dOp2, ap_dCall, ap_dAndV, ap_dFn, ap_aCons, ap_aNil, dVar, Out.bind, e1, ofOpt, vLen, vGt, hlt, vNe, nrm, seqOf, D.okd, D.eqv, Out.toS, ap_sNext]
def NONES : List D := [.non, .str [97], .lst [.str [97]], .tup [.str [65]], .tup [.str []], .tup [.str [97, 98, 99, 100, 101, 102, 103]], .tup [.str [97], .str [98], .str [99], .str [100], .str [101]], .tup [.int 1], .tup [.str [97], .non], .tup [.str [97, 32, 98]], .tup [.str [97, 47]], .tup [.tup [.str [97]]], .tup [.str [97, 49]], .dct [], .int 5, .tup [.str [10]]]
theorem none_t : ∀ n ∈ NONES, ∀ S, m_need_thing [n] S = .exc 0 S ∧ m_written_thing [n] S = .exc 0 S := by
  unfold NONES
  repeat (refine List.forall_mem_cons.mpr ⟨by intro S; exact ⟨by kernel_rfl, by kernel_rfl⟩, ?_⟩)
  intro t h; cases h
end K10

namespace K10
open G
theorem none_ok {z : Int} (S : Hs) : ∃ n ∈ NONES, m__law_none [.int z] S = .ok n S := by
  have h16 : 0 ≤ z % 16 ∧ z % 16 < 16 := by omega
  obtain ⟨j, hj⟩ : ∃ j : Nat, z % 16 = j := ⟨(z % 16).toNat, by omega⟩
  have hj16 : j < 16 := by omega
  have hm : vMod S (.int z) (.int 16) = some (.int j) := by simp only [vMod]; rw [if_pos (by decide), hj]
  have hlt : j < NONES.length := hj16
  have hx : vIx S (.lst NONES) (.int j) = some NONES[j] := by
    simp only [vIx, seqOf, vIxL, atD, ixD]
    have h0 : (0 : Int) ≤ (j : Int) := by omega
    have h1 : (j : Int) < (NONES.length : Int) := by show (j : Int) < 16; omega
    rw [if_pos h0, if_pos h1, Option.bind_some, Int.toNat_natCast, List.getElem?_eq_getElem hlt]
  have hl : vLen S [.lst NONES] = some (.int 16) := rfl
  refine ⟨NONES[j], List.getElem_mem _, ?_⟩
  show (match b__law_none_2 [some (.int z), none] S with | .nx _ S' => Out.ok D.non S' | .rt v S' => .ok v S' | .exc c S' => .exc c S' | _ => .bad) = _
  have e1 : b__law_none_2 [some (.int z), none] S = b__law_none_0 [some (.int z), some (.lst NONES)] S := by kernel_rfl
  have e2 : b__law_none_0 [some (.int z), some (.lst NONES)] S = .rt NONES[j] S := by
    unfold b__law_none_0
    simp only [ap_sRet, ap_dOp2, ap_dFn, ap_aCons, ap_aNil, dVar, List.getElem?_cons_zero, List.getElem?_cons_succ, ap_bind_ok, hl, ap_some, hm, hx, ap_toS_ok]
  rw [e1, e2]
theorem st7 {n : D} (hn : n ∈ NONES) (x0 x1 x2 x3 x4 x5 x6 x8 x9 x10 : Option D) (S : Hs) :
    ∃ L' S', b_law_7 [x0, x1, x2, x3, x4, x5, x6, some n, x8, x9, x10] S = .nx (x0 :: L') S' ∧ L'.length = 10 := by
  obtain ⟨_, _⟩ := none_t n hn S
  have h1 : m_need_thing [n] S = .exc 0 S := (none_t n hn S).1
  have h2 := (none_t n hn (S ++ [.lst [.tup [.str [114, 101, 102, 117, 115, 101, 100], .str [66, 97, 100, 84, 104, 105, 110, 103]]]])).2
  refine ⟨[x1, x2, x3, x4, x5, x6, some n, some (.ref S.length), some (.int 5), x10], S ++ [.lst [.tup [.str [114, 101, 102, 117, 115, 101, 100], .str [66, 97, 100, 84, 104, 105, 110, 103]], .tup [.str [114, 101, 102, 117, 115, 101, 100], .str [66, 97, 100, 84, 104, 105, 110, 103]]]], ?_, rfl⟩
  have e7 : b_law_7 [x0, x1, x2, x3, x4, x5, x6, some n, x8, x9, x10] S = b_law_6 [x0, x1, x2, x3, x4, x5, x6, some n, some (.ref S.length), x9, x10] (S ++ [.lst [.tup [.str [114, 101, 102, 117, 115, 101, 100], .str [66, 97, 100, 84, 104, 105, 110, 103]]]]) := by
    unfold b_law_7
    simp [ap_sSeq, ap_sAsg, ap_dNewL, ap_aCons, ap_aNil, ap_dTold, ap_dCall, dVar, Out.bind, h1, nmE, big, Out.toS]
  have e6 : b_law_6 [x0, x1, x2, x3, x4, x5, x6, some n, some (.ref S.length), x9, x10] (S ++ [.lst [.tup [.str [114, 101, 102, 117, 115, 101, 100], .str [66, 97, 100, 84, 104, 105, 110, 103]]]]) = b_law_5 [x0, x1, x2, x3, x4, x5, x6, some n, some (.ref S.length), x9, x10] (S ++ [.lst [.tup [.str [114, 101, 102, 117, 115, 101, 100], .str [66, 97, 100, 84, 104, 105, 110, 103]], .tup [.str [114, 101, 102, 117, 115, 101, 100], .str [66, 97, 100, 84, 104, 105, 110, 103]]]]) := by
    unfold b_law_6
    simp [ap_sSeq, ap_sExpr, ap_dApp, ap_aCons, ap_aNil, ap_dTold, ap_dCall, dVar, Out.bind, h2, nmE, big, Out.toS, List.set_append]
  have e5 : ∀ S', S' = S ++ [AO.lst [.tup [.str [114, 101, 102, 117, 115, 101, 100], .str [66, 97, 100, 84, 104, 105, 110, 103]], .tup [.str [114, 101, 102, 117, 115, 101, 100], .str [66, 97, 100, 84, 104, 105, 110, 103]]]] → b_law_5 [x0, x1, x2, x3, x4, x5, x6, some n, some (.ref S.length), x9, x10] S' = b_law_4 [x0, x1, x2, x3, x4, x5, x6, some n, some (.ref S.length), x9, x10] S' := by
    intro S' hS
    have hg : S'[S.length]? = some (AO.lst [.tup [.str [114, 101, 102, 117, 115, 101, 100], .str [66, 97, 100, 84, 104, 105, 110, 103]], .tup [.str [114, 101, 102, 117, 115, 101, 100], .str [66, 97, 100, 84, 104, 105, 110, 103]]]) := by rw [hS]; simp
    have hv : vNe S' (.ref S.length) (.lst [.tup [.str [114, 101, 102, 117, 115, 101, 100], .str [66, 97, 100, 84, 104, 105, 110, 103]], .tup [.str [114, 101, 102, 117, 115, 101, 100], .str [66, 97, 100, 84, 104, 105, 110, 103]]]) = some (.bl false) := by
      unfold vNe nrm seqOf
      simp only [hg]
      rfl
    unfold b_law_5
    have hm : (dOp2 vMul (dLst (aCons (dTup (aCons (dC (.str [114, 101, 102, 117, 115, 101, 100])) (aCons (dC (.str [66, 97, 100, 84, 104, 105, 110, 103])) (aNil)))) (aNil))) (dC (.int 2))) [x0, x1, x2, x3, x4, x5, x6, some n, some (.ref S.length), x9, x10] S' = .ok (.lst [.tup [.str [114, 101, 102, 117, 115, 101, 100], .str [66, 97, 100, 84, 104, 105, 110, 103]], .tup [.str [114, 101, 102, 117, 115, 101, 100], .str [66, 97, 100, 84, 104, 105, 110, 103]]]) S' := by kernel_rfl
    have hd : dVar 8 [x0, x1, x2, x3, x4, x5, x6, some n, some (.ref S.length), x9, x10] S' = .ok (.ref S.length) S' := rfl
    rw [ap_sSeq, ap_sIf, ap_dT, ap_dOp2, hd, ap_bind_ok, hm, ap_bind_ok, hv]
    rfl
  rw [e7, e6, e5 _ rfl, st4]
theorem good_take {t : D} {n : Nat} (h : GoodT t) : ∀ S, ∃ o, vSl none (some (n : Int)) S t = some o ∧ GoodT o := fun S => by
  obtain ⟨ws, rfl, hl, hw⟩ := h
  refine ⟨.tup (ws.take n), ?_, ws.take n, rfl, ?_, fun w h => hw w (List.mem_of_mem_take h)⟩
  · simp only [vSl, vSlT, cut0]
  · rw [List.length_take]; omega
theorem st15 {t o : D} {M : Int} (ht : GoodT t) (ho : GoodT o) (hM : 0 ≤ M) (hb : intBits M ≤ 129) (x0 x1 x5 x6 x7 x8 x9 x10 : Option D) (S : Hs) :
    ∃ L' S', b_law_15 [x0, x1, some (.int M), some t, some o, x5, x6, x7, x8, x9, x10] S = .nx (x0 :: L') S' ∧ L'.length = 10 := by
  have hw : ∃ w ∈ WORDS, (dSlice vSl (dC (.str [97, 98, 99, 100, 101, 102])) oNone (oSome (dOp2 vAdd (dC (.int 1)) (dOp2 vMod (dVar 2) (dC (.int 6)))))) [x0, x1, some (.int M), some t, some o, x5, x6, x7, x8, x9, x10] S = .ok w S := by
    have hm : vMod S (.int M) (.int 6) = some (.int (M % 6)) := by simp only [vMod]; rw [if_pos (by decide)]
    have h6 : M % 6 = 0 ∨ M % 6 = 1 ∨ M % 6 = 2 ∨ M % 6 = 3 ∨ M % 6 = 4 ∨ M % 6 = 5 := by omega
    have ev : ∀ w, vSl none (some (1 + M % 6)) S (.str [97, 98, 99, 100, 101, 102]) = some w → (dSlice vSl (dC (.str [97, 98, 99, 100, 101, 102])) oNone (oSome (dOp2 vAdd (dC (.int 1)) (dOp2 vMod (dVar 2) (dC (.int 6)))))) [x0, x1, some (.int M), some t, some o, x5, x6, x7, x8, x9, x10] S = .ok w S := fun w hw => by
      simp [dSlice, oNone, oSome, ap_dOp2, ap_dC, dVar, Out.bind, ofOpt, hm, vAdd, hw]
    unfold WORDS
    rcases h6 with h | h | h | h | h | h
    · exact ⟨.str [97], by simp, ev _ (by rw [h]; rfl)⟩
    · exact ⟨.str [97, 98], by simp, ev _ (by rw [h]; rfl)⟩
    · exact ⟨.str [97, 98, 99], by simp, ev _ (by rw [h]; rfl)⟩
    · exact ⟨.str [97, 98, 99, 100], by simp, ev _ (by rw [h]; rfl)⟩
    · exact ⟨.str [97, 98, 99, 100, 101], by simp, ev _ (by rw [h]; rfl)⟩
    · exact ⟨.str [97, 98, 99, 100, 101, 102], by simp, ev _ (by rw [h]; rfl)⟩
  obtain ⟨w, hwm, hwe⟩ := hw
  have tm := good_mem ht
  have d3 := drawn_ok (c := M) (k := 3) (S := S) (bits_mono hb (by decide)) (by decide)
  obtain ⟨n, hn, he⟩ := none_ok (z := drawnZ M 3) S
  obtain ⟨L', S', e7, hl⟩ := st7 hn x0 x1 (some (.int M)) (some t) (some o) (some w) (some (textOf t)) x8 x9 x10 S
  refine ⟨L', S', ?_, hl⟩
  have e15 : b_law_15 [x0, x1, some (.int M), some t, some o, x5, x6, x7, x8, x9, x10] S = b_law_14 [x0, x1, some (.int M), some t, some o, some w, x6, x7, x8, x9, x10] S := by
    unfold b_law_15
    rw [ap_sSeq, ap_sAsg, hwe]
    rfl
  have e8 : b_law_8 [x0, x1, some (.int M), some t, some o, some w, some (textOf t), x7, x8, x9, x10] S = b_law_7 [x0, x1, some (.int M), some t, some o, some w, some (textOf t), some n, x8, x9, x10] S := by
    unfold b_law_8
    simp [ap_sSeq, ap_sAsg, ap_dCall, ap_aCons, ap_aNil, ap_dC, dVar, Out.bind, d3, he, Out.toS]
  rw [e15, st14 tm hwm, st13 t tm, st12 ht ho, st11 t tm, e8, e7]
theorem body_ok {ns : List Int} {k : Nat} (hn : ns.length ≤ 63) (hb : ∀ z ∈ ns, intBits z ≤ 1048576) (hk : k < 5) (x2 x3 x4 x5 x6 x7 x8 x9 x10 : Option D) (S : Hs) :
    ∃ L' S', b_law_18 [some (.scr ns), some (.int k), x2, x3, x4, x5, x6, x7, x8, x9, x10] S = .nx (some (.scr ns) :: L') S' ∧ L'.length = 10 := by
  have k64 : k < 2 ^ 64 := Nat.lt_of_lt_of_le hk (by decide)
  have e1 := cell_ok (k := k) (S := S) hn k64
  have e2 := drawn_ok (c := cellZ ns k) (k := (k : Int)) (S := S) (bits_mono (cell_bits hb k64) (by decide)) (bits_mono (bits_le k64) (by decide))
  generalize hM : drawnZ (cellZ ns k) k = M at e2
  have M0 : 0 ≤ M := by rw [← hM]; exact drawnZ_nn _ _
  have Mb : intBits M ≤ 129 := by rw [← hM]; exact drawnZ_bits _ _
  have d1 := drawn_ok (c := M) (k := 1) (S := S) (bits_mono Mb (by decide)) (by decide)
  have d2 := drawn_ok (c := M) (k := 2) (S := S) (bits_mono Mb (by decide)) (by decide)
  obtain ⟨t, t1, t2⟩ := thing_ok (M := drawnZ M 1) (S := S) (drawnZ_nn _ _) (bits_mono (drawnZ_bits _ _) (by decide))
  obtain ⟨o, o1, o2⟩ := thing_ok (M := drawnZ M 2) (S := S) (drawnZ_nn _ _) (bits_mono (drawnZ_bits _ _) (by decide))
  have e18 : b_law_18 [some (.scr ns), some (.int k), x2, x3, x4, x5, x6, x7, x8, x9, x10] S = b_law_17 [some (.scr ns), some (.int k), some (.int M), x3, x4, x5, x6, x7, x8, x9, x10] S := by
    unfold b_law_18
    simp [ap_sSeq, ap_sAsg, ap_dCall, ap_aCons, ap_aNil, dVar, Out.bind, e1, e2, Out.toS]
  have e17 : b_law_17 [some (.scr ns), some (.int k), some (.int M), x3, x4, x5, x6, x7, x8, x9, x10] S = b_law_16 [some (.scr ns), some (.int k), some (.int M), some t, some o, x5, x6, x7, x8, x9, x10] S := by
    unfold b_law_17
    simp [ap_sSeq, ap_sAsgT, ap_dTup, ap_dCall, ap_aCons, ap_aNil, ap_dC, dVar, Out.bind, d1, d2, t1, o1, big, bindTg, setAll, Out.toS]
  have e16 : ∃ o', GoodT o' ∧ b_law_16 [some (.scr ns), some (.int k), some (.int M), some t, some o, x5, x6, x7, x8, x9, x10] S = b_law_15 [some (.scr ns), some (.int k), some (.int M), some t, some o', x5, x6, x7, x8, x9, x10] S := by
    have hm3 : vMod S (.int M) (.int 3) = some (.int (M % 3)) := by simp only [vMod]; rw [if_pos (by decide)]
    have hd4 : vFdiv S (.int M) (.int 4) = some (.int (M / 4)) := by simp only [vFdiv]; rw [if_pos (by decide)]
    have hm5 : vMod S (.int (M / 4)) (.int 5) = some (.int (M / 4 % 5)) := by simp only [vMod]; rw [if_pos (by decide)]
    have heq : vEq S (.int (M % 3)) (.int 0) = some (.bl (M % 3 == 0)) := by simp [vEq, nrm, seqOf, D.okd, D.eqv]
    have hc : dT (dOp2 vEq (dOp2 vMod (dVar 2) (dC (.int 3))) (dC (.int 0))) [some (.scr ns), some (.int k), some (.int M), some t, some o, x5, x6, x7, x8, x9, x10] S = .ok (M % 3 == 0) S := by
      simp [ap_dT, ap_dOp2, ap_dC, dVar, Out.bind, ofOpt, hm3, heq]
    by_cases h3 : (M % 3 == 0) = true
    · obtain ⟨j, hj⟩ : ∃ j : Nat, M / 4 % 5 = j := ⟨(M / 4 % 5).toNat, by omega⟩
      obtain ⟨o', q1, q2⟩ := good_take (n := j) t2 S
      refine ⟨o', q2, ?_⟩
      unfold b_law_16
      rw [ap_sSeq, ap_sIf, hc, h3]
      have : b_law_0 [some (.scr ns), some (.int k), some (.int M), some t, some o, x5, x6, x7, x8, x9, x10] S = .nx [some (.scr ns), some (.int k), some (.int M), some t, some o', x5, x6, x7, x8, x9, x10] S := by
        unfold b_law_0
        simp [ap_sAsg, dSlice, oNone, oSome, ap_dOp2, ap_dC, dVar, Out.bind, ofOpt, hd4, hm5, hj, q1, Out.toS]
      simp [Out.toS, this]
    · refine ⟨o, o2, ?_⟩
      unfold b_law_16
      rw [ap_sSeq, ap_sIf, hc]
      simp [Out.toS, h3, ap_sNext]
  obtain ⟨o', o2', e16⟩ := e16
  rw [e18, e17, e16]
  exact st15 t2 o2' M0 Mb _ _ _ _ _ _ _ _ S
theorem loop_ok {ns : List Int} (hn : ns.length ≤ 63) (hb : ∀ z ∈ ns, intBits z ≤ 1048576) : ∀ (xs : List D), (∀ x ∈ xs, ∃ k : Nat, x = .int k ∧ k < 5) → ∀ (all : List D) (L : Lc) (S : Hs), L.length = 10 → ∃ L' S', forGo none all (.one 1) b_law_18 xs (some (.scr ns) :: L) S = .nx (some (.scr ns) :: L') S' ∧ L'.length = 10
  | [], _, all, L, S, hl => ⟨L, S, rfl, hl⟩
  | x :: r, h, all, L, S, hl => by
    obtain ⟨k, rfl, hk⟩ := h x (by simp)
    match L, hl with
    | [x1, x2, x3, x4, x5, x6, x7, x8, x9, x10], _ =>
      obtain ⟨L1, S1, e1, hl1⟩ := body_ok hn hb hk x2 x3 x4 x5 x6 x7 x8 x9 x10 S
      obtain ⟨L2, S2, e2, hl2⟩ := loop_ok hn hb r (fun y hy => h y (List.mem_cons_of_mem _ hy)) all L1 S1 hl1
      refine ⟨L2, S2, ?_, hl2⟩
      unfold forGo
      simp only [srcOk, if_true, bindTg, List.set_cons_succ, List.set_cons_zero, e1, e2]
theorem law_pure : ∀ ns : List Int, ns.length ≤ 63 → (∀ z ∈ ns, PySem.Builtin.Int.intBits z ≤ 1048576) → ∃ S, m_law [.scr ns] [] = .ok (.bl true) S := by
  intro ns hn hb
  have hb' : ∀ z ∈ ns, intBits z ≤ 1048576 := hb
  obtain ⟨j, hj, hj5⟩ : ∃ j : Nat, (if (if (ns.length : Int) < 5 then (ns.length : Int) else 5) > 1 then (if (ns.length : Int) < 5 then (ns.length : Int) else 5) else 1) = (j : Int) ∧ j ≤ 5 := by
    split <;> split <;> first | exact ⟨ns.length, rfl, by omega⟩ | exact ⟨5, rfl, by omega⟩ | exact ⟨1, rfl, by omega⟩
  obtain ⟨L1, S1, e1, hl1⟩ := loop_ok hn hb' (rangeD 0 j) (fun x hx => by
    obtain ⟨i, rfl, hi⟩ := range_mem hx
    exact ⟨i, rfl, by omega⟩) (rangeD 0 j) [none, none, none, none, none, none, none, none, none, none] [] rfl
  refine ⟨S1, ?_⟩
  show (match b_law_19 [some (.scr ns), none, none, none, none, none, none, none, none, none, none] [] with | .nx _ S' => Out.ok D.non S' | .rt v S' => .ok v S' | .exc c S' => .exc c S' | _ => .bad) = _
  have hi : iRange1 (dFn vMax2 (aCons (dC (.int 1)) (aCons (dFn vMin2 (aCons (dC (.int 5)) (aCons (dFn vLen (aCons (dVar 0) (aNil))) (aNil)))) (aNil)))) [some (.scr ns), none, none, none, none, none, none, none, none, none, none] [] = .ok (none, rangeD 0 j) [] := by
    have e0 : dFn vMax2 (aCons (dC (.int 1)) (aCons (dFn vMin2 (aCons (dC (.int 5)) (aCons (dFn vLen (aCons (dVar 0) (aNil))) (aNil)))) (aNil))) [some (.scr ns), none, none, none, none, none, none, none, none, none, none] [] = .ok (.int j) [] := by
      simp only [ap_dFn, ap_aCons, ap_aNil, ap_dC, dVar, List.getElem?_cons_zero, ap_bind_ok, vLen, seqOf, List.length_map, ap_some, vMin2, vMax2, hj]
    unfold iRange1
    rw [e0]
    show (if _ then _ else _) = _
    rw [if_pos (by omega)]
    simp
  have e : b_law_19 [some (.scr ns), none, none, none, none, none, none, none, none, none, none] [] = .rt (.bl true) S1 := by
    unfold b_law_19
    rw [ap_sSeq, ap_sFor, hi]
    show (match forGo none (rangeD 0 j) (.one 1) b_law_18 (rangeD 0 j) _ [] with | .nx L1 S1 => _ | o => o) = _
    rw [e1]
    rfl
  rw [e]
end K10

open PySem PySem.W PyProof.Rows
set_option maxRecDepth 100000 in
set_option maxHeartbeats 0 in
theorem PySem.Challenge.cw_grovelocks_k10_things_holds : PySem.Challenge.rw_grovelocks_k10_things.Holds := by
  w_on; o_law; k_head; (case hw => w_witness2)
  k_fill
  refine LamX.walk_ofTs (l := PySem.Challenge.rw_grovelocks_k10_things) (n := 63) (k := 6) (x := "script") (CX := fun w => L2N.CX PySem.Challenge.rw_grovelocks_k10_things.prog w) rfl (by decide) rfl ⟨rfl, by decide, by decide⟩ (fun w h Y => PySem.W.km_in_of Y) ?F (fun _ _ _ _ _ z => G.cx_false z)
  case F =>
    intro w mg fa h Y KX G hmg
    have hT := PySem.W.km_tabs_of Y
    refine' K10.all_mk KX G hmg ?a__law_drawn ?l__law_drawn ?cc__law_drawn ?k__law_drawn ?a__law_none ?l__law_none ?cc__law_none ?k__law_none ?a__law_cell ?l__law_cell ?cc__law_cell ?k__law_cell ?a__law_thing ?l__law_thing ?cc__law_thing ?k__law_thing ?a_above ?l_above ?cc_above ?k_above ?a_is_below ?l_is_below ?cc_is_below ?k_is_below ?a_need ?l_need ?cc_need ?k_need ?a_is_word ?l_is_word ?cc_is_word ?k_is_word ?a_need_name ?l_need_name ?cc_need_name ?k_need_name ?a_need_thing ?l_need_thing ?cc_need_thing ?k_need_thing ?a_written_thing ?l_written_thing ?cc_written_thing ?k_written_thing ?a_read_thing ?l_read_thing ?cc_read_thing ?k_read_thing ?a_law ?l_law ?cc_law ?k_law ?lc_law ?tp_law ?hd_law ?n_law ?e_law ?a__law_word ?l__law_word ?cc__law_word ?k__law_word ?a__law_told ?l__law_told ?cc__law_told ?k__law_told ?nd ?xa_BadThing ?xk_BadThing ?xe_BadThing ?xs_BadThing ?xt_BadThing ?xa_BadLock ?xk_BadLock ?xe_BadLock ?xs_BadLock ?xt_BadLock ?xa_BadAsk ?xk_BadAsk ?xe_BadAsk ?xs_BadAsk ?xt_BadAsk ?xa_BadCount ?xk_BadCount ?xe_BadCount ?xs_BadCount ?xt_BadCount ?xa_BadErrand ?xk_BadErrand ?xe_BadErrand ?xs_BadErrand ?xt_BadErrand ?xa_GE ?em_BadThing ?eg_BadThing ?ek_BadThing ?ed_BadThing ?ea_BadThing ?em9_BadThing ?ki_BadThing_BadThing ?ki_BadThing_BadLock ?ki_BadThing_BadAsk ?ki_BadThing_BadCount ?ki_BadThing_BadErrand ?kv_BadThing ?em_BadLock ?eg_BadLock ?ek_BadLock ?ed_BadLock ?ea_BadLock ?em9_BadLock ?ki_BadLock_BadThing ?ki_BadLock_BadLock ?ki_BadLock_BadAsk ?ki_BadLock_BadCount ?ki_BadLock_BadErrand ?kv_BadLock ?em_BadAsk ?eg_BadAsk ?ek_BadAsk ?ed_BadAsk ?ea_BadAsk ?em9_BadAsk ?ki_BadAsk_BadThing ?ki_BadAsk_BadLock ?ki_BadAsk_BadAsk ?ki_BadAsk_BadCount ?ki_BadAsk_BadErrand ?kv_BadAsk ?em_BadCount ?eg_BadCount ?ek_BadCount ?ed_BadCount ?ea_BadCount ?em9_BadCount ?ki_BadCount_BadThing ?ki_BadCount_BadLock ?ki_BadCount_BadAsk ?ki_BadCount_BadCount ?ki_BadCount_BadErrand ?kv_BadCount ?em_BadErrand ?eg_BadErrand ?ek_BadErrand ?ed_BadErrand ?ea_BadErrand ?em9_BadErrand ?ki_BadErrand_BadThing ?ki_BadErrand_BadLock ?ki_BadErrand_BadAsk ?ki_BadErrand_BadCount ?ki_BadErrand_BadErrand ?kv_BadErrand ?eh ?ei ?qa_SMALL ?qa_MOST_WORD ?qa_MOST_DEEP ?z_ValueError ?z_all ?z_int ?z_isinstance ?z_len ?z_list ?z_max ?z_min ?z_range ?z_str ?z_sum ?z_tuple K10.law_pure
    (case a__law_drawn => k_is)
    (case l__law_drawn => k_is)
    (case cc__law_drawn => k_is)
    (case k__law_drawn => k_is)
    (case a__law_none => k_is)
    (case l__law_none => k_is)
    (case cc__law_none => k_is)
    (case k__law_none => k_is)
    (case a__law_cell => k_is)
    (case l__law_cell => k_is)
    (case cc__law_cell => k_is)
    (case k__law_cell => k_is)
    (case a__law_thing => k_is)
    (case l__law_thing => k_is)
    (case cc__law_thing => k_is)
    (case k__law_thing => k_is)
    (case a_above => k_is)
    (case l_above => k_is)
    (case cc_above => k_is)
    (case k_above => k_is)
    (case a_is_below => k_is)
    (case l_is_below => k_is)
    (case cc_is_below => k_is)
    (case k_is_below => k_is)
    (case a_need => k_is)
    (case l_need => k_is)
    (case cc_need => k_is)
    (case k_need => k_is)
    (case a_is_word => k_is)
    (case l_is_word => k_is)
    (case cc_is_word => k_is)
    (case k_is_word => k_is)
    (case a_need_name => k_is)
    (case l_need_name => k_is)
    (case cc_need_name => k_is)
    (case k_need_name => k_is)
    (case a_need_thing => k_is)
    (case l_need_thing => k_is)
    (case cc_need_thing => k_is)
    (case k_need_thing => k_is)
    (case a_written_thing => k_is)
    (case l_written_thing => k_is)
    (case cc_written_thing => k_is)
    (case k_written_thing => k_is)
    (case a_read_thing => k_is)
    (case l_read_thing => k_is)
    (case cc_read_thing => k_is)
    (case k_read_thing => k_is)
    (case a_law => k_is)
    (case l_law => k_is)
    (case cc_law => k_is)
    (case k_law => k_is)
    (case lc_law => k_is)
    (case tp_law => rfl)
    (case hd_law => kernel_rfl)
    (case n_law => kernel_rfl)
    (case e_law => exact hT _ (by simp))
    (case a__law_word => k_is)
    (case l__law_word => k_is)
    (case cc__law_word => k_is)
    (case k__law_word => k_is)
    (case a__law_told => k_is)
    (case l__law_told => k_is)
    (case cc__law_told => k_is)
    (case k__law_told => k_is)
    (case nd => decide)
    (case xa_BadThing => k_is)
    (case xk_BadThing => k_is)
    (case xe_BadThing => kernel_rfl)
    (case xs_BadThing => k_is)
    (case xt_BadThing => k_is)
    (case xa_BadLock => k_is)
    (case xk_BadLock => k_is)
    (case xe_BadLock => kernel_rfl)
    (case xs_BadLock => k_is)
    (case xt_BadLock => k_is)
    (case xa_BadAsk => k_is)
    (case xk_BadAsk => k_is)
    (case xe_BadAsk => kernel_rfl)
    (case xs_BadAsk => k_is)
    (case xt_BadAsk => k_is)
    (case xa_BadCount => k_is)
    (case xk_BadCount => k_is)
    (case xe_BadCount => kernel_rfl)
    (case xs_BadCount => k_is)
    (case xt_BadCount => k_is)
    (case xa_BadErrand => k_is)
    (case xk_BadErrand => k_is)
    (case xe_BadErrand => kernel_rfl)
    (case xs_BadErrand => k_is)
    (case xt_BadErrand => k_is)
    (case xa_GE => k_is)
    (case em_BadThing => kernel_rfl)
    (case eg_BadThing => k_is)
    (case ek_BadThing => k_is)
    (case ed_BadThing => k_is)
    (case ea_BadThing => k_is)
    (case em9_BadThing => k_is)
    (case ki_BadThing_BadThing => kernel_rfl)
    (case ki_BadThing_BadLock => kernel_rfl)
    (case ki_BadThing_BadAsk => kernel_rfl)
    (case ki_BadThing_BadCount => kernel_rfl)
    (case ki_BadThing_BadErrand => kernel_rfl)
    (case kv_BadThing => kernel_rfl)
    (case em_BadLock => kernel_rfl)
    (case eg_BadLock => k_is)
    (case ek_BadLock => k_is)
    (case ed_BadLock => k_is)
    (case ea_BadLock => k_is)
    (case em9_BadLock => k_is)
    (case ki_BadLock_BadThing => kernel_rfl)
    (case ki_BadLock_BadLock => kernel_rfl)
    (case ki_BadLock_BadAsk => kernel_rfl)
    (case ki_BadLock_BadCount => kernel_rfl)
    (case ki_BadLock_BadErrand => kernel_rfl)
    (case kv_BadLock => kernel_rfl)
    (case em_BadAsk => kernel_rfl)
    (case eg_BadAsk => k_is)
    (case ek_BadAsk => k_is)
    (case ed_BadAsk => k_is)
    (case ea_BadAsk => k_is)
    (case em9_BadAsk => k_is)
    (case ki_BadAsk_BadThing => kernel_rfl)
    (case ki_BadAsk_BadLock => kernel_rfl)
    (case ki_BadAsk_BadAsk => kernel_rfl)
    (case ki_BadAsk_BadCount => kernel_rfl)
    (case ki_BadAsk_BadErrand => kernel_rfl)
    (case kv_BadAsk => kernel_rfl)
    (case em_BadCount => kernel_rfl)
    (case eg_BadCount => k_is)
    (case ek_BadCount => k_is)
    (case ed_BadCount => k_is)
    (case ea_BadCount => k_is)
    (case em9_BadCount => k_is)
    (case ki_BadCount_BadThing => kernel_rfl)
    (case ki_BadCount_BadLock => kernel_rfl)
    (case ki_BadCount_BadAsk => kernel_rfl)
    (case ki_BadCount_BadCount => kernel_rfl)
    (case ki_BadCount_BadErrand => kernel_rfl)
    (case kv_BadCount => kernel_rfl)
    (case em_BadErrand => kernel_rfl)
    (case eg_BadErrand => k_is)
    (case ek_BadErrand => k_is)
    (case ed_BadErrand => k_is)
    (case ea_BadErrand => k_is)
    (case em9_BadErrand => k_is)
    (case ki_BadErrand_BadThing => kernel_rfl)
    (case ki_BadErrand_BadLock => kernel_rfl)
    (case ki_BadErrand_BadAsk => kernel_rfl)
    (case ki_BadErrand_BadCount => kernel_rfl)
    (case ki_BadErrand_BadErrand => kernel_rfl)
    (case kv_BadErrand => kernel_rfl)
    (case eh => k_is)
    (case ei => k_is)
    (case qa_SMALL => k_is)
    (case qa_MOST_WORD => k_is)
    (case qa_MOST_DEEP => k_is)
    (case z_ValueError => k_is)
    (case z_all => k_is)
    (case z_int => k_is)
    (case z_isinstance => k_is)
    (case z_len => k_is)
    (case z_list => k_is)
    (case z_max => k_is)
    (case z_min => k_is)
    (case z_range => k_is)
    (case z_str => k_is)
    (case z_sum => k_is)
    (case z_tuple => k_is)

