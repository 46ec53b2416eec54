import PyProof.Rows.All
import PyProof.P3Statements
import PyProof.EqLayable
import HandS.ForMost
import HandS.Exc
import HandS.WordsExc
import HandS.Defaults
import HandS.HeadHook1
import HandS.HeadHook2
import HandS.Style
import HandS.TupMul
import HandS.TupAny
import HandS.SortInts
import HandS.IsInst
import HandS.Zip
import HandS.DictComp
import HandS.CallSlots
import KE.KStar
import KE.GoesMore
import KE.GoesEnum
import HandS.HeadEnd
import Wide.All
import OpenK.AllK
import Wide.FinOn
import KE.KStateDown
import Lean
import HandS.Head0
import HandS.Head1
import HandS.Head2
import PySem.Challenge.RW_plugproof_k32_whole_groups
set_option Elab.async false
set_option linter.all false
/-! The classes and the attributes of this law's text by number (printed). -/
namespace DL
open PySem
def clsN : List Str := (["StoreError", "BadPlate", "Disk"] : List Str)
def fldN : List Str := (["settled", "loose"] : List Str)
end DL
set_option Elab.async false
set_option linter.all false
set_option maxRecDepth 100000
set_option maxHeartbeats 4000000
/-! Data, abstract heaps and what Python's constructs do over them: plain functions (own work). -/
namespace DL
open PySem

/-- a value: pure data, or the number of an abstract object -/
inductive D where
  | non | bl (b : Bool) | int (i : Int) | str (x : Str) | tup (ds : List D) | ref (n : Nat)
  deriving Inhabited

mutual
def D.bd (n : Nat) : D → Bool
  | .tup ds => bdAll n ds
  | .ref i => decide (i < n)
  | .non => true
  | .bl _ => true
  | .int _ => true
  | .str _ => true
def bdAll (n : Nat) : List D → Bool
  | [] => true
  | d :: ds => D.bd n d && bdAll n ds
end

/-- an abstract object: a list, a list that is only read, a dict, an instance of the class numbered c -/
inductive O where
  | lst (ds : List D) | rol (ds : List D) | dic (kvs : List (D × D)) | ins (c : Nat) (fs : List (Nat × D))
  deriving Inhabited
def O.bd (n : Nat) : O → Bool
  | .lst ds => bdAll n ds
  | .rol ds => bdAll n ds
  | .dic kvs => kvs.all fun p => D.bd n p.1 && D.bd n p.2
  | .ins _ fs => fs.all fun p => D.bd n p.2
def O.mut : O → Bool
  | .rol _ => false
  | _ => true
abbrev AH := List O
abbrev Env := List (Option D)
structure Exn where
  cls : Nat
  fs : List (Nat × D)

/-- how an expression ends -/
inductive Res (α : Type) where
  | ok (a : α) (A : AH) | exc (x : Exn) (A : AH) | bad
def Res.bind {α β : Type} (r : Res α) (f : α → AH → Res β) : Res β := match r with
  | .ok a A => f a A
  | .exc x A => .exc x A
  | .bad => .bad
@[simp] theorem bind_ok {α β : Type} (a : α) (A : AH) (f : α → AH → Res β) : (Res.ok a A).bind f = f a A := rfl
@[simp] theorem bind_exc {α β : Type} (x : Exn) (A : AH) (f : α → AH → Res β) : (Res.exc x A : Res α).bind f = .exc x A := rfl
@[simp] theorem bind_bad {α β : Type} (f : α → AH → Res β) : (Res.bad : Res α).bind f = .bad := rfl

/-- .. where nothing is raised -/
def Res.bindN {α β : Type} (r : Res α) (f : α → AH → Res β) : Res β := match r with
  | .ok a A => f a A
  | _ => .bad
@[simp] theorem bindN_ok {α β : Type} (a : α) (A : AH) (f : α → AH → Res β) : (Res.ok a A).bindN f = f a A := rfl
abbrev Ex := Env → AH → Res D
abbrev Tx := Env → AH → Res Bool
abbrev Ax := Env → AH → Res (List D)
/-- what a def, an operation does with its arguments -/
abbrev Fn := List D → AH → Res D

/-- how a statement ends -/
inductive SRes where
  | nx (E : Env) (A : AH) | rt (d : D) (A : AH) | bk (E : Env) (A : AH) | ct (E : Env) (A : AH) | exc (x : Exn) (E : Env) (A : AH) | bad
abbrev Sx := Env → AH → SRes
def Res.then {α : Type} (r : Res α) (E : Env) (f : α → AH → SRes) : SRes := match r with
  | .ok a A => f a A
  | .exc x A => .exc x E A
  | .bad => .bad
@[simp] theorem then_ok {α : Type} (a : α) (A : AH) (E : Env) (f : α → AH → SRes) : (Res.ok a A).then E f = f a A := rfl
@[simp] theorem then_exc {α : Type} (x : Exn) (A : AH) (E : Env) (f : α → AH → SRes) : (Res.exc x A : Res α).then E f = .exc x E A := rfl
@[simp] theorem then_bad {α : Type} (E : Env) (f : α → AH → SRes) : (Res.bad : Res α).then E f = .bad := rfl
def SRes.seq (r : SRes) (f : Sx) : SRes := match r with
  | .nx E A => f E A
  | .rt d A => .rt d A
  | .bk E A => .bk E A
  | .ct E A => .ct E A
  | .exc x E A => .exc x E A
  | .bad => .bad
@[simp] theorem seq_nx (E : Env) (A : AH) (f : Sx) : (SRes.nx E A).seq f = f E A := rfl
@[simp] theorem seq_rt (d : D) (A : AH) (f : Sx) : (SRes.rt d A).seq f = .rt d A := rfl
@[simp] theorem seq_bk (E : Env) (A : AH) (f : Sx) : (SRes.bk E A).seq f = .bk E A := rfl
@[simp] theorem seq_ct (E : Env) (A : AH) (f : Sx) : (SRes.ct E A).seq f = .ct E A := rfl
@[simp] theorem seq_exc (x : Exn) (E : Env) (A : AH) (f : Sx) : (SRes.exc x E A).seq f = .exc x E A := rfl
@[simp] theorem seq_bad (f : Sx) : SRes.bad.seq f = .bad := rfl
/-- a store ends in the next state, or raises -/
def SRes.only : SRes → SRes
  | .nx E A => .nx E A
  | .exc x E A => .exc x E A
  | _ => .bad
@[simp] theorem only_nx (E : Env) (A : AH) : (SRes.nx E A).only = .nx E A := rfl
@[simp] theorem only_exc (x : Exn) (E : Env) (A : AH) : (SRes.exc x E A).only = .exc x E A := rfl
@[simp] theorem only_bad : SRes.bad.only = .bad := rfl
def okS (E : Env) : Option AH → SRes
  | some A => .nx E A
  | none => .bad
@[simp] theorem okS_some (E : Env) (A : AH) : okS E (some A) = .nx E A := rfl
@[simp] theorem okS_none (E : Env) : okS E none = .bad := rfl

/-! ### expressions; each continuation has a name (so that nothing is looked at ahead of its turn) -/
def okD (A : AH) : Option (Option D) → Res D
  | some (some d) => .ok d A
  | _ => .bad
@[simp] theorem okD_some (A : AH) (d : D) : okD A (some (some d)) = .ok d A := rfl
def eVar (i : Nat) : Ex := fun E A => okD A E[i]?
def eC (d : D) : Ex := fun _ A => .ok d A
def aNil : Ax := fun _ A => .ok [] A
def kCons2 (d : D) : List D → AH → Res (List D) := fun ds A => .ok (d :: ds) A
def kCons (r : Ax) (E : Env) : D → AH → Res (List D) := fun d A => (r E A).bind (kCons2 d)
def aCons (e : Ex) (r : Ax) : Ax := fun E A => (e E A).bind (kCons r E)
/-- an operation of evaluated arguments -/
def eF (F : Fn) (a : Ax) : Ex := fun E A => (a E A).bind F
/-- a method of an instance of the class c -/
def isIns (c : Nat) (A : AH) : D → Bool
  | .ref i => (match A[i]? with
    | some (.ins c' _) => c == c'
    | _ => false)
  | _ => false
def kM2 (F : Fn) (x : D) : List D → AH → Res D := fun ds A => F (x :: ds) A
def kM (c : Nat) (F : Fn) (a : Ax) (E : Env) : D → AH → Res D := fun x A => if isIns c A x = true then (a E A).bind (kM2 F x) else .bad
def eM (c : Nat) (F : Fn) (o : Ex) (a : Ax) : Ex := fun E A => (o E A).bind (kM c F a E)
def kB : D → AH → Res Bool
  | .bl b, A => .ok b A
  | _, _ => .bad
def tB (e : Ex) : Tx := fun E A => (e E A).bind kB
def kAnd (u : Tx) (E : Env) : Bool → AH → Res Bool := fun b A => if b = true then u E A else .ok false A
def tAnd (t u : Tx) : Tx := fun E A => (t E A).bind (kAnd u E)
def kOr (u : Tx) (E : Env) : Bool → AH → Res Bool := fun b A => if b = true then .ok true A else u E A
def tOr (t u : Tx) : Tx := fun E A => (t E A).bind (kOr u E)
def kNot : Bool → AH → Res Bool := fun b A => .ok (!b) A
def tNot (t : Tx) : Tx := fun E A => (t E A).bind kNot
def kIf (a b : Ex) (E : Env) : Bool → AH → Res D := fun c A => if c = true then a E A else b E A
def eIf (t : Tx) (a b : Ex) : Ex := fun E A => (t E A).bind (kIf a b E)
/-- and, or of bools as values -/
def kAndV (b : Ex) (E : Env) : D → AH → Res D
  | .bl c, A => if c = true then b E A else .ok (.bl false) A
  | _, _ => .bad
def eAnd (a b : Ex) : Ex := fun E A => (a E A).bind (kAndV b E)
def kOrV (b : Ex) (E : Env) : D → AH → Res D
  | .bl c, A => if c = true then .ok (.bl true) A else b E A
  | _, _ => .bad
def eOr (a b : Ex) : Ex := fun E A => (a E A).bind (kOrV b E)
def kNotV : D → AH → Res D
  | .bl c, A => .ok (.bl (!c)) A
  | _, _ => .bad
def eNot (a : Ex) : Ex := fun E A => (a E A).bind kNotV
/-- a < b < c -/
def kCh4 (G : Fn) (y : D) : D → AH → Res D := fun w A => G [y, w] A
def kCh3 (G : Fn) (c : Ex) (E : Env) (y : D) : D → AH → Res D
  | .bl k, A => if k = true then (c E A).bind (kCh4 G y) else .ok (.bl false) A
  | _, _ => .bad
def kCh2 (F G : Fn) (c : Ex) (E : Env) (x : D) : D → AH → Res D := fun y A => (F [x, y] A).bind (kCh3 G c E y)
def kCh (F G : Fn) (b c : Ex) (E : Env) : D → AH → Res D := fun x A => (b E A).bind (kCh2 F G c E x)
def eChain (F G : Fn) (a b c : Ex) : Ex := fun E A => (a E A).bind (kCh F G b c E)

/-! ### statements -/
def sNop : Sx := fun E A => .nx E A
def sSeq (a b : Sx) : Sx := fun E A => (a E A).seq b
def kDrop (E : Env) : D → AH → SRes := fun _ A => .nx E A
def sDrop (e : Ex) : Sx := fun E A => (e E A).then E (kDrop E)
def kRet : D → AH → SRes := fun d A => .rt d A
def sRet (e : Ex) : Sx := fun E A => (e E A).then E kRet
def sRetN : Sx := fun _ A => .rt .non A
def sBrk : Sx := fun E A => .bk E A
def sCnt : Sx := fun E A => .ct E A
def sBad : Sx := fun _ _ => .bad
def kIfS (a b : Sx) (E : Env) : Bool → AH → SRes := fun c A => if c = true then a E A else b E A
def sIf (t : Tx) (a b : Sx) : Sx := fun E A => (t E A).then E (kIfS a b E)
/-- targets -/
abbrev Gx := D → Env → AH → SRes
def gName (i : Nat) : Gx := fun d E A => .nx (E.set i (some d)) A
abbrev Gsx := List D → Env → AH → SRes
def gNil : Gsx
  | [], E, A => .nx E A
  | _ :: _, _, _ => .bad
def gCons (g : Gx) (r : Gsx) : Gsx
  | d :: ds, E, A => (g d E A).only.seq (r ds)
  | [], _, _ => .bad
def gTup (n : Nat) (r : Gsx) : Gx
  | .tup ds, E, A => if ds.length = n then r ds E A else .bad
  | _, _, _ => .bad
/-- o[i] = d, by values -/
abbrev Stx := D → D → D → AH → Option AH
def kSub2 (S : Stx) (d : D) (E : Env) (x : D) : D → AH → SRes := fun y A => okS E (S x y d A)
def kSub (S : Stx) (i : Ex) (d : D) (E : Env) : D → AH → SRes := fun x A => (i E A).then E (kSub2 S d E x)
def gSub (o i : Ex) (S : Stx) : Gx := fun d E A => (o E A).then E (kSub S i d E)
def kAsg (g : Gx) (E : Env) : D → AH → SRes := fun d A => (g d E A).only
def sAsg (e : Ex) (g : Gx) : Sx := fun E A => (e E A).then E (kAsg g E)
def kSet (i : Nat) (E : Env) : D → AH → SRes := fun d A => .nx (E.set i (some d)) A
def kPar (i j : Nat) (E : Env) : List D → AH → SRes
  | [x, y], A => .nx ((E.set i (some x)).set j (some y)) A
  | _, _ => .bad
def sPar (i j : Nat) (a : Ax) : Sx := fun E A => (a E A).then E (kPar i j E)
def kAug2 (i : Nat) (F : Fn) (E : Env) (d : D) : D → AH → SRes := fun y A => (F [d, y] A).then E (kSet i E)
def kAug (i : Nat) (e : Ex) (F : Fn) (E : Env) : D → AH → SRes := fun d A => (e E A).then E (kAug2 i F E d)
def sAug (i : Nat) (e : Ex) (F : Fn) : Sx := fun E A => (okD A E[i]?).then E (kAug i e F E)
def kAS5 (S : Stx) (E : Env) (x y : D) : D → AH → SRes := fun z A => okS E (S x y z A)
def kAS4 (F : Fn) (S : Stx) (E : Env) (x y old : D) : D → AH → SRes := fun d A => (F [old, d] A).then E (kAS5 S E x y)
def kAS3 (e : Ex) (F : Fn) (S : Stx) (E : Env) (x y : D) : D → AH → SRes := fun old A => (e E A).then E (kAS4 F S E x y old)
def kAS2 (e : Ex) (G F : Fn) (S : Stx) (E : Env) (x : D) : D → AH → SRes := fun y A => (G [x, y] A).then E (kAS3 e F S E x y)
def kAS1 (i e : Ex) (G F : Fn) (S : Stx) (E : Env) : D → AH → SRes := fun x A => (i E A).then E (kAS2 e G F S E x)
def sAugS (o i e : Ex) (G F : Fn) (S : Stx) : Sx := fun E A => (o E A).then E (kAS1 i e G F S E)
def setF (n : Nat) (d : D) : List (Nat × D) → List (Nat × D)
  | [] => [(n, d)]
  | (m, c) :: r => if m = n then (m, d) :: r else (m, c) :: setF n d r
def lookF (n : Nat) : List (Nat × D) → Option D
  | [] => none
  | (m, c) :: r => if m = n then some c else lookF n r
/-- an attribute, read and stored; cs: the classes whose instances are met here -/
def oFld (cs : List Nat) (n : Nat) (A : AH) : Option O → Res D
  | some (.ins c fs) => if c ∈ cs then okD A (some (lookF n fs)) else .bad
  | _ => .bad
def fFld (cs : List Nat) (n : Nat) : Fn
  | [.ref i], A => oFld cs n A A[i]?
  | _, _ => .bad
def oPut (cs : List Nat) (n : Nat) (i : Nat) (d : D) (A : AH) : Option O → Option AH
  | some (.ins c fs) => if c ∈ cs ∧ fs.length < 1000 then some (A.set i (.ins c (setF n d fs))) else none
  | _ => none
def putFld (cs : List Nat) (n : Nat) (d : D) (A : AH) : D → Option AH
  | .ref i => oPut cs n i d A A[i]?
  | _ => none
def kFld2 (cs : List Nat) (n : Nat) (E : Env) (d : D) : D → AH → SRes := fun x A => okS E (putFld cs n d A x)
def kFld (cs : List Nat) (n : Nat) (o : Ex) (E : Env) : D → AH → SRes := fun d A => (o E A).then E (kFld2 cs n E d)
def sFld (cs : List Nat) (n : Nat) (o e : Ex) : Sx := fun E A => (e E A).then E (kFld cs n o E)
def kFA4 (cs : List Nat) (n : Nat) (E : Env) (x : D) : D → AH → SRes := fun z A => okS E (putFld cs n z A x)
def kFA3 (cs : List Nat) (n : Nat) (F : Fn) (E : Env) (x old : D) : D → AH → SRes := fun d A => (F [old, d] A).then E (kFA4 cs n E x)
def kFA2 (cs : List Nat) (n : Nat) (e : Ex) (F : Fn) (E : Env) (x : D) : D → AH → SRes := fun old A => (e E A).then E (kFA3 cs n F E x old)
def kFA1 (cs : List Nat) (n : Nat) (e : Ex) (F : Fn) (E : Env) : D → AH → SRes := fun x A => (fFld cs n [x] A).then E (kFA2 cs n e F E x)
def sFldAug (cs : List Nat) (n : Nat) (o e : Ex) (F : Fn) : Sx := fun E A => (o E A).then E (kFA1 cs n e F E)

/-! ### what is walked -/
inductive Src where
  | seq (ds : List D) | lst (i : Nat) | enum (i : Nat)
inductive Step where
  | item (d : D) | stop | bad
def seqO : Option O → Option (List D)
  | some (.lst ds) => some ds
  | some (.rol ds) => some ds
  | _ => none
def seqAt (A : AH) (i : Nat) : Option (List D) := seqO A[i]?
def stepO : Option D → Step
  | some d => .item d
  | none => .stop
def stepE (k : Nat) : Option D → Step
  | some d => .item (.tup [.int k, d])
  | none => .stop
def Src.at (A : AH) (k : Nat) : Src → Step
  | .seq ds => stepO ds[k]?
  | .lst i => (match seqAt A i with
    | some ds => stepO ds[k]?
    | none => .bad)
  | .enum i => (match seqAt A i with
    | some ds => stepE k ds[k]?
    | none => .bad)
def Src.size (A : AH) : Src → Nat
  | .seq ds => ds.length
  | .lst i => ((seqAt A i).getD []).length
  | .enum i => ((seqAt A i).getD []).length
abbrev Ix := Env → AH → Res Src
def SRes.turn (r : SRes) (f : Sx) : SRes := match r with
  | .nx E A => f E A
  | .ct E A => f E A
  | .bk E A => .nx E A
  | .rt d A => .rt d A
  | .exc x E A => .exc x E A
  | .bad => .bad
@[simp] theorem turn_nx (E : Env) (A : AH) (f : Sx) : (SRes.nx E A).turn f = f E A := rfl
@[simp] theorem turn_ct (E : Env) (A : AH) (f : Sx) : (SRes.ct E A).turn f = f E A := rfl
@[simp] theorem turn_bk (E : Env) (A : AH) (f : Sx) : (SRes.bk E A).turn f = .nx E A := rfl
@[simp] theorem turn_rt (d : D) (A : AH) (f : Sx) : (SRes.rt d A).turn f = .rt d A := rfl
@[simp] theorem turn_exc (x : Exn) (E : Env) (A : AH) (f : Sx) : (SRes.exc x E A).turn f = .exc x E A := rfl
@[simp] theorem turn_bad (f : Sx) : SRes.bad.turn f = .bad := rfl
/-- one turn of a for; f: the turns behind it -/
def forK (g : Gx) (b f : Sx) (E : Env) (A : AH) : Step → SRes
  | .stop => .nx E A
  | .bad => .bad
  | .item d => ((g d E A).only.seq b).turn f
def forN (src : Src) (g : Gx) (b : Sx) : Nat → Nat → Env → AH → SRes
  | 0, _, _, _ => .bad
  | n + 1, k, E, A => forK g b (forN src g b n (k + 1)) E A (src.at A k)
def kFor (g : Gx) (b : Sx) (E : Env) : Src → AH → SRes := fun src A => forN src g b (src.size A + 1) 0 E A
def sFor (it : Ix) (g : Gx) (b : Sx) : Sx := fun E A => (it E A).then E (kFor g b E)
def kWh (b f : Sx) (E : Env) : Bool → AH → SRes := fun c A => if c = true then (b E A).turn f else .nx E A
def whileN (t : Tx) (b : Sx) : Nat → Env → AH → SRes
  | 0, _, _ => .bad
  | n + 1, E, A => (t E A).then E (kWh b (whileN t b n) E)
def fuel : Nat := 1000000
def sWhile (t : Tx) (b : Sx) : Sx := fun E A => whileN t b fuel E A
/-- iterators -/
def okI (s : Src) (A : AH) : Option (List D) → Res Src
  | some _ => .ok s A
  | none => .bad
def kSeq : D → AH → Res Src
  | .tup ds, A => .ok (.seq ds) A
  | .ref i, A => okI (.lst i) A (seqAt A i)
  | _, _ => .bad
def iSeq (e : Ex) : Ix := fun E A => (e E A).bind kSeq
def small62 (i : Int) : Bool := decide (-(2 ^ 62) ≤ i) && decide (i < 2 ^ 62)
def upto (lo : Int) (n : Nat) : List D := (List.range n).map fun (i : Nat) => D.int (lo + i)
def kRng1 : List D → AH → Res Src
  | [.int j], A => if small62 j = true then .ok (.seq (upto 0 j.toNat)) A else .bad
  | _, _ => .bad
def iRng1 (a : Ax) : Ix := fun E A => (a E A).bind kRng1
def kRng2 : List D → AH → Res Src
  | [.int i, .int j], A => if (small62 i && small62 j) = true then .ok (.seq (upto i (j - i).toNat)) A else .bad
  | _, _ => .bad
def iRng2 (a : Ax) : Ix := fun E A => (a E A).bind kRng2
def enumD : Nat → List D → List D
  | _, [] => []
  | k, d :: ds => .tup [.int k, d] :: enumD (k + 1) ds
def kEnum : List D → AH → Res Src
  | [.tup ds], A => .ok (.seq (enumD 0 ds)) A
  | [.ref i], A => okI (.enum i) A (seqAt A i)
  | _, _ => .bad
def iEnum (a : Ax) : Ix := fun E A => (a E A).bind kEnum

/-! ### comprehensions: the new list stands at its number from the start -/
def line : Nat := 16777216
def addO (n : Nat) (d : D) (A : AH) : Option O → Option AH
  | some (.lst acc) => if acc.length < line then some (A.set n (.lst (acc ++ [d]))) else none
  | _ => none
def addTo (n : Nat) (d : D) (A : AH) : Option AH := addO n d A A[n]?
/-- own: the comprehension's slots (they are empty ahead of each turn) -/
def wipeE (E : Env) : List Nat → Env
  | [] => E
  | v :: vs => (wipeE E vs).set v none
def okA (f : AH → Res D) : Option AH → Res D
  | some A => f A
  | none => .bad
def kLc3 (n : Nat) (f : AH → Res D) : D → AH → Res D := fun y A => okA f (addTo n y A)
def kLc2 (e : Ex) (E : Env) (n : Nat) (f : AH → Res D) : Bool → AH → Res D := fun b A => if b = true then (e E A).bindN (kLc3 n f) else f A
def kLc1 (t : Tx) (e : Ex) (n : Nat) (f : AH → Res D) : SRes → Res D
  | .nx E A => (t E A).bindN (kLc2 e E n f)
  | _ => .bad
def lcK (g : Gx) (t : Tx) (e : Ex) (E : Env) (n : Nat) (f : AH → Res D) (A : AH) : Step → Res D
  | .stop => .ok (.ref n) A
  | .bad => .bad
  | .item d => kLc1 t e n f (g d E A)
def lcN (src : Src) (g : Gx) (t : Tx) (e : Ex) (E : Env) (at_ : Nat) : Nat → Nat → AH → Res D
  | 0, _, _ => .bad
  | n + 1, k, A => lcK g t e E at_ (lcN src g t e E at_ n (k + 1)) A (src.at A k)
def tYes : Tx := fun _ A => .ok true A
def kLc (g : Gx) (t : Tx) (e : Ex) (E : Env) : Src → AH → Res D := fun src A => lcN src g t e E A.length (src.size A + 1) 0 (A ++ [.lst []])
def eLc (it : Ix) (g : Gx) (t : Tx) (e : Ex) (own : List Nat) : Ex := fun E A => (it E A).bind (kLc g t e (wipeE E own))

/-! ### calls of the program's own defs -/
def okPre (A B : AH) : Prop := B.length = A.length ∧ ∀ (j : Nat) (o : O), B[j]? = some o → A[j]? = some o ∨ o.bd A.length = true
/-- the value of the fresh object that is handed back -/
def refO (A B : AH) : D → Option O
  | .ref i => if A.length ≤ i then B[i]? else none
  | _ => none
open Classical in
noncomputable def gcO (A : AH) (d : D) (B : AH) : Option O → Res D
  | some o => if o.mut = true ∧ o.bd A.length = true ∧ okPre A (B.take A.length) then .ok (.ref A.length) (B.take A.length ++ [o]) else .ok d B
  | none => .ok d B
open Classical in
/-- behind a call what the caller cannot reach is let go -/
noncomputable def gc (A : AH) (d : D) (B : AH) : Res D :=
  if d.bd A.length = true ∧ okPre A (B.take A.length) then .ok d (B.take A.length) else gcO A d B (refO A B d)
open Classical in
noncomputable def gcX (A : AH) (x : Exn) (B : AH) : Res D :=
  if (x.fs.all fun p => p.2.bd A.length) = true ∧ okPre A (B.take A.length) then .exc x (B.take A.length) else .exc x B
def startE (N : Nat) (ds : List D) : Env := ds.map some ++ List.replicate (N - ds.length) none
noncomputable def endF (A : AH) : SRes → Res D
  | .nx _ B => gc A .non B
  | .rt d B => gc A d B
  | .exc x _ B => gcX A x B
  | _ => .bad
/-- a def of np parameters and N names -/
noncomputable def runDef (np N : Nat) (b : Sx) : Fn := fun ds A => if ds.length = np then endF A (b (startE N ds) A) else .bad
/-- a new instance of the class c, then its __init__ -/
def kMk (n : Nat) : D → AH → Res D
  | .non, A => .ok (.ref n) A
  | _, _ => .bad
def mkIns (c : Nat) (F : Fn) : Fn := fun ds A => (F (.ref A.length :: ds) (A ++ [.ins c []])).bind (kMk A.length)
end DL
set_option Elab.async false
set_option linter.all false
set_option maxRecDepth 100000
set_option maxHeartbeats 4000000
/-! The operations, as plain functions (own work). -/
namespace DL
open PySem
/-! ### displays -/
def mkTup : Fn := fun ds A => if ds.length ≤ line then .ok (.tup ds) A else .bad
def mkLst : Fn := fun ds A => if ds.length ≤ line then .ok (.ref A.length) (A ++ [.lst ds]) else .bad
def mkDic : Fn
  | [], A => .ok (.ref A.length) (A ++ [.dic []])
  | _ :: _, _ => .bad
/-- *e among others: the items of a list or a tuple -/
def itemsO (A : AH) : Option (List D) → Res (List D)
  | some ds => .ok ds A
  | none => .bad
def itemsOf : D → AH → Res (List D)
  | .tup ds, A => .ok ds A
  | .ref i, A => itemsO A (seqAt A i)
  | _, _ => .bad
def kStar2 (ds : List D) : List D → AH → Res (List D) := fun es A => .ok (ds ++ es) A
def kStar1 (r : Ax) (E : Env) : List D → AH → Res (List D) := fun ds A => (r E A).bind (kStar2 ds)
def kStar (r : Ax) (E : Env) : D → AH → Res (List D) := fun d A => (itemsOf d A).bind (kStar1 r E)
def aStar (e : Ex) (r : Ax) : Ax := fun E A => (e E A).bind (kStar r E)

/-! ### numbers, texts -/
def tooWide (i : Int) : Bool := !(decide (-(2 ^ 64) < i) && decide (i < 2 ^ 64))
def lstO (A : AH) (xs : List D) (n : Nat) : Res D := if n ≤ line then .ok (.ref A.length) (A ++ [.lst xs]) else .bad
def lst2 (A : AH) : Option O → Option O → Res D
  | some (.lst xs), some (.lst ys) => lstO A (xs ++ ys) (xs.length + ys.length)
  | _, _ => .bad
def opAdd : Fn
  | [.int i, .int j], A => .ok (.int (i + j)) A
  | [.str x, .str y], A => if x.length + y.length ≤ line then .ok (.str (x ++ y)) A else .bad
  | [.tup xs, .tup ys], A => if xs.length + ys.length ≤ line then .ok (.tup (xs ++ ys)) A else .bad
  | [.ref i, .ref j], A => lst2 A A[i]? A[j]?
  | _, _ => .bad
def opSub : Fn
  | [.int i, .int j], A => .ok (.int (i - j)) A
  | _, _ => .bad
def rep (k : Int) (xs : List D) : List D := (List.replicate k.toNat xs).flatten
def mulL (A : AH) (k : Int) : Option O → Res D
  | some (.lst xs) => if -(2 ^ 63) ≤ k ∧ k < 2 ^ 63 then lstO A (rep k xs) (xs.length * k.toNat) else .bad
  | _ => .bad
def opMul : Fn
  | [.int i, .int j], A => if tooWide i && tooWide j then .bad else .ok (.int (i * j)) A
  | [.tup xs, .int k], A => if xs ≠ [] ∧ 2 ≤ k ∧ k ≤ 1000 ∧ xs.length ≤ 1000 then .ok (.tup (rep k xs)) A else .bad
  | [.ref i, .int k], A => mulL A k A[i]?
  | _, _ => .bad
def opMod : Fn
  | [.int i, .int j], A => if j ≠ 0 then .ok (.int (i.fmod j)) A else .bad
  | _, _ => .bad
def opDiv : Fn
  | [.int i, .int j], A => if j ≠ 0 ∧ j.natAbs < 1073741824 then .ok (.int (i.fdiv j)) A else .bad
  | _, _ => .bad
def opPow : Fn
  | [.int i, .int j], A => if 0 ≤ j ∧ j ≤ 1000000 ∧ i.natAbs < 2 ^ 64 then .ok (.int (i ^ j.toNat)) A else .bad
  | _, _ => .bad
def opNeg : Fn
  | [.int i], A => .ok (.int (-i)) A
  | _, _ => .bad
def opLt : Fn
  | [.int i, .int j], A => .ok (.bl (decide (i < j))) A
  | _, _ => .bad
def opLe : Fn
  | [.int i, .int j], A => .ok (.bl (decide (i ≤ j))) A
  | _, _ => .bad
def opGt : Fn
  | [.int i, .int j], A => .ok (.bl (decide (j < i))) A
  | _, _ => .bad
def opGe : Fn
  | [.int i, .int j], A => .ok (.bl (decide (j ≤ i))) A
  | _, _ => .bad
def D.isN : D → Bool
  | .non => true
  | _ => false
def opIs : Fn
  | [x, .non], A => .ok (.bl x.isN) A
  | _, _ => .bad
def opNis : Fn
  | [x, .non], A => .ok (.bl (!x.isN)) A
  | _, _ => .bad

/-! ### equality at any depth -/
def allSome {α : Type} : List (Option α) → Option (List α)
  | [] => some []
  | some a :: r => (allSome r).map (a :: ·)
  | none :: _ => none
def toPy (A : AH) : Nat → D → Option PyData
  | 0, _ => none
  | _ + 1, .non => some .none
  | _ + 1, .bl b => some (.bool b)
  | _ + 1, .int i => some (.int i)
  | _ + 1, .str x => if PyData.canLay0 (.str x) = true then some (.str x) else none
  | n + 1, .tup ds => (allSome (ds.map (toPy A n))).map .tuple
  | n + 1, .ref i => match seqAt A i with
    | some ds => (allSome (ds.map (toPy A n))).map .list
    | none => none
def eqO (A : AH) (f : Bool → Bool) : Option PyData → Option PyData → Res D
  | some p, some q => .ok (.bl (f (PyData.eqv p q))) A
  | _, _ => .bad
def opEq : Fn
  | [x, y], A => eqO A id (toPy A 60 x) (toPy A 60 y)
  | _, _ => .bad
def opNe : Fn
  | [x, y], A => eqO A not (toPy A 60 x) (toPy A 60 y)
  | _, _ => .bad

/-! ### items and slices -/
def ixD (n : Nat) (i : Int) : Option Nat := if 0 ≤ i then (if i < n then some i.toNat else none) else if -(n : Int) ≤ i then some (i + n).toNat else none
def atD (ds : List D) (i : Int) : Option D := (ixD ds.length i).bind fun j => ds[j]?
def okO (A : AH) : Option D → Res D
  | some d => .ok d A
  | none => .bad
@[simp] theorem okO_some (A : AH) (d : D) : okO A (some d) = .ok d A := rfl
def atS (A : AH) (i : Int) : Option (List D) → Res D
  | some ds => okO A (atD ds i)
  | none => .bad
def opIx : Fn
  | [.tup ds, .int i], A => okO A (atD ds i)
  | [.ref j, .int i], A => atS A i (seqAt A j)
  | _, _ => .bad
def setO (i : Nat) (j : Int) (d : D) (A : AH) : Option O → Option AH
  | some (.lst ds) => (ixD ds.length j).map fun k => A.set i (.lst (ds.set k d))
  | _ => none
def stIx : Stx := fun x y d A => match x, y with
  | .ref i, .int j => setO i j d A A[i]?
  | _, _ => none
def sIxD (n d : Nat) : Option Int → Nat
  | none => d
  | some v => if v < 0 then (v + (n : Int)).toNat else min v.toNat n
def cutD (xs : List D) (lo hi : Option Int) : List D := (xs.drop (sIxD xs.length 0 lo)).take (sIxD xs.length xs.length hi - sIxD xs.length 0 lo)
abbrev Px := Env → AH → Res (Option Int)
def pNone : Px := fun _ A => .ok none A
def kPart : D → AH → Res (Option Int)
  | .int i, A => .ok (some i) A
  | _, _ => .bad
def pSome (e : Ex) : Px := fun E A => (e E A).bind kPart
def cutS (A : AH) (lo hi : Option Int) : Option (List D) → Res D
  | some ds => .ok (.ref A.length) (A ++ [.lst (cutD ds lo hi)])
  | none => .bad
def opSl (lo hi : Option Int) (A : AH) : D → Res D
  | .tup ds => .ok (.tup (cutD ds lo hi)) A
  | .ref i => cutS A lo hi (seqAt A i)
  | _ => .bad
def kSl3 (d : D) (lo : Option Int) : Option Int → AH → Res D := fun hi A => opSl lo hi A d
def kSl2 (q : Px) (E : Env) (d : D) : Option Int → AH → Res D := fun lo A => (q E A).bind (kSl3 d lo)
def kSl1 (p q : Px) (E : Env) : D → AH → Res D := fun d A => (p E A).bind (kSl2 q E d)
def eSl (e : Ex) (p q : Px) : Ex := fun E A => (e E A).bind (kSl1 p q E)

/-! ### built-in functions and methods -/
def lenS (A : AH) : Option O → Res D
  | some (.lst ds) => .ok (.int ds.length) A
  | some (.rol ds) => .ok (.int ds.length) A
  | _ => .bad
def biLen : Fn
  | [.tup ds], A => .ok (.int ds.length) A
  | [.ref i], A => lenS A A[i]?
  | _, _ => .bad
def toLst (A : AH) : Option (List D) → Res D
  | some ds => .ok (.ref A.length) (A ++ [.lst ds])
  | none => .bad
def biList : Fn
  | [.tup ds], A => .ok (.ref A.length) (A ++ [.lst ds])
  | [.ref i], A => toLst A (seqAt A i)
  | _, _ => .bad
def toTup (A : AH) : Option (List D) → Res D
  | some ds => .ok (.tup ds) A
  | none => .bad
def biTuple : Fn
  | [.tup ds], A => .ok (.tup ds) A
  | [.ref i], A => toTup A (seqAt A i)
  | _, _ => .bad
def biInt : Fn
  | [.int i], A => .ok (.int i) A
  | [.bl b], A => .ok (.int (if b then 1 else 0)) A
  | _, _ => .bad
def biAbs : Fn
  | [.int i], A => .ok (.int (if i < 0 then -i else i)) A
  | _, _ => .bad
def D.int? : D → Option Int
  | .int i => some i
  | _ => none
def D.bl? : D → Option Bool
  | .bl b => some b
  | _ => none
def intsOf (ds : List D) : Option (List Int) := allSome (ds.map D.int?)
def blsOf (ds : List D) : Option (List Bool) := allSome (ds.map D.bl?)
def maxI (m : Int) (ns : List Int) : Int := ns.foldl max m
def maxO (A : AH) : Option (List Int) → Res D
  | some (n :: ns) => .ok (.int (maxI n ns)) A
  | _ => .bad
def biMax : Fn
  | [.ref i], A => maxO A ((seqAt A i).bind intsOf)
  | _, _ => .bad
def allO (A : AH) : Option (List Bool) → Res D
  | some bs => .ok (.bl (bs.all id)) A
  | none => .bad
def biAll : Fn
  | [.ref i], A => allO A ((seqAt A i).bind blsOf)
  | _, _ => .bad
def anyO (A : AH) : Option (List Bool) → Res D
  | some bs => .ok (.bl (bs.any id)) A
  | none => .bad
def biAny : Fn
  | [.ref i], A => anyO A ((seqAt A i).bind blsOf)
  | _, _ => .bad
def sumO (A : AH) : Option (List Int) → Res D
  | some ns => .ok (.int ns.sum) A
  | none => .bad
def biSum : Fn
  | [.ref i], A => sumO A ((seqAt A i).bind intsOf)
  | _, _ => .bad
/-- isinstance(x, T): T an int, a bool, a tuple, a list, a text -/
inductive Ty where
  | int | bool | tuple | list | str
def Ty.ofB : Ty → Bool
  | .int => true
  | .bool => true
  | _ => false
def Ty.ofI : Ty → Bool
  | .int => true
  | _ => false
def Ty.ofS : Ty → Bool
  | .str => true
  | _ => false
def Ty.ofT : Ty → Bool
  | .tuple => true
  | _ => false
def Ty.ofL : Ty → Bool
  | .list => true
  | _ => false
def tyO (t : Ty) (A : AH) : Option O → Res D
  | some (.lst _) => .ok (.bl t.ofL) A
  | _ => .bad
def biIsi (t : Ty) : Fn
  | [.non], A => .ok (.bl false) A
  | [.bl _], A => .ok (.bl t.ofB) A
  | [.int _], A => .ok (.bl t.ofI) A
  | [.str _], A => .ok (.bl t.ofS) A
  | [.tup _], A => .ok (.bl t.ofT) A
  | [.ref i], A => tyO t A A[i]?
  | _, _ => .bad
def appO (i : Nat) (d : D) (A : AH) : Option O → Res D
  | some (.lst ds) => if ds.length < line then .ok .non (A.set i (.lst (ds ++ [d]))) else .bad
  | _ => .bad
def mAppend : Fn
  | [.ref i, d], A => appO i d A A[i]?
  | _, _ => .bad
def popO (i : Nat) (A : AH) : Option O → Res D
  | some (.lst ds) => (match ds.getLast? with
    | some d => .ok d (A.set i (.lst ds.dropLast))
    | none => .bad)
  | _ => .bad
def mPop : Fn
  | [.ref i], A => popO i A A[i]?
  | _, _ => .bad
/-- the kind of what a method of a built-in type is asked of -/
inductive Kd where
  | list | dict | str
def kindO : Kd → Option O → Bool
  | .list, some (.lst _) => true
  | .list, some (.rol _) => true
  | .dict, some (.dic _) => true
  | _, _ => false
def isKd (k : Kd) (A : AH) : D → Bool
  | .ref i => kindO k A[i]?
  | .str _ => (match k with
    | .str => true
    | _ => false)
  | _ => false
def kBM (k : Kd) (F : Fn) (a : Ax) (E : Env) : D → AH → Res D := fun x A => if isKd k A x = true then (a E A).bind (kM2 F x) else .bad
def eBM (k : Kd) (F : Fn) (o : Ex) (a : Ax) : Ex := fun E A => (o E A).bind (kBM k F a E)
def opIxL : Fn
  | [.ref j, .int i], A => atS A i (seqAt A j)
  | _, _ => .bad
def kPar3 (i j l : Nat) (E : Env) : List D → AH → SRes
  | [x, y, z], A => .nx (((E.set i (some x)).set j (some y)).set l (some z)) A
  | _, _ => .bad
def sPar3 (i j l : Nat) (a : Ax) : Sx := fun E A => (a E A).then E (kPar3 i j l E)
end DL
set_option Elab.async false
set_option linter.all false
set_option maxRecDepth 100000
set_option maxHeartbeats 4000000
/-! What the plain functions say, over the hand layer (own work). -/
namespace DL
open PySem PySem.Spec PyProof.Rows L2
theorem fldN_nd : fldN.Nodup := by decide +kernel
theorem fld_inj {i j : Nat} {x : Str} (a : fldN[i]? = some x) (b : fldN[j]? = some x) : i = j := nodup_ix fldN_nd a b
def clsA (K : PySem.W.Frag) (c : Nat) : Addr := He.ga K (clsN.getD c "")

/-! ### values -/
mutual
inductive RepV (ρ : Nat → Addr) (n : Nat) (H : Hp) : D → V → Prop
  | non : RepV ρ n H .non .non
  | bl (b : Bool) : RepV ρ n H (.bl b) (.bl b)
  | int (i : Int) : RepV ρ n H (.int i) (.int i)
  | str (x : Str) : RepV ρ n H (.str x) (.str x)
  | tup {a : Addr} {vs : List V} {ds : List D} : H a = some (.tup vs) → RepVs ρ n H ds vs → RepV ρ n H (.tup ds) (.ref a)
  | ref {i : Nat} : i < n → RepV ρ n H (.ref i) (.ref (ρ i))
inductive RepVs (ρ : Nat → Addr) (n : Nat) (H : Hp) : List D → List V → Prop
  | nil : RepVs ρ n H [] []
  | cons {d : D} {ds : List D} {v : V} {vs : List V} : RepV ρ n H d v → RepVs ρ n H ds vs → RepVs ρ n H (d :: ds) (v :: vs)
end
/-- from one state to a later one: numbers keep their addresses, tuples stay -/
structure Ext (ρ : Nat → Addr) (n : Nat) (H : Hp) (ρ' : Nat → Addr) (n' : Nat) (H' : Hp) : Prop where
  le : n ≤ n'
  same : ∀ i, i < n → ρ' i = ρ i
  tups : ∀ a vs, H a = some (.tup vs) → H' a = some (.tup vs)
theorem Ext.refl {ρ : Nat → Addr} {n : Nat} {H : Hp} : Ext ρ n H ρ n H := ⟨Nat.le_refl _, fun _ _ => rfl, fun _ _ h => h⟩
theorem Ext.trans {ρ ρ1 ρ2 : Nat → Addr} {n n1 n2 : Nat} {H H1 H2 : Hp} (a : Ext ρ n H ρ1 n1 H1) (b : Ext ρ1 n1 H1 ρ2 n2 H2) : Ext ρ n H ρ2 n2 H2 :=
  ⟨Nat.le_trans a.le b.le, fun i h => (b.same i (Nat.lt_of_lt_of_le h a.le)).trans (a.same i h), fun c vs h => b.tups c vs (a.tups c vs h)⟩
section
variable {ρ ρ' : Nat → Addr} {n n' : Nat} {H H' : Hp}
mutual
theorem RepV.ext (x : Ext ρ n H ρ' n' H') : ∀ {d : D} {v : V}, RepV ρ n H d v → RepV ρ' n' H' d v
  | .non, _, .non => .non
  | .bl b, _, .bl _ => .bl b
  | .int i, _, .int _ => .int i
  | .str z, _, .str _ => .str z
  | .tup ds, _, .tup h r => .tup (x.tups _ _ h) (RepVs.ext x r)
  | .ref i, _, .ref h => by rw [← x.same i h]; exact .ref (Nat.lt_of_lt_of_le h x.le)
theorem RepVs.ext (x : Ext ρ n H ρ' n' H') : ∀ {ds : List D} {vs : List V}, RepVs ρ n H ds vs → RepVs ρ' n' H' ds vs
  | [], _, .nil => .nil
  | _ :: _, _, .cons a b => .cons (RepV.ext x a) (RepVs.ext x b)
end
mutual
theorem RepV.bd : ∀ {d : D} {v : V}, RepV ρ n H d v → d.bd n = true
  | .non, _, .non => by simp [D.bd]
  | .bl _, _, .bl _ => by simp [D.bd]
  | .int _, _, .int _ => by simp [D.bd]
  | .str _, _, .str _ => by simp [D.bd]
  | .tup ds, _, .tup _ r => by simp only [D.bd]; exact RepVs.bd r
  | .ref i, _, .ref h => by simp [D.bd, h]
theorem RepVs.bd : ∀ {ds : List D} {vs : List V}, RepVs ρ n H ds vs → bdAll n ds = true
  | [], _, .nil => by simp [bdAll]
  | _ :: _, _, .cons a b => by simp [bdAll, RepV.bd a, RepVs.bd b]
end
mutual
/-- fewer numbers are enough -/
theorem RepV.cut {m : Nat} : ∀ {d : D} {v : V}, RepV ρ n H d v → d.bd m = true → RepV ρ m H d v
  | .non, _, .non, _ => .non
  | .bl b, _, .bl _, _ => .bl b
  | .int i, _, .int _, _ => .int i
  | .str z, _, .str _, _ => .str z
  | .tup ds, _, .tup h r, e => .tup h (RepVs.cut r (by simpa [D.bd] using e))
  | .ref i, _, .ref h, e => .ref (by simpa [D.bd] using e)
theorem RepVs.cut {m : Nat} : ∀ {ds : List D} {vs : List V}, RepVs ρ n H ds vs → bdAll m ds = true → RepVs ρ m H ds vs
  | [], _, .nil, _ => .nil
  | d :: ds, _, .cons a b, e => by
    simp only [bdAll, Bool.and_eq_true] at e
    exact .cons (RepV.cut a e.1) (RepVs.cut b e.2)
end
theorem RepVs.len : ∀ {ds : List D} {vs : List V}, RepVs ρ n H ds vs → ds.length = vs.length
  | [], _, .nil => rfl
  | _ :: _, _, .cons _ b => by rw [List.length_cons, List.length_cons, RepVs.len b]
theorem RepVs.get : ∀ {ds : List D} {vs : List V} {i : Nat} {d : D}, RepVs ρ n H ds vs → ds[i]? = some d → ∃ v, vs[i]? = some v ∧ RepV ρ n H d v
  | [], _, _, _, .nil, e => by simp at e
  | d :: ds, v :: vs, 0, _, .cons a b, e => by
    simp at e; subst e; exact ⟨v, by simp, a⟩
  | d :: ds, v :: vs, i + 1, c, .cons a b, e => by
    obtain ⟨v', h1, h2⟩ := RepVs.get (i := i) b (by simpa using e)
    exact ⟨v', by simpa using h1, h2⟩
theorem RepVs.set {x : D} {y : V} (r : RepV ρ n H x y) : ∀ {ds : List D} {vs : List V} (i : Nat), RepVs ρ n H ds vs → RepVs ρ n H (ds.set i x) (vs.set i y)
  | [], _, _, .nil => .nil
  | _ :: _, _, 0, .cons _ b => .cons r b
  | _ :: _, _, i + 1, .cons a b => .cons a (RepVs.set r i b)
theorem RepVs.app : ∀ {ds es : List D} {vs us : List V}, RepVs ρ n H ds vs → RepVs ρ n H es us → RepVs ρ n H (ds ++ es) (vs ++ us)
  | [], _, _, _, .nil, s => s
  | _ :: _, _, _, _, .cons a b, s => .cons a (RepVs.app b s)
theorem RepVs.take : ∀ {ds : List D} {vs : List V} (k : Nat), RepVs ρ n H ds vs → RepVs ρ n H (ds.take k) (vs.take k)
  | _, _, 0, _ => by rw [List.take_zero, List.take_zero]; exact .nil
  | [], _, _ + 1, .nil => .nil
  | _ :: _, _, k + 1, .cons a b => .cons a (RepVs.take k b)
theorem RepVs.drop : ∀ {ds : List D} {vs : List V} (k : Nat), RepVs ρ n H ds vs → RepVs ρ n H (ds.drop k) (vs.drop k)
  | _, _, 0, r => r
  | [], _, _ + 1, .nil => .nil
  | _ :: _, _, k + 1, .cons _ b => RepVs.drop k b
theorem RepVs.ints : ∀ (ns : List Int), RepVs ρ n H (ns.map D.int) (ns.map V.int)
  | [] => .nil
  | i :: ns => .cons (.int i) (RepVs.ints ns)
theorem RepVs.of_ints : ∀ {ns : List Int} {vs : List V}, RepVs ρ n H (ns.map D.int) vs → vs = ns.map V.int
  | [], _, .nil => rfl
  | i :: ns, _, .cons a b => by
    cases a
    rw [RepVs.of_ints (ns := ns) b, List.map_cons]
end

/-! ### attributes -/
inductive RepF (ρ : Nat → Addr) (n : Nat) (H : Hp) : List (Nat × D) → List (Str × V) → Prop
  | nil : RepF ρ n H [] []
  | cons {i : Nat} {d : D} {x : Str} {v : V} {fs : List (Nat × D)} {gs : List (Str × V)} : fldN[i]? = some x → RepV ρ n H d v → RepF ρ n H fs gs → RepF ρ n H ((i, d) :: fs) ((x, v) :: gs)
section
variable {ρ ρ' : Nat → Addr} {n n' : Nat} {H H' : Hp}
theorem RepF.ext (x : Ext ρ n H ρ' n' H') : ∀ {fs : List (Nat × D)} {gs : List (Str × V)}, RepF ρ n H fs gs → RepF ρ' n' H' fs gs
  | [], _, .nil => .nil
  | _ :: _, _, .cons a b c => .cons a (b.ext x) (RepF.ext x c)
theorem RepF.cut {m : Nat} : ∀ {fs : List (Nat × D)} {gs : List (Str × V)}, RepF ρ n H fs gs → (fs.all fun p => p.2.bd m) = true → RepF ρ m H fs gs
  | [], _, .nil, _ => .nil
  | _ :: _, _, .cons a b c, e => by
    rw [List.all_cons, Bool.and_eq_true] at e
    exact .cons a (b.cut e.1) (RepF.cut c e.2)
theorem RepF.len : ∀ {fs : List (Nat × D)} {gs : List (Str × V)}, RepF ρ n H fs gs → fs.length = gs.length
  | [], _, .nil => rfl
  | _ :: _, _, .cons _ _ c => by rw [List.length_cons, List.length_cons, RepF.len c]
theorem RepF.look {i : Nat} {x : Str} {d : D} (hx : fldN[i]? = some x) : ∀ {fs : List (Nat × D)} {gs : List (Str × V)}, RepF ρ n H fs gs → lookF i fs = some d → ∃ v, gs.lookup x = some v ∧ RepV ρ n H d v
  | [], _, .nil, e => by cases e
  | (j, c) :: fs, (y, v) :: gs, .cons a b t, e => by
    unfold lookF at e
    by_cases hj : j = i
    · rw [if_pos hj] at e
      cases e
      subst hj
      rw [hx] at a
      cases a
      exact ⟨v, by rw [List.lookup_cons, beq_self_eq_true], b⟩
    · rw [if_neg hj] at e
      obtain ⟨u, h1, h2⟩ := RepF.look hx t e
      refine ⟨u, ?_, h2⟩
      have ne : (x == y) = false := beq_eq_false_iff_ne.mpr fun z => hj (fld_inj a (z ▸ hx))
      rw [List.lookup_cons, ne]
      exact h1
theorem RepF.none {i : Nat} {x : Str} (hx : fldN[i]? = some x) : ∀ {fs : List (Nat × D)} {gs : List (Str × V)}, RepF ρ n H fs gs → lookF i fs = .none → gs.lookup x = .none
  | [], _, .nil, e => rfl
  | (j, c) :: fs, (y, v) :: gs, .cons a b t, e => by
    unfold lookF at e
    by_cases hj : j = i
    · rw [if_pos hj] at e
      cases e
    · rw [if_neg hj] at e
      have ne : (x == y) = false := beq_eq_false_iff_ne.mpr fun z => hj (fld_inj a (z ▸ hx))
      rw [List.lookup_cons, ne]
      exact RepF.none hx t e
theorem RepF.out {x : Str} (hx : x ∉ fldN) : ∀ {fs : List (Nat × D)} {gs : List (Str × V)}, RepF ρ n H fs gs → gs.lookup x = .none
  | [], _, .nil => rfl
  | (j, c) :: fs, (y, v) :: gs, .cons a b t => by
    have ne : (x == y) = false := beq_eq_false_iff_ne.mpr fun z => hx (z ▸ List.mem_of_getElem? a)
    rw [List.lookup_cons, ne]
    exact RepF.out hx t
theorem RepF.put {i : Nat} {x : Str} {d : D} {v : V} (hx : fldN[i]? = some x) (r : RepV ρ n H d v) : ∀ {fs : List (Nat × D)} {gs : List (Str × V)}, RepF ρ n H fs gs → RepF ρ n H (setF i d fs) (putF x v gs)
  | [], _, .nil => .cons hx r .nil
  | (j, c) :: fs, (y, u) :: gs, .cons a b t => by
    unfold setF putF
    by_cases hj : j = i
    · subst hj
      rw [hx] at a
      cases a
      rw [if_pos rfl, if_pos rfl]
      exact .cons hx r t
    · rw [if_neg hj, if_neg fun z : y = x => hj (fld_inj (z ▸ a) hx)]
      exact .cons a b (RepF.put hx r t)
end

/-! ### dicts: keys are ints and texts, or tuples of these -/
def keyD : D → Option Key
  | .int i => some (.inl i)
  | .str x => some (.inr x)
  | _ => none
def keysD : List D → Option (List Key)
  | [] => some []
  | d :: ds => match keyD d, keysD ds with
    | some k, some ks => some (k :: ks)
    | _, _ => none
def keyT : D → Option (List Key)
  | .tup ds => keysD ds
  | _ => none
inductive RepK {κ : Type} (kf : D → Option κ) (ρ : Nat → Addr) (n : Nat) (H : Hp) : List (D × D) → List (κ × V) → Prop
  | nil : RepK kf ρ n H [] []
  | cons {k d : D} {x : κ} {v : V} {fs : List (D × D)} {gs : List (κ × V)} : kf k = some x → RepV ρ n H d v → RepK kf ρ n H fs gs → RepK kf ρ n H ((k, d) :: fs) ((x, v) :: gs)
section
variable {κ : Type} {kf : D → Option κ} {ρ ρ' : Nat → Addr} {n n' : Nat} {H H' : Hp}
theorem RepK.ext (x : Ext ρ n H ρ' n' H') : ∀ {fs : List (D × D)} {gs : List (κ × V)}, RepK kf ρ n H fs gs → RepK kf ρ' n' H' fs gs
  | [], _, .nil => .nil
  | _ :: _, _, .cons a b c => .cons a (b.ext x) (RepK.ext x c)
theorem RepK.cut {m : Nat} : ∀ {fs : List (D × D)} {gs : List (κ × V)}, RepK kf ρ n H fs gs → (fs.all fun p => p.1.bd m && p.2.bd m) = true → RepK kf ρ m H fs gs
  | [], _, .nil, _ => .nil
  | _ :: _, _, .cons a b c, e => by
    rw [List.all_cons, Bool.and_eq_true, Bool.and_eq_true] at e
    exact .cons a (b.cut e.1.2) (RepK.cut c e.2)
theorem RepK.len : ∀ {fs : List (D × D)} {gs : List (κ × V)}, RepK kf ρ n H fs gs → fs.length = gs.length
  | [], _, .nil => rfl
  | _ :: _, _, .cons _ _ c => by rw [List.length_cons, List.length_cons, RepK.len c]
end

/-! ### objects -/
def RepO (K : PySem.W.Frag) (ρ : Nat → Addr) (n : Nat) (H : Hp) (a : Addr) : O → Prop
  | .lst ds => ∃ vs, H a = some (.lst vs) ∧ RepVs ρ n H ds vs
  | .rol _ => True
  | .dic kvs => (∃ gs : List (Key × V), H a = some (.dK gs) ∧ RepK keyD ρ n H kvs gs) ∨ ∃ gs : List (List Key × V), H a = some (.dT gs) ∧ RepK keyT ρ n H kvs gs
  | .ins c fs => ∃ dx gs, H a = some (.ins (clsA K c) dx gs) ∧ RepF ρ n H fs gs
def KL (K : PySem.W.Frag) (a : Addr) (xs : List V) : Prop := ∃ (o : Obj) (its : Array Value) (n : Nat), K.lookup a = some o ∧ o.cls = .type "list" ∧ o.dict = none ∧ o.data = .seq its n ∧ its.size ≤ sizeLine ∧ Vals xs its.toList
structure RepA (K : PySem.W.Frag) (ρ : Nat → Addr) (H : Hp) (A : AH) : Prop where
  objs : ∀ i o, A[i]? = some o → RepO K ρ A.length H (ρ i) o
  rols : ∀ i ds, A[i]? = some (.rol ds) → ∃ vs, RepVs ρ A.length H ds vs ∧ (KL K (ρ i) vs ∨ (Rd H (ρ i) (.lst vs) ∧ ∀ j o, A[j]? = some o → o.mut = true → ρ j ≠ ρ i))
  inj : ∀ i j o u, A[i]? = some o → A[j]? = some u → o.mut = true → u.mut = true → ρ i = ρ j → i = j
structure Nxt (K : PySem.W.Frag) (ρ : Nat → Addr) (A : AH) (H : Hp) (ρ' : Nat → Addr) (A' : AH) (H' : Hp) : Prop where
  ext : Ext ρ A.length H ρ' A'.length H'
  rep : RepA K ρ' H' A'
/-- a mutable object as it stands -/
def Live : Option HO → Prop
  | some (.lst _) => True
  | some (.dK _) => True
  | some (.dT _) => True
  | some (.ins _ _ _) => True
  | _ => False
section
variable {K : PySem.W.Frag} {ρ ρ' ρ1 : Nat → Addr} {A A' B : AH} {n n' : Nat} {H H' H1 : Hp} {a p : Addr} {o o' : O} {ho : HO} {i : Nat}
theorem RepO.live (h : RepO K ρ n H a o) (m : o.mut = true) : Live (H a) := by
  cases o with
  | lst ds => obtain ⟨_, e, _⟩ := h; rw [e]; trivial
  | rol ds => cases m
  | dic kvs =>
    rcases h with ⟨_, e, _⟩ | ⟨_, e, _⟩ <;> (rw [e]; trivial)
  | ins c fs => obtain ⟨_, _, e, _⟩ := h; rw [e]; trivial
theorem RepO.ext (x : Ext ρ n H ρ' n' H') (e : H' a = H a) (h : RepO K ρ n H a o) : RepO K ρ' n' H' a o := by
  cases o with
  | lst ds => obtain ⟨vs, h1, h2⟩ := h; exact ⟨vs, e.trans h1, h2.ext x⟩
  | rol ds => trivial
  | dic kvs =>
    rcases h with ⟨gs, h1, h2⟩ | ⟨gs, h1, h2⟩
    · exact .inl ⟨gs, e.trans h1, h2.ext x⟩
    · exact .inr ⟨gs, e.trans h1, h2.ext x⟩
  | ins c fs => obtain ⟨dx, gs, h1, h2⟩ := h; exact ⟨dx, gs, e.trans h1, h2.ext x⟩
theorem RepO.cut {m : Nat} (h : RepO K ρ n H a o) (b : o.bd m = true) : RepO K ρ m H a o := by
  cases o with
  | lst ds => obtain ⟨vs, h1, h2⟩ := h; exact ⟨vs, h1, h2.cut b⟩
  | rol ds => trivial
  | dic kvs =>
    rcases h with ⟨gs, h1, h2⟩ | ⟨gs, h1, h2⟩
    · exact .inl ⟨gs, h1, h2.cut b⟩
    · exact .inr ⟨gs, h1, h2.cut b⟩
  | ins c fs => obtain ⟨dx, gs, h1, h2⟩ := h; exact ⟨dx, gs, h1, h2.cut b⟩
theorem Nxt.refl (R : RepA K ρ H A) : Nxt K ρ A H ρ A H := ⟨.refl, R⟩
theorem Nxt.trans (x : Nxt K ρ A H ρ1 B H1) (y : Nxt K ρ1 B H1 ρ' A' H') : Nxt K ρ A H ρ' A' H' := ⟨x.ext.trans y.ext, y.rep⟩
theorem lt_of_get {α : Type} {l : List α} {j : Nat} {u : α} (h : l[j]? = some u) : j < l.length := (List.getElem?_eq_some_iff.mp h).1
/-- more is tracked, nothing else is changed -/
theorem Nxt.same (R : RepA K ρ H A) (s : Same H H') : Nxt K ρ A H ρ A H' := by
  have x : Ext ρ A.length H ρ A.length H' := ⟨Nat.le_refl _, fun _ _ => rfl, fun a vs h => s a _ h⟩
  refine ⟨x, fun i o h => ?_, fun i ds h => ?_, R.inj⟩
  · have r := R.objs i o h
    cases m : o.mut with
    | true =>
      have l := r.live m
      refine r.ext x ?_
      cases q : H (ρ i) with
      | none => rw [q] at l; exact l.elim
      | some u => exact s _ _ q
    | false =>
      cases o with
      | rol ds => trivial
      | _ => cases m
  · obtain ⟨vs, h1, h2⟩ := R.rols i ds h
    refine ⟨vs, h1.ext x, ?_⟩
    rcases h2 with h2 | ⟨h2, h3⟩
    · exact .inl h2
    · refine .inr ⟨?_, h3⟩
      rcases h2 with h2 | ⟨ob, h2⟩
      · exact .inl (s _ _ h2)
      · exact .inr ⟨ob, s _ _ h2⟩
theorem same_upd (hp : H p = none) : Same H (upd H p ho) := fun b u e => by rw [upd_ne (ne_of_none e hp)]; exact e
/-- a new object -/
theorem Nxt.alloc (R : RepA K ρ H A) (hp : H p = none) (m : o.mut = true)
    (new : ∀ ρ', Ext ρ A.length H ρ' (A.length + 1) (upd H p ho) → RepO K ρ' (A.length + 1) (upd H p ho) p o) :
    ∃ ρ', ρ' A.length = p ∧ Nxt K ρ A H ρ' (A ++ [o]) (upd H p ho) := by
  have s : Same H (upd H p ho) := same_upd hp
  refine ⟨fun i => if i = A.length then p else ρ i, if_pos rfl, ?_⟩
  have x : Ext ρ A.length H (fun i => if i = A.length then p else ρ i) (A.length + 1) (upd H p ho) := ⟨Nat.le_succ _, fun i h => if_neg (Nat.ne_of_lt h), fun a vs h => s a _ h⟩
  have ge : ∀ i u, (A ++ [o])[i]? = some u → (i < A.length ∧ A[i]? = some u) ∨ (i = A.length ∧ u = o) := fun i u h => by
    by_cases hi : i < A.length
    · rw [List.getElem?_append_left hi] at h; exact .inl ⟨hi, h⟩
    · have hl := lt_of_get h
      rw [List.length_append, List.length_singleton] at hl
      have e : i = A.length := by omega
      subst e
      rw [List.getElem?_append_right (Nat.le_refl _), Nat.sub_self] at h
      exact .inr ⟨rfl, (Option.some.inj h).symm⟩
  have free : ∀ j u, A[j]? = some u → u.mut = true → ρ j ≠ p := fun j u h mu z => by
    have l := (R.objs j u h).live mu
    rw [z, hp] at l
    exact l
  have len : (A ++ [o]).length = A.length + 1 := by rw [List.length_append, List.length_singleton]
  refine ⟨by rw [len]; exact x, fun i u h => ?_, fun i ds h => ?_, fun i j u w h1 h2 m1 m2 e => ?_⟩
  · rw [len]
    rcases ge i u h with ⟨hi, h⟩ | ⟨rfl, rfl⟩
    · show RepO K _ _ _ (if i = A.length then p else ρ i) u
      rw [if_neg (Nat.ne_of_lt hi)]
      have r := R.objs i u h
      cases mu : u.mut with
      | true => exact r.ext x (upd_ne (free i u h mu))
      | false =>
        cases u with
        | rol ds => trivial
        | _ => cases mu
    · show RepO K _ _ _ (if A.length = A.length then p else ρ A.length) u
      rw [if_pos rfl]
      exact new _ x
  · rw [len]
    rcases ge i _ h with ⟨hi, h⟩ | ⟨rfl, rfl⟩
    · obtain ⟨vs, h1, h2⟩ := R.rols i ds h
      refine ⟨vs, h1.ext x, ?_⟩
      show KL K (if i = A.length then p else ρ i) vs ∨ (Rd (upd H p ho) (if i = A.length then p else ρ i) _ ∧ ∀ j o_1, _ → _ → (if j = A.length then p else ρ j) ≠ (if i = A.length then p else ρ i))
      rw [if_neg (Nat.ne_of_lt hi)]
      rcases h2 with h2 | ⟨h2, h3⟩
      · exact .inl h2
      · have hne : ρ i ≠ p := fun z => by
          rcases h2 with h2 | ⟨ob, h2⟩ <;> (rw [z, hp] at h2; cases h2)
        refine .inr ⟨?_, fun j u hj mu => ?_⟩
        · rcases h2 with h2 | ⟨ob, h2⟩
          · exact .inl (s _ _ h2)
          · exact .inr ⟨ob, s _ _ h2⟩
        · rcases ge j u hj with ⟨hjl, hj⟩ | ⟨rfl, rfl⟩
          · rw [if_neg (Nat.ne_of_lt hjl)]; exact h3 j u hj mu
          · rw [if_pos rfl]; exact fun z => hne z.symm
    · cases m
  · have e' : (if i = A.length then p else ρ i) = (if j = A.length then p else ρ j) := e
    rcases ge i u h1 with ⟨hi, g1⟩ | ⟨ei, eu⟩ <;> rcases ge j w h2 with ⟨hj, g2⟩ | ⟨ej, ew⟩
    · rw [if_neg (Nat.ne_of_lt hi), if_neg (Nat.ne_of_lt hj)] at e'
      exact R.inj i j u w g1 g2 m1 m2 e'
    · rw [if_neg (Nat.ne_of_lt hi), if_pos ej] at e'
      exact absurd e' (free i u g1 m1)
    · rw [if_pos ei, if_neg (Nat.ne_of_lt hj)] at e'
      exact absurd e'.symm (free j w g2 m2)
    · rw [ei, ej]
/-- an object is changed -/
theorem Nxt.set (R : RepA K ρ H A) (hi : A[i]? = some o) (m : o.mut = true) (m' : o'.mut = true) (new : Ext ρ A.length H ρ A.length (upd H (ρ i) ho) → RepO K ρ A.length (upd H (ρ i) ho) (ρ i) o') :
    Nxt K ρ A H ρ (A.set i o') (upd H (ρ i) ho) := by
  have l := (R.objs i o hi).live m
  have x : Ext ρ A.length H ρ A.length (upd H (ρ i) ho) := ⟨Nat.le_refl _, fun _ _ => rfl, fun a vs h => by
    rw [upd_ne fun z => by rw [← z, h] at l; exact l]
    exact h⟩
  have hl := lt_of_get hi
  have ge : ∀ j u, (A.set i o')[j]? = some u → (j ≠ i ∧ A[j]? = some u) ∨ (j = i ∧ u = o') := fun j u h => by
    by_cases e : i = j
    · subst e
      rw [List.getElem?_set_self hl] at h
      exact .inr ⟨rfl, (Option.some.inj h).symm⟩
    · rw [List.getElem?_set_ne e] at h
      exact .inl ⟨fun z => e z.symm, h⟩
  have len : (A.set i o').length = A.length := List.length_set
  refine ⟨by rw [len]; exact x, fun j u h => ?_, fun j ds h => ?_, fun j k u w h1 h2 m1 m2 e => ?_⟩
  · rw [len]
    rcases ge j u h with ⟨hj, h⟩ | ⟨rfl, rfl⟩
    · have r := R.objs j u h
      cases mu : u.mut with
      | true => exact r.ext x (upd_ne fun z => hj (R.inj j i u o h hi mu m z))
      | false =>
        cases u with
        | rol ds => trivial
        | _ => cases mu
    · exact new x
  · rw [len]
    rcases ge j _ h with ⟨hj, h⟩ | ⟨rfl, rfl⟩
    · obtain ⟨vs, h1, h2⟩ := R.rols j ds h
      refine ⟨vs, h1.ext x, ?_⟩
      rcases h2 with h2 | ⟨h2, h3⟩
      · exact .inl h2
      · have hne : ρ j ≠ ρ i := fun z => h3 i o hi m z.symm
        refine .inr ⟨?_, fun k u hk mu => ?_⟩
        · rcases h2 with h2 | ⟨ob, h2⟩
          · exact .inl ((upd_ne hne).trans h2)
          · exact .inr ⟨ob, (upd_ne hne).trans h2⟩
        · rcases ge k u hk with ⟨_, hk⟩ | ⟨rfl, rfl⟩
          · exact h3 k u hk mu
          · exact h3 k o hi m
    · cases m'
  · rcases ge j u h1 with ⟨hj, g1⟩ | ⟨ej, eu⟩ <;> rcases ge k w h2 with ⟨hk, g2⟩ | ⟨ek, ew⟩
    · exact R.inj j k u w g1 g2 m1 m2 e
    · rw [ek] at e ⊢
      exact R.inj j i u o g1 hi m1 m e
    · rw [ej] at e ⊢
      exact R.inj i k o w hi g2 m m2 e
    · rw [ej, ek]
/-- a sequence that is read -/
theorem RepA.seq (R : RepA K ρ H A) {ds : List D} (h : seqAt A i = some ds) : ∃ vs, SqL K H (ρ i) vs ∧ RepVs ρ A.length H ds vs := by
  unfold seqAt at h
  cases e : A[i]? with
  | none => rw [e] at h; cases h
  | some u =>
    rw [e] at h
    cases u with
    | lst xs =>
      cases h
      obtain ⟨vs, h1, h2⟩ := R.objs i _ e
      exact ⟨vs, .inl (.inl h1), h2⟩
    | rol xs =>
      cases h
      obtain ⟨vs, h1, h2⟩ := R.rols i _ e
      refine ⟨vs, ?_, h1⟩
      rcases h2 with h2 | ⟨h2, _⟩
      · exact .inr h2
      · exact .inl h2
    | dic _ => cases h
    | ins _ _ => cases h
end
end DL
set_option Elab.async false
set_option linter.all false
set_option maxRecDepth 100000
set_option maxHeartbeats 4000000
/-! The judgements: a piece of syntax does what a plain function says (own work). -/
namespace DL
open PySem PySem.Spec PyProof.Rows L2
abbrev Sl := L2.St

theorem PE.imp {X : Cx} {e : Expr} {t t' : TE} (h : PE X e t) (hh : ∀ σ H Q, t' σ H Q → t σ H Q) : PE X e t' := ⟨fun pins s σ H Q I q => h.run pins s σ H Q I (hh σ H Q q)⟩
theorem PT.imp {X : Cx} {e : Expr} {t t' : TT} (h : PT X e t) (hh : ∀ σ H Q, t' σ H Q → t σ H Q) : PT X e t' := ⟨fun pins s σ H Q I q => h.run pins s σ H Q I (hh σ H Q q)⟩
theorem PW.imp {X : Cx} {e : Expr} {t t' : TT} (h : PW X e t) (hh : ∀ σ H Q, t' σ H Q → t σ H Q) : PW X e t' := ⟨fun wh pins s σ H Q I q => h.run wh pins s σ H Q I (hh σ H Q q)⟩
theorem PA.imp {X : Cx} {e : List Expr} {t t' : TA} (h : PA X e t) (hh : ∀ σ H Q, t' σ H Q → t σ H Q) : PA X e t' := ⟨fun pos pins s σ H Q I q => h.run pos pins s σ H Q I (hh σ H Q q)⟩
theorem PI.imp {X : Cx} {tg e : Expr} {t t' : TI} (h : PI X tg e t) (hh : ∀ σ H R, t' σ H R → t σ H R) : PI X tg e t' := ⟨fun pins s σ H R I q => h.run pins s σ H R I (hh σ H R q)⟩
theorem PS.imp {X : Cx} {e : Stmt} {t t' : TS} (h : PS X e t) (hh : ∀ D σ H, t' D σ H → t D σ H) : PS X e t' := ⟨fun pins s σ H D I q => h.run pins s σ H D I (hh D σ H q)⟩
theorem PSs.imp {X : Cx} {e : List Stmt} {t t' : TS} (h : PSs X e t) (hh : ∀ D σ H, t' D σ H → t D σ H) : PSs X e t' := ⟨fun pins s σ H D I q => h.run pins s σ H D I (hh D σ H q)⟩
theorem PG.imp {X : Cx} {e : Expr} {t t' : TG} (h : PG X e t) (hh : ∀ v σ H Q, t' v σ H Q → t v σ H Q) : PG X e t' := ⟨fun pins s σ H v u Q I r q => h.run pins s σ H v u Q I r (hh v σ H Q q)⟩
theorem PGs.imp {X : Cx} {e : List Expr} {t t' : TGs} (h : PGs X e t) (hh : ∀ v σ H Q, t' v σ H Q → t v σ H Q) : PGs X e t' := ⟨fun pins s σ H v u Q I r q => h.run pins s σ H v u Q I r (hh v σ H Q q)⟩

/-- the slots -/
structure RepE (ρ : Nat → Addr) (n : Nat) (H : Hp) (E : Env) (σ : Sl) : Prop where
  len : E.length = σ.length
  get : ∀ (i : Nat) (d : D), E[i]? = some (some d) → ∃ v, σ[i]? = some (some v) ∧ RepV ρ n H d v
theorem RepE.ext {ρ ρ' : Nat → Addr} {n n' : Nat} {H H' : Hp} {E : Env} {σ : Sl} (r : RepE ρ n H E σ) (x : Ext ρ n H ρ' n' H') : RepE ρ' n' H' E σ :=
  ⟨r.len, fun i d h => let ⟨v, h1, h2⟩ := r.get i d h; ⟨v, h1, h2.ext x⟩⟩
theorem RepE.set {ρ : Nat → Addr} {n : Nat} {H : Hp} {E : Env} {σ : Sl} (r : RepE ρ n H E σ) (i : Nat) {d : D} {v : V} (h : RepV ρ n H d v) : RepE ρ n H (E.set i (some d)) (σ.set i (some v)) := by
  refine ⟨by rw [List.length_set, List.length_set]; exact r.len, fun j c e => ?_⟩
  have hl := lt_of_get e
  rw [List.length_set] at hl
  by_cases z : i = j
  · subst z
    rw [List.getElem?_set_self hl] at e
    cases e
    exact ⟨v, List.getElem?_set_self (by rw [← r.len]; exact hl), h⟩
  · rw [List.getElem?_set_ne z] at e
    obtain ⟨u, h1, h2⟩ := r.get j c e
    exact ⟨u, by rw [List.getElem?_set_ne z]; exact h1, h2⟩
theorem RepE.clear {ρ : Nat → Addr} {n : Nat} {H : Hp} {E : Env} {σ : Sl} (r : RepE ρ n H E σ) (i : Nat) : RepE ρ n H (E.set i none) (σ.set i none) := by
  refine ⟨by rw [List.length_set, List.length_set]; exact r.len, fun j c e => ?_⟩
  have hl := lt_of_get e
  rw [List.length_set] at hl
  by_cases z : i = j
  · subst z
    rw [List.getElem?_set_self hl] at e
    cases e
  · rw [List.getElem?_set_ne z] at e
    obtain ⟨u, h1, h2⟩ := r.get j c e
    exact ⟨u, by rw [List.getElem?_set_ne z]; exact h1, h2⟩
theorem RepE.wipe {ρ : Nat → Addr} {n : Nat} {H : Hp} {E : Env} {σ : Sl} (r : RepE ρ n H E σ) : ∀ vs : List Nat, RepE ρ n H (wipeE E vs) (L2.wipe σ vs)
  | [] => r
  | v :: vs => (RepE.wipe r vs).clear v

/-- an exception -/
def RepX (K : PySem.W.Frag) (ρ : Nat → Addr) (n : Nat) (H : Hp) (x : Exn) (cls : Value) (d : Option Addr) : Prop :=
  cls = .ref (clsA K x.cls) ∧ ((x.fs = [] ∧ d = none) ∨ ∃ a gs, d = some a ∧ H a = some (.xd gs) ∧ RepF ρ n H x.fs gs)

/-- what must hold of a result -/
def Post {α β : Type} (K : PySem.W.Frag) (W : WX) (rel : (Nat → Addr) → Nat → Hp → α → β → Prop) (ρ : Nat → Addr) (A : AH) (σ : Sl) (H : Hp) (r : Res α) (Q : β → Hp → Prop) : Prop := match r with
  | .ok a B => ∀ ρ' b H', Nxt K ρ A H ρ' B H' → rel ρ' B.length H' a b → Q b H'
  | .exc x B => ∀ ρ' cls d H', Nxt K ρ A H ρ' B H' → RepX K ρ' B.length H' x cls d → W cls d σ H'
  | .bad => False
abbrev relB : (Nat → Addr) → Nat → Hp → Bool → Bool → Prop := fun _ _ _ a b => a = b
theorem Post.imp {α β : Type} {K : PySem.W.Frag} {W : WX} {rel : (Nat → Addr) → Nat → Hp → α → β → Prop} {ρ : Nat → Addr} {A : AH} {σ : Sl} {H : Hp} {r : Res α} {Q Q' : β → Hp → Prop} (h : Post K W rel ρ A σ H r Q) (hq : ∀ b H', Q b H' → Q' b H') : Post K W rel ρ A σ H r Q' := by
  cases r with
  | ok a B => exact fun ρ' b H' n r => hq _ _ (h ρ' b H' n r)
  | exc x B => exact h
  | bad => exact h
/-- from a later state -/
theorem Post.later {α β : Type} {K : PySem.W.Frag} {W : WX} {rel : (Nat → Addr) → Nat → Hp → α → β → Prop} {ρ ρ1 : Nat → Addr} {A B : AH} {σ : Sl} {H H1 : Hp} {r : Res α} {Q : β → Hp → Prop} (h : Post K W rel ρ A σ H r Q) (n : Nxt K ρ A H ρ1 B H1) : Post K W rel ρ1 B σ H1 r Q := by
  cases r with
  | ok a C => exact fun ρ' b H' n' r => h ρ' b H' (n.trans n') r
  | exc x C => exact fun ρ' c d H' n' r => h ρ' c d H' (n.trans n') r
  | bad => exact h
theorem Post.bind {α β γ δ : Type} {K : PySem.W.Frag} {W : WX} {rel : (Nat → Addr) → Nat → Hp → α → β → Prop} {rel2 : (Nat → Addr) → Nat → Hp → γ → δ → Prop} {ρ : Nat → Addr} {A : AH} {σ : Sl} {H : Hp} {r : Res α} {f : α → AH → Res γ} {Q : δ → Hp → Prop} {Q1 : β → Hp → Prop}
    (h : Post K W rel2 ρ A σ H (r.bind f) Q) (hq : ∀ ρ1 a B b H1, Nxt K ρ A H ρ1 B H1 → rel ρ1 B.length H1 a b → Post K W rel2 ρ1 B σ H1 (f a B) Q → Q1 b H1) : Post K W rel ρ A σ H r Q1 := by
  cases r with
  | ok a B => exact fun ρ' b H' n r => hq ρ' a B b H' n r (Post.later h n)
  | exc x B => exact h
  | bad => exact h

/-- the transformers -/
def tE (K : PySem.W.Frag) (W : WX) (m : Ex) : TE := fun σ H Q => ∃ ρ E A, RepE ρ A.length H E σ ∧ RepA K ρ H A ∧ Post K W RepV ρ A σ H (m E A) Q
def tT (K : PySem.W.Frag) (W : WX) (m : Tx) : TT := fun σ H Q => ∃ ρ E A, RepE ρ A.length H E σ ∧ RepA K ρ H A ∧ Post K W relB ρ A σ H (m E A) Q
def tAr (K : PySem.W.Frag) (W : WX) (m : Ax) : TA := fun σ H Q => ∃ ρ E A, RepE ρ A.length H E σ ∧ RepA K ρ H A ∧ Post K W RepVs ρ A σ H (m E A) Q
/-- an iterator, abstractly -/
def ItOk (K : PySem.W.Frag) (ρ0 : Nat → Addr) (A0 : AH) (H0 : Hp) (src : Src) (J : It) : Prop := ∀ ρ A H, Nxt K ρ0 A0 H0 ρ A H → ∀ i, match src.at A i with
  | .item d => J.go i H ∧ ∀ x H', J.yld i H x H' → Same H H' ∧ RepV ρ A.length H' d x
  | .stop => J.stop i H
  | .bad => True
abbrev relI (K : PySem.W.Frag) (A : AH) : (Nat → Addr) → Nat → Hp → Src → It → Prop := fun ρ _ H s J => ItOk K ρ A H s J
def PostI (K : PySem.W.Frag) (W : WX) (ρ : Nat → Addr) (A : AH) (σ : Sl) (H : Hp) (r : Res Src) (Q : It → Hp → Prop) : Prop := match r with
  | .ok a B => ∀ ρ' b H', Nxt K ρ A H ρ' B H' → ItOk K ρ' B H' a b → Q b H'
  | .exc x B => ∀ ρ' cls d H', Nxt K ρ A H ρ' B H' → RepX K ρ' B.length H' x cls d → W cls d σ H'
  | .bad => False
def tI (K : PySem.W.Frag) (W : WX) (m : Ix) : TI := fun σ H R => ∃ ρ E A, RepE ρ A.length H E σ ∧ RepA K ρ H A ∧ PostI K W ρ A σ H (m E A) R
def PostS (K : PySem.W.Frag) (W : WX) (ρ : Nat → Addr) (A : AH) (H : Hp) (r : SRes) (Dn : Ends) : Prop := match r with
  | .nx E B => ∀ ρ' σ H', Nxt K ρ A H ρ' B H' → RepE ρ' B.length H' E σ → Dn.nx σ H'
  | .rt d B => ∀ ρ' v H', Nxt K ρ A H ρ' B H' → RepV ρ' B.length H' d v → Dn.rt v H'
  | .bk E B => ∀ ρ' σ H', Nxt K ρ A H ρ' B H' → RepE ρ' B.length H' E σ → Dn.bk σ H'
  | .ct E B => ∀ ρ' σ H', Nxt K ρ A H ρ' B H' → RepE ρ' B.length H' E σ → Dn.ct σ H'
  | .exc x E B => ∀ ρ' cls d σ H', Nxt K ρ A H ρ' B H' → RepE ρ' B.length H' E σ → RepX K ρ' B.length H' x cls d → W cls d σ H'
  | .bad => False
def tS (K : PySem.W.Frag) (W : WX) (m : Sx) : TS := fun Dn σ H => ∃ ρ E A, RepE ρ A.length H E σ ∧ RepA K ρ H A ∧ PostS K W ρ A H (m E A) Dn
/-- a target: of a value -/
def PostG (K : PySem.W.Frag) (W : WX) (ρ : Nat → Addr) (A : AH) (H : Hp) (r : SRes) (Q : Sl → Hp → Prop) : Prop := match r with
  | .nx E B => ∀ ρ' σ H', Nxt K ρ A H ρ' B H' → RepE ρ' B.length H' E σ → Q σ H'
  | .exc x E B => ∀ ρ' cls d σ H', Nxt K ρ A H ρ' B H' → RepE ρ' B.length H' E σ → RepX K ρ' B.length H' x cls d → W cls d σ H'
  | _ => False
def tG (K : PySem.W.Frag) (W : WX) (g : Gx) : TG := fun v σ H Q => ∃ ρ E A d, RepE ρ A.length H E σ ∧ RepA K ρ H A ∧ RepV ρ A.length H d v ∧ PostG K W ρ A H (g d E A) Q
def tGs (K : PySem.W.Frag) (W : WX) (g : Gsx) : TGs := fun vs σ H Q => ∃ ρ E A ds, RepE ρ A.length H E σ ∧ RepA K ρ H A ∧ RepVs ρ A.length H ds vs ∧ PostG K W ρ A H (g ds E A) Q

section
variable {K : PySem.W.Frag} {W : WX} {ρ ρ1 : Nat → Addr} {A B : AH} {σ : Sl} {H H1 : Hp} {r : SRes} {Dn : Ends} {Q : Sl → Hp → Prop}
theorem PostS.later (h : PostS K W ρ A H r Dn) (n : Nxt K ρ A H ρ1 B H1) : PostS K W ρ1 B H1 r Dn := by
  cases r with
  | nx E C => exact fun ρ' σ H' n' r => h ρ' σ H' (n.trans n') r
  | rt d C => exact fun ρ' v H' n' r => h ρ' v H' (n.trans n') r
  | bk E C => exact fun ρ' σ H' n' r => h ρ' σ H' (n.trans n') r
  | ct E C => exact fun ρ' σ H' n' r => h ρ' σ H' (n.trans n') r
  | exc x E C => exact fun ρ' c d σ H' n' r => h ρ' c d σ H' (n.trans n') r
  | bad => exact h
theorem PostG.later (h : PostG K W ρ A H r Q) (n : Nxt K ρ A H ρ1 B H1) : PostG K W ρ1 B H1 r Q := by
  cases r with
  | nx E C => exact fun ρ' σ H' n' r => h ρ' σ H' (n.trans n') r
  | rt d C => exact h
  | bk E C => exact h
  | ct E C => exact h
  | exc x E C => exact fun ρ' c d σ H' n' r => h ρ' c d σ H' (n.trans n') r
  | bad => exact h
/-- an expression ahead of a statement's rest -/
theorem PostS.then {α β : Type} {rel : (Nat → Addr) → Nat → Hp → α → β → Prop} {q : Res α} {E : Env} {f : α → AH → SRes} {Q1 : β → Hp → Prop} (hE : RepE ρ A.length H E σ) (h : PostS K W ρ A H (q.then E f) Dn)
    (hq : ∀ ρ1 a B b H1, Nxt K ρ A H ρ1 B H1 → rel ρ1 B.length H1 a b → PostS K W ρ1 B H1 (f a B) Dn → Q1 b H1) : Post K W rel ρ A σ H q Q1 := by
  cases q with
  | ok a B => exact fun ρ' b H' n r => hq ρ' a B b H' n r (PostS.later h n)
  | exc x B => exact fun ρ' c d H' n r => h ρ' c d σ H' n (hE.ext n.ext) r
  | bad => exact h
theorem PostG.then {α β : Type} {rel : (Nat → Addr) → Nat → Hp → α → β → Prop} {q : Res α} {E : Env} {f : α → AH → SRes} {Q1 : β → Hp → Prop} (hE : RepE ρ A.length H E σ) (h : PostG K W ρ A H (q.then E f) Q)
    (hq : ∀ ρ1 a B b H1, Nxt K ρ A H ρ1 B H1 → rel ρ1 B.length H1 a b → PostG K W ρ1 B H1 (f a B) Q → Q1 b H1) : Post K W rel ρ A σ H q Q1 := by
  cases q with
  | ok a B => exact fun ρ' b H' n r => hq ρ' a B b H' n r (PostG.later h n)
  | exc x B => exact fun ρ' c d H' n r => h ρ' c d σ H' n (hE.ext n.ext) r
  | bad => exact h
end

/-- the judgements -/
def RE (X : Cx) (W : WX) (e : Expr) (m : Ex) : Prop := PE X e (tE X.K W m)
def RT (X : Cx) (W : WX) (e : Expr) (m : Tx) : Prop := PT X e (tT X.K W m)
def RW (X : Cx) (W : WX) (e : Expr) (m : Tx) : Prop := PW X e (tT X.K W m)
def RA (X : Cx) (W : WX) (e : List Expr) (m : Ax) : Prop := PA X e (tAr X.K W m)
def RI (X : Cx) (W : WX) (tg e : Expr) (m : Ix) : Prop := PI X tg e (tI X.K W m)
def RS (X : Cx) (W : WX) (e : Stmt) (m : Sx) : Prop := PS X e (tS X.K W m)
def RSs (X : Cx) (W : WX) (e : List Stmt) (m : Sx) : Prop := PSs X e (tS X.K W m)
def RG (X : Cx) (W : WX) (e : Expr) (m : Gx) : Prop := PG X e (tG X.K W m)
def RGs (X : Cx) (W : WX) (e : List Expr) (m : Gsx) : Prop := PGs X e (tGs X.K W m)
/-- an operation's rule says what the function says -/
def OkL (K : PySem.W.Frag) (r : List V → Hp → VK → Prop) (F : Fn) : Prop := ∀ W ρ A σ H ds vs Q, RepA K ρ H A → RepVs ρ A.length H ds vs → Post K W RepV ρ A σ H (F ds A) Q → r vs H Q
def Ok2 (K : PySem.W.Frag) (r : R2) (F : Fn) : Prop := ∀ W ρ A σ H d e v u Q, RepA K ρ H A → RepV ρ A.length H d v → RepV ρ A.length H e u → Post K W RepV ρ A σ H (F [d, e] A) Q → r v u H Q

section
variable {X : Cx} {W : WX} {pos : Pos}
theorem re_var (i : Nat) {x : Str} (hN : X.N[i]? = some x := by rfl) (hv : Vis X.env.scope x := by first | exact Or.inl rfl | exact Or.inr (Or.inl rfl) | exact Or.inr (Or.inr rfl)) (hd : (x == ("__debug__" : Str)) = false := by decide)
    (hcd : (x == ("__classdict__" : Str)) = false := by decide) : RE X W (.Name x pos) (eVar i) := by
  refine PE.imp (pe_var hN hv hd hcd) fun σ H Q ⟨ρ, E, A, hE, hA, h⟩ => ?_
  have h' : Post X.K W RepV ρ A σ H (okD A E[i]?) Q := h
  cases e : E[i]? with
  | none => rw [e] at h'; exact h'.elim
  | some o =>
    rw [e] at h'
    cases o with
    | none => exact h'.elim
    | some d =>
      obtain ⟨v, h1, h2⟩ := hE.get i d e
      exact ⟨v, h1, h' ρ v H (.refl hA) h2⟩
theorem re_const {e : Expr} {d : D} {v : V} (h : PE X e (L2.tC v)) (r : ∀ ρ n H, RepV ρ n H d v) : RE X W e (eC d) :=
  PE.imp h fun σ H Q ⟨ρ, E, A, hE, hA, q⟩ => q ρ v H (.refl hA) (r _ _ _)
theorem re_int {i j} : RE X W (.Constant (.int i) j pos) (eC (.int i)) := re_const pe_int fun _ _ _ => .int i
theorem re_bl {b j} : RE X W (.Constant (.bool b) j pos) (eC (.bl b)) := re_const pe_bl fun _ _ _ => .bl b
theorem re_non {j} : RE X W (.Constant .none j pos) (eC .non) := re_const pe_non fun _ _ _ => .non
theorem re_str {x j} : RE X W (.Constant (.str x) j pos) (eC (.str x)) := re_const pe_str fun _ _ _ => .str x
/-- a module's number -/
theorem re_globI {x : Str} {i : Int} (hg : Gl X x) (hm : ∃ t, X.mg x = some (.int i t)) (hd : (x == ("__debug__" : Str)) = false := by decide) : RE X W (.Name x pos) (eC (.int i)) := by
  obtain ⟨t, hm⟩ := hm
  exact re_const (pe_glob (v := .int i) hg hm ⟨t, rfl⟩ hd) fun _ _ _ => .int i
theorem re_globS {x z : Str} (hg : Gl X x) (hm : ∃ t, X.mg x = some (.str z t)) (hd : (x == ("__debug__" : Str)) = false := by decide) : RE X W (.Name x pos) (eC (.str z)) := by
  obtain ⟨t, hm⟩ := hm
  exact re_const (pe_glob (v := .str z) hg hm ⟨t, rfl⟩ hd) fun _ _ _ => .str z
theorem re_globN {x : Str} (hg : Gl X x) (hm : X.mg x = some .none) (hd : (x == ("__debug__" : Str)) = false := by decide) : RE X W (.Name x pos) (eC .non) :=
  re_const (pe_glob (v := .non) hg hm rfl hd) fun _ _ _ => .non

/-! ### arguments -/
variable {e a b c : Expr} {es : List Expr} {ma mb mc : Ex} {mr : Ax}
theorem ra_nil : RA X W [] aNil := PA.imp pa_nil fun σ H Q ⟨ρ, E, A, hE, hA, h⟩ => h ρ [] H (.refl hA) .nil
theorem ra_cons (ha : RE X W e ma) (hr : RA X W es mr) (hs : starEach (e :: es) X.env = (false, eval e X.env) :: starEach es X.env := by rfl) : RA X W (e :: es) (aCons ma mr) := by
  refine PA.imp (pa_cons ha hr hs) fun σ H Q ⟨ρ, E, A, hE, hA, h⟩ => ?_
  refine ⟨ρ, E, A, hE, hA, Post.bind h fun ρ1 d B v H1 n1 r1 h1 => ?_⟩
  refine ⟨ρ1, E, B, hE.ext n1.ext, n1.rep, Post.bind h1 fun ρ2 ds C vs H2 n2 r2 h2 => ?_⟩
  exact h2 ρ2 (v :: vs) H2 (.refl n2.rep) (.cons (r1.ext n2.ext) r2)
theorem eF1 {F : Fn} {E : Env} {A : AH} : eF F (aCons ma aNil) E A = (ma E A).bind fun x A1 => F [x] A1 := by
  unfold eF aCons
  cases ma E A <;> rfl
theorem eF2 {F : Fn} {E : Env} {A : AH} : eF F (aCons ma (aCons mb aNil)) E A = (ma E A).bind fun x A1 => (mb E A1).bind fun y A2 => F [x, y] A2 := by
  unfold eF aCons
  cases ma E A with
  | ok d A1 =>
    show ((Res.bind (Res.bind (mb E A1) (kCons aNil E)) (kCons2 d)).bind F) = (mb E A1).bind fun y A2 => F [d, y] A2
    cases e : mb E A1 <;> rfl
  | exc x A1 => rfl
  | bad => rfl
/-- two operands -/
theorem two {r : R2} {F : Fn} (hk : Ok2 X.K r F) {σ : Sl} {H : Hp} {Q : VK} (h : tE X.K W (eF F (aCons ma (aCons mb aNil))) σ H Q) : tOp r (tE X.K W ma) (tE X.K W mb) σ H Q := by
  obtain ⟨ρ, E, A, hE, hA, h⟩ := h
  rw [eF2] at h
  refine ⟨ρ, E, A, hE, hA, Post.bind h fun ρ1 d B v H1 n1 r1 h1 => ?_⟩
  refine ⟨ρ1, E, B, hE.ext n1.ext, n1.rep, Post.bind h1 fun ρ2 d2 C v2 H2 n2 r2 h2 => ?_⟩
  exact hk W ρ2 C σ H2 d d2 v v2 Q n2.rep (r1.ext n2.ext) r2 h2
theorem re_bin {op : Operator} {r : R2} {F : Fn} (ho : OpR X (binaryOp op) r) (hk : Ok2 X.K r F) (ha : RE X W a ma) (hb : RE X W b mb) : RE X W (.BinOp a op b pos) (eF F (aCons ma (aCons mb aNil))) :=
  PE.imp (pe_op ho ha hb) fun σ H Q h => two hk h
theorem re_cmp {op : CmpOp} {r : R2} {F : Fn} (ho : OpR X (compareOp op) r) (hk : Ok2 X.K r F) (ha : RE X W a ma) (hb : RE X W b mb) (hm : behindInMarks op b = false) : RE X W (.Compare a [op] [b] pos) (eF F (aCons ma (aCons mb aNil))) :=
  PE.imp (pe_cmpR ho ha hb hm) fun σ H Q h => two hk h
theorem rt_cmp {op : CmpOp} {r : R2} {F : Fn} (ho : OpR X (compareOp op) r) (hk : Ok2 X.K r F) (ha : RE X W a ma) (hb : RE X W b mb) (hm : behindInMarks op b = false) : RT X W (.Compare a [op] [b] pos) (tB (eF F (aCons ma (aCons mb aNil)))) := by
  refine PT.imp (pt_cmpR ho ha hb hm) fun σ H Q ⟨ρ, E, A, hE, hA, h⟩ => two hk (W := W) ⟨ρ, E, A, hE, hA, Post.bind h fun ρ1 d B v H1 n1 r1 h1 => ?_⟩
  cases d with
  | bl k =>
    cases r1
    exact ⟨k, rfl, h1 ρ1 k H1 (.refl n1.rep) rfl⟩
  | _ => exact h1.elim
theorem re_ix {r : R2} {F : Fn} (ho : IxR X r) (hk : Ok2 X.K r F) (ha : RE X W a ma) (hb : RE X W b mb) (hs : PlainIx b) : RE X W (.Subscript a b pos) (eF F (aCons ma (aCons mb aNil))) :=
  PE.imp (pe_ix ho ha hb hs) fun σ H Q h => two hk h
theorem re_un {op : UnaryOp} {r : V → Hp → VK → Prop} {F : Fn} (ho : UnR X (unaryOp op) r) (hk : OkL X.K (fun vs H Q => ∃ v, vs = [v] ∧ r v H Q) F) (ha : RE X W a ma) : RE X W (.UnaryOp op a pos) (eF F (aCons ma aNil)) := by
  refine PE.imp (pe_un ho ha) fun σ H Q ⟨ρ, E, A, hE, hA, h⟩ => ?_
  rw [eF1] at h
  refine ⟨ρ, E, A, hE, hA, Post.bind h fun ρ1 d B v H1 n1 r1 h1 => ?_⟩
  obtain ⟨v', e, q⟩ := hk W ρ1 B σ H1 [d] [v] Q n1.rep (.cons r1 .nil) h1
  cases e
  exact q
/-- a built-in by its name, a built-in class -/
theorem many {r : List V → Hp → VK → Prop} {F : Fn} (hk : OkL X.K r F) {σ : Sl} {H : Hp} {Q : VK} (h : tE X.K W (eF F mr) σ H Q) : tCB r (tAr X.K W mr) σ H Q := by
  obtain ⟨ρ, E, A, hE, hA, h⟩ := h
  refine ⟨ρ, E, A, hE, hA, Post.bind h fun ρ1 ds B vs H1 n1 r1 h1 => ?_⟩
  exact hk W ρ1 B σ H1 ds vs Q n1.rep r1 h1
theorem re_callB {id : String} {x : Str} {p : Pos} {r : List V → Hp → VK → Prop} {F : Fn} (hc : CallR X (.builtin id) r) (hk : OkL X.K r F) (hg : Gl X x) (hm : X.mg x = none) (hv : bootBuiltins x = some (.builtin id)) (ha : RA X W (e :: es) mr)
    (hn : x ≠ "__name__" := by decide) (hdb : (x == ("__debug__" : Str)) = false := by decide) (he : starEach (e :: es) X.env = (false, eval e X.env) :: starEach es X.env := by rfl) (hpl : (backTo pos (starEach es X.env)).any (·.1) = false := by rfl) :
    RE X W (.Call (.Name x p) (e :: es) [] pos) (eF F mr) := PE.imp (pe_callB hc hg hm hv ha hn hdb he hpl) fun σ H Q h => many hk h
theorem re_callTy {T : String} {x : Str} {p : Pos} {r : List V → Hp → VK → Prop} {F : Fn} (hc : CallR X (.type T) r) (hk : OkL X.K r F) (hg : Gl X x) (hm : X.mg x = none) (hv : bootBuiltins x = some (.type T)) (ha : RA X W (e :: es) mr)
    (hn : x ≠ "__name__" := by decide) (hdb : (x == ("__debug__" : Str)) = false := by decide) (he : starEach (e :: es) X.env = (false, eval e X.env) :: starEach es X.env := by rfl) (hpl : (backTo pos (starEach es X.env)).any (·.1) = false := by rfl) :
    RE X W (.Call (.Name x p) (e :: es) [] pos) (eF F mr) := PE.imp (pe_callTy hc hg hm hv ha hn hdb he hpl) fun σ H Q h => many hk h
end
end DL
set_option Elab.async false
set_option linter.all false
set_option maxRecDepth 100000
set_option maxHeartbeats 4000000
/-! Calls, tests, statements, loops (own work). -/
namespace DL
open PySem PySem.Spec PyProof.Rows L2

/-- the promise of a def of n parameters: it does what F says -/
def spD (K : PySem.W.Frag) (n : Nat) (F : Fn) : Sp := fun vs H Q E => vs.length = n ∧ ∃ ρ ds A, RepVs ρ A.length H ds vs ∧ RepA K ρ H A ∧ Post K (fun c d _ H' => E c d H') RepV ρ A [] H (F ds A) Q
/-- a wish about exceptions does not look at the slots -/
theorem Post.wish {α β : Type} {K : PySem.W.Frag} {W W' : WX} {rel : (Nat → Addr) → Nat → Hp → α → β → Prop} {ρ : Nat → Addr} {A : AH} {σ σ' : Sl} {H : Hp} {r : Res α} {Q : β → Hp → Prop} (h : Post K W rel ρ A σ H r Q) (hw : ∀ c d H', W c d σ H' → W' c d σ' H') : Post K W' rel ρ A σ' H r Q := by
  cases r with
  | ok a B => exact h
  | exc x B => exact fun ρ' c d H' n r => hw _ _ _ (h ρ' c d H' n r)
  | bad => exact h

/-- what every body's context has -/
structure Ctx (X : Cx) (W : WX) (k : Nat) : Prop where
  calm : X.calm = true
  nd : X.N.Nodup
  tk : Takes X W
  po : PassesOwn (model X.prog X.w) X.A X.env X.xe
  room : Room k X.A
theorem Ctx.mono {X : Cx} {W : WX} {k j : Nat} (c : Ctx X W k) (h : j ≤ k) : Ctx X W j := ⟨c.calm, c.nd, c.tk, c.po, c.room.mono h⟩
/-- a def stands at f and does what F says -/
structure DefOk (P : Program) (w : World) (K : PySem.W.Frag) (mg : Str → Option Value) (base : Heap) (k : Nat) (f : Addr) (ps : List Str) (ds : List Value) (n : Nat) (F : Fn) : Prop where
  ex : ∃ fd, FnOk P w K mg base (L2.CX P w) k f fd ps (spD K n F) ∧ Binds K fd ps ds
  kp : PySem.W.keepIn K (.ref f) = true
theorem DefOk.mono {P : Program} {w : World} {K : PySem.W.Frag} {mg : Str → Option Value} {base : Heap} {j k : Nat} {f : Addr} {ps : List Str} {ds : List Value} {n : Nat} {F : Fn} (d : DefOk P w K mg base j f ps ds n F) (h : j ≤ k) : DefOk P w K mg base k f ps ds n F := by
  obtain ⟨fd, g, b⟩ := d.ex
  exact ⟨⟨fd, g.mono h, b⟩, d.kp⟩

section
variable {X : Cx} {W : WX} {k : Nat} {f : Addr} {ps : List Str} {ds : List Value} {n : Nat} {F : Fn} {x m : Str} {p pos apos : Pos} {e o a b : Expr} {es : List Expr} {mr : Ax} {mo ma mb : Ex} {dd : List D} {dv : List V}
/-- the call itself -/
theorem run_def {fd : FuncData} (G : FnOk X.prog X.w X.K X.mg X.base (L2.CX X.prog X.w) k f fd ps (spD X.K n F)) (hb : Binds X.K fd ps ds) (hr : Room k X.A) (tk : Takes X W) (hd : Vals dv ds) (hD : ∀ ρ n H, RepVs ρ n H dd dv)
    {pins : List (Addr × Obj)} {σ : Sl} {H : Hp} {s : Shared} {Q : VK} {us : List Value} {vs : List V} {ρ : Nat → Addr} {A : AH} {xs : List D} (I : Inv X pins σ H s) (r : Vals vs us) (hA : RepA X.K ρ H A) (hv : RepVs ρ A.length H xs vs)
    (h : Post X.K W RepV ρ A σ H (F (xs ++ dd) A) Q) (hl : (vs ++ dv).length = n) : wpAny (model X.prog X.w) X.A (call (.ref f) us) (EP X pins σ Q) X.xe s :=
  run_fnSD (E := WE W) G hr hb hd (passAt tk σ) I r ⟨hl, ρ, xs ++ dd, A, hv.app (hD ρ A.length H), hA, Post.wish h fun _ _ _ z => z⟩
/-- a Fn that asks n arguments -/
def Asks (n : Nat) (F : Fn) : Prop := ∀ xs A, F xs A ≠ .bad → xs.length = n
theorem Asks.run {np N : Nat} {b : Sx} : Asks np (runDef np N b) := fun xs A h => by
  by_cases e : xs.length = np
  · exact e
  · exact absurd (if_neg e) h
theorem Post.ne {α β : Type} {K : PySem.W.Frag} {W : WX} {rel : (Nat → Addr) → Nat → Hp → α → β → Prop} {ρ : Nat → Addr} {A : AH} {σ : Sl} {H : Hp} {r : Res α} {Q : β → Hp → Prop} (h : Post K W rel ρ A σ H r Q) : r ≠ .bad := by
  intro e
  rw [e] at h
  exact h
theorem lenD (hn : Asks n F) {xs : List D} {A : AH} {vs : List V} {ρ : Nat → Addr} {H : Hp} (hD : RepVs ρ A.length H dd dv) (hv : RepVs ρ A.length H xs vs) (h : F (xs ++ dd) A ≠ .bad) : (vs ++ dv).length = n := by
  rw [← (hv.app hD).len]
  exact hn _ _ h
/-- f(e, ..) -/
theorem re_call (G : DefOk X.prog X.w X.K X.mg X.base k f ps ds n F) (c : Ctx X W k) (hn : Asks n F) (hg : Gl X x) (hm : X.mg x = some (.ref f)) (hd : Vals dv ds) (hD : ∀ ρ n H, RepVs ρ n H dd dv) (ha : RA X W (e :: es) mr)
    (hdb : (x == ("__debug__" : Str)) = false := by decide) (he : starEach (e :: es) X.env = (false, eval e X.env) :: starEach es X.env := by rfl) (hpl : (backTo pos (starEach es X.env)).any (·.1) = false := by rfl) :
    RE X W (.Call (.Name x p) (e :: es) [] pos) (eF (fun xs A => F (xs ++ dd) A) mr) := by
  obtain ⟨fd, G1, hb⟩ := G.ex
  refine ⟨fun pins s σ H Q I ⟨ρ, E, A, hE, hA, h⟩ => ?_⟩
  refine wpAny_Call_Name_kw (ld_glob I hg hm ?_ hdb)
  have q := ha.run pos pins s σ H _ I ⟨ρ, E, A, hE, hA, Post.bind h fun ρ1 xs B vs H1 n1 r1 h1 => (⟨ρ1, xs, B, n1.rep, r1, h1⟩ : ∃ ρ1 xs B, RepA X.K ρ1 H1 B ∧ RepVs ρ1 B.length H1 xs vs ∧ Post X.K W RepV ρ1 B σ H1 (F (xs ++ dd) B) Q)⟩
  refine PySem.W.callWith_K (h₀ := X.base) I.ok.mod.kin G.kp (thn q fun us s1 ⟨vs, H1, I1, rv, ρ1, xs, B, hB, r1, h1⟩ => ⟨I1.kIn, ?_⟩) he hpl
  exact run_def G1 hb c.room c.tk hd hD I1 rv hB r1 h1 (lenD hn (hD _ _ _) r1 (Post.ne h1))
theorem re_call0 (G : DefOk X.prog X.w X.K X.mg X.base k f ps ds n F) (c : Ctx X W k) (hn : Asks n F) (hg : Gl X x) (hm : X.mg x = some (.ref f)) (hd : Vals dv ds) (hD : ∀ ρ n H, RepVs ρ n H dd dv)
    (hdb : (x == ("__debug__" : Str)) = false := by decide) : RE X W (.Call (.Name x p) [] [] pos) (eF (fun xs A => F (xs ++ dd) A) aNil) := by
  obtain ⟨fd, G1, hb⟩ := G.ex
  refine ⟨fun pins s σ H Q I ⟨ρ, E, A, hE, hA, h⟩ => ?_⟩
  refine wpAny_Call_Name_kw (ld_glob I hg hm ?_ hdb)
  have h1 : Post X.K W RepV ρ A σ H (F ([] ++ dd) A) Q := h
  exact PySem.W.callWith_K0 I.kIn G.kp (run_def (us := []) (xs := []) G1 hb c.room c.tk hd hD I .nil hA .nil h1 (lenD (ρ := ρ) (A := A) (H := H) hn (hD _ _ _) .nil (Post.ne h1)))
/-- an instance of the class, as the method's look-up sees it -/
theorem ins_of {K : PySem.W.Frag} {ρ : Nat → Addr} {A : AH} {H : Hp} {c : Nat} {d : D} {v : V} (hA : RepA K ρ H A) (hv : RepV ρ A.length H d v) (h : isIns c A d = true) : ∃ a dx gs fs, v = .ref a ∧ H a = some (.ins (clsA K c) dx gs) ∧ RepF ρ A.length H fs gs ∧ ∃ i, d = .ref i ∧ A[i]? = some (.ins c fs) := by
  cases hv with
  | @ref i hi =>
    have h' : (match A[i]? with | some (.ins c' _) => c == c' | _ => false) = true := h
    cases e : A[i]? with
    | none => rw [e] at h'; cases h'
    | some u =>
      rw [e] at h'
      cases u with
      | ins c' fs =>
        have ec : c = c' := by simpa using h'
        subst ec
        obtain ⟨dx, gs, h1, h2⟩ := hA.objs i _ e
        exact ⟨ρ i, dx, gs, fs, rfl, h1, h2, i, rfl, e⟩
      | _ => cases h'
  | _ => cases h
/-- o.m(e, ..); the method's name is no attribute's -/
theorem re_meth {pl : Sem Bool} {C : Nat} (G : DefOk X.prog X.w X.K X.mg X.base k f ps ds n F) (c : Ctx X W k) (hn : Asks n F) (cl : Cls X.K (clsA X.K C)) (hm : Meth X.K (clsA X.K C) m f) (hout : m ∉ fldN) (hd : Vals dv ds) (hD : ∀ ρ n H, RepVs ρ n H dd dv) (ho : RE X W o mo) (ha : RA X W (e :: es) mr)
    (hst : starEach (e :: es) X.env = (false, eval e X.env) :: starEach es X.env := by rfl) (hpl : (backTo pos (starEach es X.env)).any (·.1) = false := by rfl)
    (ht : eval (.Call (.Attribute o m apos) (e :: es) [] pos) X.env = (do
      let ov ← eval o X.env
      standAt apos.atName
      let (f, first) ← holding [ov] (getMethod ov m pl)
      callWith pos f first (backTo pos (starEach (e :: es) X.env)) (backToKw pos (keywordEach [] X.env))) := by rfl) :
    RE X W (.Call (.Attribute o m apos) (e :: es) [] pos) (eM C (fun xs A => F (xs ++ dd) A) mo mr) := by
  obtain ⟨fd, G1, hb⟩ := G.ex
  refine ⟨fun pins s σ H Q I ⟨ρ, E, A, hE, hA, h⟩ => ?_⟩
  have q0 := ho.run pins s σ H _ I ⟨ρ, E, A, hE, hA, Post.bind h fun ρ1 d B v H1 n1 r1 h1 => (⟨ρ1, d, B, n1, r1, h1⟩ : ∃ ρ1 d B, Nxt X.K ρ A H ρ1 B H1 ∧ RepV ρ1 B.length H1 d v ∧ Post X.K W RepV ρ1 B σ H1 (kM C (fun xs A => F (xs ++ dd) A) mr E d B) Q)⟩
  refine PySem.W.methodCall_KW (pl := pl) (thn q0 fun u s1 ⟨v, H1, I1, rx, ρ1, d, B, n1, r1, h1⟩ => ?_) ht
  have hi : isIns C B d = true := by
    cases z : isIns C B d with
    | true => rfl
    | false =>
      unfold kM at h1
      rw [z] at h1
      exact h1.elim
  have h2 : Post X.K W RepV ρ1 B σ H1 ((mr E B).bind (kM2 (fun xs A => F (xs ++ dd) A) d)) Q := by
    unfold kM at h1
    rw [if_pos hi] at h1
    exact h1
  obtain ⟨a, dx, gs, fs, rfl, ea, rf, _⟩ := ins_of n1.rep r1 hi
  obtain rfl : u = Value.ref a := rx
  refine getmeth_ok I1 ea cl hm (rf.out hout) ?_
  have q := ha.run pos pins s1 σ H1 _ I1 ⟨ρ1, E, B, hE.ext n1.ext, n1.rep, Post.bind h2 fun ρ2 xs B2 vs H2 n2 r2 h3 => (⟨ρ2, xs, B2, n2, r2, h3⟩ : ∃ ρ2 xs B2, Nxt X.K ρ1 B H1 ρ2 B2 H2 ∧ RepVs ρ2 B2.length H2 xs vs ∧ Post X.K W RepV ρ2 B2 σ H2 (kM2 (fun xs A => F (xs ++ dd) A) d xs B2) Q)⟩
  refine PySem.W.callWith_K (first := [.ref a]) (h₀ := X.base) I.ok.mod.kin hm.kp (thn q fun us s2 ⟨vs, H2, I2, rv, ρ2, xs, B2, n2, r2, h3⟩ => ⟨I2.kIn, ?_⟩) hst hpl
  have r3 : RepVs ρ2 B2.length H2 (d :: xs) (.ref a :: vs) := .cons (r1.ext n2.ext) r2
  exact run_def (us := .ref a :: us) (vs := .ref a :: vs) (xs := d :: xs) G1 hb c.room c.tk hd hD I2 (.cons rfl rv) n2.rep r3 h3 (lenD hn (hD _ _ _) r3 (Post.ne h3))
theorem re_meth0 {pl : Sem Bool} {C : Nat} (G : DefOk X.prog X.w X.K X.mg X.base k f ps ds n F) (c : Ctx X W k) (hn : Asks n F) (cl : Cls X.K (clsA X.K C)) (hm : Meth X.K (clsA X.K C) m f) (hout : m ∉ fldN) (hd : Vals dv ds) (hD : ∀ ρ n H, RepVs ρ n H dd dv) (ho : RE X W o mo)
    (ht : eval (.Call (.Attribute o m apos) [] [] pos) X.env = (do
      let ov ← eval o X.env
      standAt apos.atName
      let (f, first) ← holding [ov] (getMethod ov m pl)
      callWith pos f first (backTo pos (starEach [] X.env)) (backToKw pos (keywordEach [] X.env))) := by rfl) :
    RE X W (.Call (.Attribute o m apos) [] [] pos) (eM C (fun xs A => F (xs ++ dd) A) mo aNil) := by
  obtain ⟨fd, G1, hb⟩ := G.ex
  refine ⟨fun pins s σ H Q I ⟨ρ, E, A, hE, hA, h⟩ => ?_⟩
  have q0 := ho.run pins s σ H _ I ⟨ρ, E, A, hE, hA, Post.bind h fun ρ1 d B v H1 n1 r1 h1 => (⟨ρ1, d, B, n1, r1, h1⟩ : ∃ ρ1 d B, Nxt X.K ρ A H ρ1 B H1 ∧ RepV ρ1 B.length H1 d v ∧ Post X.K W RepV ρ1 B σ H1 (kM C (fun xs A => F (xs ++ dd) A) aNil E d B) Q)⟩
  refine PySem.W.methodCall_KW (pl := pl) (thn q0 fun u s1 ⟨v, H1, I1, rx, ρ1, d, B, n1, r1, h1⟩ => ?_) ht
  have hi : isIns C B d = true := by
    cases z : isIns C B d with
    | true => rfl
    | false =>
      unfold kM at h1
      rw [z] at h1
      exact h1.elim
  have h2 : Post X.K W RepV ρ1 B σ H1 (F ([d] ++ dd) B) Q := by
    unfold kM at h1
    rw [if_pos hi] at h1
    exact h1
  obtain ⟨a, dx, gs, fs, rfl, ea, rf, _⟩ := ins_of n1.rep r1 hi
  obtain rfl : u = Value.ref a := rx
  refine getmeth_ok I1 ea cl hm (rf.out hout) ?_
  have r3 : RepVs ρ1 B.length H1 [d] [.ref a] := .cons r1 .nil
  exact PySem.W.callWith_K0 (first := [.ref a]) I1.kIn hm.kp (run_def (us := [.ref a]) (vs := [.ref a]) (xs := [d]) G1 hb c.room c.tk hd hD I1 (.cons rfl .nil) n1.rep r3 h2 (lenD hn (hD _ _ _) r3 (Post.ne h2)))
end
end DL
set_option Elab.async false
set_option linter.all false
set_option maxRecDepth 100000
set_option maxHeartbeats 4000000
/-! A def keeps the promise that its body's function makes (own work). -/
namespace DL
open PySem PySem.Spec PyProof.Rows L2
section
variable {K : PySem.W.Frag} {ρ ρ' : Nat → Addr} {A B : AH} {H H' : Hp} {n : Nat} {a : Addr} {o : O} {i : Nat}
theorem RepF.bd : ∀ {fs : List (Nat × D)} {gs : List (Str × V)}, RepF ρ n H fs gs → (fs.all fun p => p.2.bd n) = true
  | [], _, .nil => rfl
  | _ :: _, _, .cons _ b c => by rw [List.all_cons, RepF.bd c]; simp [RepV.bd b]
theorem keyD_bd {d : D} {k : Key} (h : keyD d = some k) : d.bd n = true := by
  cases d with
  | int i => simp [D.bd]
  | str x => simp [D.bd]
  | _ => cases h
theorem keysD_bd : ∀ {ds : List D} {ks : List Key}, keysD ds = some ks → bdAll n ds = true
  | [], _, _ => by simp [bdAll]
  | d :: ds, ks, h => by
    unfold keysD at h
    cases e1 : keyD d with
    | none => rw [e1] at h; cases h
    | some k =>
      cases e2 : keysD ds with
      | none => rw [e1, e2] at h; cases h
      | some r => simp [bdAll, keyD_bd e1, keysD_bd e2]
theorem keyT_bd {d : D} {k : List Key} (h : keyT d = some k) : d.bd n = true := by
  cases d with
  | tup ds => simp only [D.bd]; exact keysD_bd h
  | _ => cases h
theorem RepK.bd {κ : Type} {kf : D → Option κ} (hk : ∀ d k, kf d = some k → d.bd n = true) : ∀ {fs : List (D × D)} {gs : List (κ × V)}, RepK kf ρ n H fs gs → (fs.all fun p => p.1.bd n && p.2.bd n) = true
  | [], _, .nil => rfl
  | _ :: _, _, .cons a b c => by
    rw [List.all_cons, RepK.bd hk c]
    simp [RepV.bd b, hk _ _ a]
theorem RepA.bd (R : RepA K ρ H A) (h : A[i]? = some o) : o.bd A.length = true := by
  cases o with
  | lst ds =>
    obtain ⟨vs, _, r⟩ := R.objs i _ h
    exact r.bd
  | rol ds =>
    obtain ⟨vs, r, _⟩ := R.rols i _ h
    exact r.bd
  | dic kvs =>
    rcases R.objs i _ h with ⟨gs, _, r⟩ | ⟨gs, _, r⟩
    · exact r.bd fun _ _ => keyD_bd
    · exact r.bd fun _ _ => keyT_bd
  | ins c fs =>
    obtain ⟨dx, gs, _, r⟩ := R.objs i _ h
    exact r.bd
theorem take_get {j : Nat} (h : (B.take n)[j]? = some o) : j < n ∧ B[j]? = some o := by
  rw [List.getElem?_take] at h
  by_cases z : j < n
  · rw [if_pos z] at h; exact ⟨z, h⟩
  · rw [if_neg z] at h; cases h
/-- the first numbers alone -/
theorem Nxt.cut (R : RepA K ρ H A) (x : Nxt K ρ A H ρ' B H') (p : okPre A (B.take A.length)) : Nxt K ρ A H ρ' (B.take A.length) H' := by
  obtain ⟨pl, po⟩ := p
  have b : ∀ (j : Nat) (u : O), (B.take A.length)[j]? = some u → u.bd A.length = true := fun j u h => by
    rcases po j u h with h | h
    · exact R.bd h
    · exact h
  refine ⟨⟨by rw [pl]; exact Nat.le_refl _, x.ext.same, x.ext.tups⟩, fun i u h => ?_, fun i ds h => ?_, fun i j u w h1 h2 => x.rep.inj i j u w (take_get h1).2 (take_get h2).2⟩
  · rw [pl]
    exact (x.rep.objs i u (take_get h).2).cut (b i u h)
  · rw [pl]
    obtain ⟨vs, r, q⟩ := x.rep.rols i ds (take_get h).2
    refine ⟨vs, r.cut (b i _ h), ?_⟩
    rcases q with q | ⟨q, q2⟩
    · exact .inl q
    · exact .inr ⟨q, fun j u hj m => q2 j u (take_get hj).2 m⟩
/-- the first numbers and one more object under the next number -/
theorem Nxt.move (R : RepA K ρ H A) (x : Nxt K ρ A H ρ' B H') (p : okPre A (B.take A.length)) (hi : A.length ≤ i) (hb : B[i]? = some o) (m : o.mut = true) (ob : o.bd A.length = true) :
    ∃ ρ2, ρ2 A.length = ρ' i ∧ Nxt K ρ A H ρ2 (B.take A.length ++ [o]) H' := by
  have c := Nxt.cut R x p
  obtain ⟨pl, po⟩ := p
  have e : Ext ρ' A.length H' (fun j => if j = A.length then ρ' i else ρ' j) (A.length + 1) H' := ⟨Nat.le_succ _, fun j h => if_neg (Nat.ne_of_lt h), fun _ _ h => h⟩
  refine ⟨fun j => if j = A.length then ρ' i else ρ' j, if_pos rfl, ?_⟩
  have len : (B.take A.length ++ [o]).length = A.length + 1 := by rw [List.length_append, pl]; rfl
  have ge : ∀ (j : Nat) (u : O), (B.take A.length ++ [o])[j]? = some u → (j < A.length ∧ (B.take A.length)[j]? = some u) ∨ (j = A.length ∧ u = o) := fun j u h => by
    by_cases z : j < A.length
    · rw [List.getElem?_append_left (by rw [pl]; exact z)] at h; exact .inl ⟨z, h⟩
    · have hl := lt_of_get h
      rw [len] at hl
      have ej : j = A.length := by omega
      subst ej
      rw [List.getElem?_append_right (by rw [pl]; exact Nat.le_refl _), pl, Nat.sub_self] at h
      exact .inr ⟨rfl, (Option.some.inj h).symm⟩
  have rO := x.rep.objs i o hb
  have far : ∀ (j : Nat) (u : O), (B.take A.length)[j]? = some u → u.mut = true → ρ' j ≠ ρ' i := fun j u h mu z => by
    have q := x.rep.inj j i u o (take_get h).2 hb mu m z
    have := (take_get h).1
    omega
  refine ⟨⟨by rw [len]; exact Nat.le_succ _, fun j h => by rw [if_neg (Nat.ne_of_lt h)]; exact x.ext.same j h, x.ext.tups⟩, fun j u h => ?_, fun j ds h => ?_, fun j k u w h1 h2 m1 m2 z => ?_⟩
  · rw [len]
    rcases ge j u h with ⟨hj, h⟩ | ⟨rfl, rfl⟩
    · show RepO K _ _ _ (if j = A.length then ρ' i else ρ' j) u
      rw [if_neg (Nat.ne_of_lt hj)]
      have q := c.rep.objs j u h
      rw [pl] at q
      exact q.ext e rfl
    · show RepO K _ _ _ (if A.length = A.length then ρ' i else ρ' A.length) u
      rw [if_pos rfl]
      exact (rO.cut ob).ext e rfl
  · rw [len]
    rcases ge j _ h with ⟨hj, h⟩ | ⟨rfl, rfl⟩
    · obtain ⟨vs, r, q⟩ := x.rep.rols j ds (take_get h).2
      have b : (O.rol ds).bd A.length = true := by
        rcases po j _ h with h | h
        · exact R.bd h
        · exact h
      have r2 : RepVs ρ' A.length H' ds vs := r.cut b
      refine ⟨vs, r2.ext e, ?_⟩
      show KL K (if j = A.length then ρ' i else ρ' j) vs ∨ (Rd H' (if j = A.length then ρ' i else ρ' j) _ ∧ ∀ k u, _ → _ → (if k = A.length then ρ' i else ρ' k) ≠ (if j = A.length then ρ' i else ρ' j))
      rw [if_neg (Nat.ne_of_lt hj)]
      rcases q with q | ⟨q, q2⟩
      · exact .inl q
      · refine .inr ⟨q, fun k u hk mu => ?_⟩
        rcases ge k u hk with ⟨hkl, hk⟩ | ⟨rfl, rfl⟩
        · rw [if_neg (Nat.ne_of_lt hkl)]; exact q2 k u (take_get hk).2 mu
        · rw [if_pos rfl]; exact q2 i u hb m
    · cases m
  · have z' : (if j = A.length then ρ' i else ρ' j) = (if k = A.length then ρ' i else ρ' k) := z
    rcases ge j u h1 with ⟨hj, g1⟩ | ⟨ej, eu⟩ <;> rcases ge k w h2 with ⟨hk, g2⟩ | ⟨ek, ew⟩
    · rw [if_neg (Nat.ne_of_lt hj), if_neg (Nat.ne_of_lt hk)] at z'
      exact c.rep.inj j k u w g1 g2 m1 m2 z'
    · rw [if_neg (Nat.ne_of_lt hj), if_pos ek] at z'
      exact absurd z' (far j u g1 m1)
    · rw [if_pos ej, if_neg (Nat.ne_of_lt hk)] at z'
      exact absurd z'.symm (far k w g2 m2)
    · rw [ej, ek]
/-- what is handed back -/
theorem gc_post {W : WX} {σ : Sl} {d : D} {Q : VK} (R : RepA K ρ H A) (h : Post K W RepV ρ A σ H (gc A d B) Q) {v : V} (x : Nxt K ρ A H ρ' B H') (r : RepV ρ' B.length H' d v) : Q v H' := by
  unfold gc at h
  by_cases c1 : d.bd A.length = true ∧ okPre A (B.take A.length)
  · rw [if_pos c1] at h
    refine h ρ' v H' (Nxt.cut R x c1.2) ?_
    rw [c1.2.1]
    exact r.cut c1.1
  · rw [if_neg c1] at h
    cases e : refO A B d with
    | none =>
      rw [e] at h
      exact h ρ' v H' x r
    | some o =>
      rw [e] at h
      simp only [gcO] at h
      by_cases c2 : o.mut = true ∧ o.bd A.length = true ∧ okPre A (B.take A.length)
      · have h' := h
        rw [if_pos c2] at h'
        cases d with
        | ref i =>
          have e' : (if A.length ≤ i then B[i]? else none) = some o := e
          by_cases hi : A.length ≤ i
          · rw [if_pos hi] at e'
            obtain ⟨ρ2, q1, q2⟩ := Nxt.move R x c2.2.2 hi e' c2.1 c2.2.1
            cases r with
            | ref hl =>
              rw [← q1]
              refine h' ρ2 _ H' q2 (.ref ?_)
              rw [List.length_append, c2.2.2.1]
              exact Nat.lt_succ_self _
          · rw [if_neg hi] at e'; cases e'
        | _ => cases e
      · have h' := h
        rw [if_neg c2] at h'
        exact h' ρ' v H' x r
theorem gcX_post {W : WX} {σ : Sl} {e : Exn} {Q : VK} (R : RepA K ρ H A) (h : Post K W RepV ρ A σ H (gcX A e B) Q) {cls : Value} {dd : Option Addr} (x : Nxt K ρ A H ρ' B H') (r : RepX K ρ' B.length H' e cls dd) : W cls dd σ H' := by
  unfold gcX at h
  by_cases c1 : (e.fs.all fun p => p.2.bd A.length) = true ∧ okPre A (B.take A.length)
  · rw [if_pos c1] at h
    refine h ρ' cls dd H' (Nxt.cut R x c1.2) ?_
    rw [c1.2.1]
    obtain ⟨r1, r2⟩ := r
    refine ⟨r1, ?_⟩
    rcases r2 with r2 | ⟨a, gs, q1, q2, q3⟩
    · exact .inl r2
    · exact .inr ⟨a, gs, q1, q2, q3.cut c1.1⟩
  · rw [if_neg c1] at h
    exact h ρ' cls dd H' x r
end
theorem startE_rep {ρ : Nat → Addr} {n : Nat} {H : Hp} {N : List Str} {ds : List D} {vs : List V} (r : RepVs ρ n H ds vs) : RepE ρ n H (startE N.length ds) (L2.start N vs) := by
  have hl := r.len
  refine ⟨by unfold startE L2.start; simp [hl], fun i d e => ?_⟩
  unfold startE at e
  unfold L2.start
  by_cases z : i < ds.length
  · rw [List.getElem?_append_left (by simpa using z), List.getElem?_map] at e
    obtain ⟨c, e1, e2⟩ := Option.map_eq_some_iff.mp e
    cases e2
    obtain ⟨v, q1, q2⟩ := r.get e1
    exact ⟨v, by rw [List.getElem?_append_left (by simpa [← hl] using z), List.getElem?_map, q1]; rfl, q2⟩
  · rw [List.getElem?_append_right (by simpa using z)] at e
    have := List.mem_of_getElem? e
    rw [List.mem_replicate] at this
    cases this.2
section
variable {P : Program} {w : World} {K : PySem.W.Frag} {mg : Str → Option Value} {base : Heap} {x qual : Str} {params : Arguments} {body : List Stmt} {scope : Scope} {dvs : List V} {kws : List (Str × V)} {f : Addr} {fd : FuncData}
/-- the context of a def's body -/
abbrev cxD (P : Program) (w : World) (K : PySem.W.Frag) (mg : Str → Option Value) (base : Heap) (N : List Str) (qual : Str) (scope : Scope) (f : Addr) (cdv : Value) (A : Around) (outer : List PySem.Env) (s : Shared) (H : Hp) (E : XK) : Cx := cxOf (L2.CX P w) P w K mg base N qual scope f cdv A outer s H E
abbrev wxD (E : XK) : WX := fun c d _ H => E c d H
theorem def_okF {N ps : List Str} {k : Nat} {b : Sx} (F : FunD K x qual params body scope dvs kws f fd) (S : FnScope N ps scope)
    (hb : ∀ (cdv : Value) (A : Around) (outer : List PySem.Env) (s : Shared) (H : Hp) (E : XK), Ctx (cxD P w K mg base N qual scope f cdv A outer s H E) (wxD E) k → RSs (cxD P w K mg base N qual scope f cdv A outer s H E) (wxD E) body b) :
    FnOk P w K mg base (L2.CX P w) (k + 1) f fd ps (spD K ps.length (runDef ps.length N.length b)) := by
  refine F.ok S (fun vs H Q E h => h.1) fun cdv A outer s H vs Q E hr h => ?_
  have c : Ctx (cxD P w K mg base N qual scope f cdv A outer s H E) (wxD E) k := ⟨rfl, S.nd, takes_of rfl rfl rfl rfl, passes_of rfl, hr⟩
  refine ⟨_, hb cdv A outer s H E c, ?_⟩
  obtain ⟨hl, ρ, xs, C, hv, hA, hp⟩ := h
  refine ⟨ρ, startE N.length xs, C, startE_rep hv, hA, ?_⟩
  have hx : xs.length = ps.length := by rw [hv.len]; exact hl
  unfold runDef at hp
  rw [if_pos hx] at hp
  cases e : b (startE N.length xs) C with
  | nx E1 B =>
    rw [e] at hp
    exact fun ρ' σ H' n r => gc_post hA hp n .non
  | rt d B =>
    rw [e] at hp
    exact fun ρ' v H' n r => gc_post hA hp n r
  | bk E1 B => rw [e] at hp; exact hp.elim
  | ct E1 B => rw [e] at hp; exact hp.elim
  | exc y E1 B =>
    rw [e] at hp
    exact fun ρ' cls d σ H' n _ r => gcX_post hA hp n r
  | bad => rw [e] at hp; exact hp.elim
theorem def_ok {N ps : List Str} {ds : List Value} {k : Nat} {b : Sx} (F : FunD K x qual params body scope dvs kws f fd) (S : FnScope N ps scope) (hB : Binds K fd ps ds)
    (hb : ∀ (cdv : Value) (A : Around) (outer : List PySem.Env) (s : Shared) (H : Hp) (E : XK), Ctx (cxD P w K mg base N qual scope f cdv A outer s H E) (wxD E) k → RSs (cxD P w K mg base N qual scope f cdv A outer s H E) (wxD E) body b) :
    DefOk P w K mg base (k + 1) f ps ds ps.length (runDef ps.length N.length b) := ⟨⟨fd, def_okF F S hb, hB⟩, F.kp⟩
end
end DL
set_option Elab.async false
set_option linter.all false
set_option maxRecDepth 100000
set_option maxHeartbeats 4000000
/-! Tests, statements, loops (own work). -/
namespace DL
open PySem PySem.Spec PyProof.Rows L2
section
variable {X : Cx} {W : WX} {k : Nat} {pos : Pos} {a b c e o : Expr} {es rest : List Expr} {ma mb mc mo me : Ex} {mt mu : Tx} {mr : Ax}
/-! ### tests -/
theorem rt_b (h : RE X W e me) (he : ∀ whole, isTrue e X.env whole = (do let v ← whole; standAt e.pos; holding [v] (truthy v)) := by intro _; rfl) : RT X W e (tB me) := by
  refine PT.imp (pt_val h he) fun σ H Q ⟨ρ, E, A, hE, hA, h⟩ => ⟨ρ, E, A, hE, hA, Post.bind h fun ρ1 d B v H1 n1 r1 h1 => ?_⟩
  cases d with
  | bl k =>
    cases r1
    exact ⟨k, rfl, h1 ρ1 k H1 (.refl n1.rep) rfl⟩
  | _ => exact h1.elim
theorem rt_w (h : RW X W e mt) : RT X W e mt := PW.pt h
theorem rw_and1 (h : RT X W a mt) : RW X W (.BoolOp .And [a] pos) mt := pw_and1 h
theorem rw_or1 (h : RT X W a mt) : RW X W (.BoolOp .Or [a] pos) mt := pw_or1 h
theorem rw_and (h : RT X W a mt) (h2 : RW X W (.BoolOp .And (b :: rest) pos) mu) : RW X W (.BoolOp .And (a :: b :: rest) pos) (tAnd mt mu) := by
  refine PW.imp (pw_and h h2) fun σ H Q ⟨ρ, E, A, hE, hA, h⟩ => ⟨ρ, E, A, hE, hA, Post.bind h fun ρ1 d B v H1 n1 r1 h1 => ?_⟩
  have r1' : d = v := r1
  subst r1'
  cases d with
  | true => exact iteT ⟨ρ1, E, B, hE.ext n1.ext, n1.rep, h1⟩
  | false => exact iteF (h1 ρ1 false H1 (.refl n1.rep) rfl)
theorem rw_or (h : RT X W a mt) (h2 : RW X W (.BoolOp .Or (b :: rest) pos) mu) : RW X W (.BoolOp .Or (a :: b :: rest) pos) (tOr mt mu) := by
  refine PW.imp (pw_or h h2) fun σ H Q ⟨ρ, E, A, hE, hA, h⟩ => ⟨ρ, E, A, hE, hA, Post.bind h fun ρ1 d B v H1 n1 r1 h1 => ?_⟩
  have r1' : d = v := r1
  subst r1'
  cases d with
  | true => exact iteT (h1 ρ1 true H1 (.refl n1.rep) rfl)
  | false => exact iteF ⟨ρ1, E, B, hE.ext n1.ext, n1.rep, h1⟩
theorem rt_not (h : RT X W a mt) : RT X W (.UnaryOp .Not a pos) (tNot mt) := by
  refine PT.imp (pt_not h) fun σ H Q ⟨ρ, E, A, hE, hA, h⟩ => ⟨ρ, E, A, hE, hA, Post.bind h fun ρ1 d B v H1 n1 r1 h1 => ?_⟩
  have r1' : d = v := r1
  subst r1'
  exact h1 ρ1 (!d) H1 (.refl n1.rep) rfl
theorem re_ifExp (hc : RT X W c mt) (ha : RE X W a ma) (hb : RE X W b mb) : RE X W (.IfExp c a b pos) (eIf mt ma mb) := by
  refine PE.imp (pe_ifExp hc ha hb) fun σ H Q ⟨ρ, E, A, hE, hA, h⟩ => ⟨ρ, E, A, hE, hA, Post.bind h fun ρ1 d B v H1 n1 r1 h1 => ?_⟩
  have r1' : d = v := r1
  subst r1'
  cases d with
  | true => exact iteT ⟨ρ1, E, B, hE.ext n1.ext, n1.rep, h1⟩
  | false => exact iteF ⟨ρ1, E, B, hE.ext n1.ext, n1.rep, h1⟩
theorem re_one {op} (h : RE X W a ma) : RE X W (.BoolOp op [a] pos) ma := pe_one h
theorem re_and (ha : RE X W a ma) (hb : RE X W (.BoolOp .And (b :: rest) pos) mb) : RE X W (.BoolOp .And (a :: b :: rest) pos) (eAnd ma mb) := by
  refine PE.imp (pe_and ha hb) fun σ H Q ⟨ρ, E, A, hE, hA, h⟩ => ⟨ρ, E, A, hE, hA, Post.bind h fun ρ1 d B v H1 n1 r1 h1 => ?_⟩
  cases d with
  | bl k =>
    cases r1
    refine ⟨k, rfl, ?_⟩
    cases k with
    | true => exact iteT ⟨ρ1, E, B, hE.ext n1.ext, n1.rep, h1⟩
    | false => exact iteF (h1 ρ1 _ H1 (.refl n1.rep) (.bl false))
  | _ => exact h1.elim
theorem re_or (ha : RE X W a ma) (hb : RE X W (.BoolOp .Or (b :: rest) pos) mb) : RE X W (.BoolOp .Or (a :: b :: rest) pos) (eOr ma mb) := by
  refine PE.imp (pe_or ha hb) fun σ H Q ⟨ρ, E, A, hE, hA, h⟩ => ⟨ρ, E, A, hE, hA, Post.bind h fun ρ1 d B v H1 n1 r1 h1 => ?_⟩
  cases d with
  | bl k =>
    cases r1
    refine ⟨k, rfl, ?_⟩
    cases k with
    | true => exact iteT (h1 ρ1 _ H1 (.refl n1.rep) (.bl true))
    | false => exact iteF ⟨ρ1, E, B, hE.ext n1.ext, n1.rep, h1⟩
  | _ => exact h1.elim
theorem re_not (ha : RE X W a ma) : RE X W (.UnaryOp .Not a pos) (eNot ma) := by
  refine PE.imp (pe_not ha) fun σ H Q ⟨ρ, E, A, hE, hA, h⟩ => ⟨ρ, E, A, hE, hA, Post.bind h fun ρ1 d B v H1 n1 r1 h1 => ?_⟩
  cases d with
  | bl k =>
    cases r1
    exact ⟨k, rfl, h1 ρ1 _ H1 (.refl n1.rep) (.bl _)⟩
  | _ => exact h1.elim
theorem chain {r r' : R2} {F G : Fn} (hk : Ok2 X.K r F) (hk' : Ok2 X.K r' G) {σ : Sl} {H : Hp} {Q : VK} (h : tE X.K W (eChain F G ma mb mc) σ H Q) : tChain r r' (tE X.K W ma) (tE X.K W mb) (tE X.K W mc) σ H Q := by
  obtain ⟨ρ, E, A, hE, hA, h⟩ := h
  refine ⟨ρ, E, A, hE, hA, Post.bind h fun ρ1 d B v H1 n1 r1 h1 => ?_⟩
  refine ⟨ρ1, E, B, hE.ext n1.ext, n1.rep, Post.bind h1 fun ρ2 d2 C u H2 n2 r2 h2 => ?_⟩
  refine hk W ρ2 C σ H2 d d2 v u _ n2.rep (r1.ext n2.ext) r2 (Post.bind (rel := RepV) (show Post X.K W RepV ρ2 C σ H2 ((F [d, d2] C).bind (kCh3 G mc E d2)) Q from h2) fun ρ3 z B3 w H3 n3 r3 h3 => ?_)
  cases z with
  | bl q =>
    cases r3
    refine ⟨q, rfl, ?_⟩
    cases q with
    | true =>
      refine iteT ⟨ρ3, E, B3, (hE.ext n1.ext).ext (n2.ext.trans n3.ext), n3.rep, Post.bind (show Post X.K W RepV ρ3 B3 σ H3 ((mc E B3).bind (kCh4 G d2)) Q from h3) fun ρ4 d4 B4 v4 H4 n4 r4 h4 => ?_⟩
      exact hk' W ρ4 B4 σ H4 d2 d4 u v4 Q n4.rep (r2.ext (n3.ext.trans n4.ext)) r4 h4
    | false => exact iteF (h3 ρ3 _ H3 (.refl n3.rep) (.bl false))
  | _ => exact h3.elim
theorem re_chain {op op' : CmpOp} {r r' : R2} {F G : Fn} (ho : OpR X (compareOp op) r) (hk : Ok2 X.K r F) (ho' : OpR X (compareOp op') r') (hk' : Ok2 X.K r' G) (ha : RE X W a ma) (hb : RE X W b mb) (hc : RE X W c mc) (hl : lastMarks [op, op'] [b, c] = false := by rfl) : RE X W (.Compare a [op, op'] [b, c] pos) (eChain F G ma mb mc) :=
  PE.imp (pe_chain ho ho' ha hb hc hl) fun σ H Q h => chain hk hk' h
theorem rt_chain {op op' : CmpOp} {r r' : R2} {F G : Fn} (ho : OpR X (compareOp op) r) (hk : Ok2 X.K r F) (ho' : OpR X (compareOp op') r') (hk' : Ok2 X.K r' G) (ha : RE X W a ma) (hb : RE X W b mb) (hc : RE X W c mc) (hl : lastMarks [op, op'] [b, c] = false := by rfl) : RT X W (.Compare a [op, op'] [b, c] pos) (tB (eChain F G ma mb mc)) := by
  refine PT.imp (pt_chain ho ho' ha hb hc hl) fun σ H Q ⟨ρ, E, A, hE, hA, h⟩ => chain hk hk' (W := W) ⟨ρ, E, A, hE, hA, Post.bind h fun ρ1 d B v H1 n1 r1 h1 => ?_⟩
  cases d with
  | bl k =>
    cases r1
    exact ⟨k, rfl, h1 ρ1 k H1 (.refl n1.rep) rfl⟩
  | _ => exact h1.elim
end
section
variable {X : Cx} {W : WX} {k : Nat} {pos : Pos} {a b c e o : Expr} {es rest : List Expr} {ma mb mc mo me : Ex} {mt mu : Tx} {mr : Ax} {st : Stmt} {sts sts2 : List Stmt} {m m2 : Sx} {g : Gx} {gs : Gsx}
/-! ### blocks -/
theorem rss_nil : RSs X W [] sNop := PSs.imp pss_nil fun Dn σ H ⟨ρ, E, A, hE, hA, h⟩ => h ρ σ H (.refl hA) hE
theorem PostS.seq {K : PySem.W.Frag} {ρ : Nat → Addr} {A : AH} {H : Hp} {r : SRes} {Dn : Ends} (h : PostS K W ρ A H (r.seq m2) Dn) : PostS K W ρ A H r { Dn with nx := tS K W m2 Dn } := by
  cases r with
  | nx E B => exact fun ρ' σ H' n r => ⟨ρ', E, B, r, n.rep, PostS.later h n⟩
  | rt d B => exact h
  | bk E B => exact h
  | ct E B => exact h
  | exc x E B => exact h
  | bad => exact h
theorem rss_cons (h1 : RS X W st m) (h2 : RSs X W sts m2) : RSs X W (st :: sts) (sSeq m m2) :=
  PSs.imp (pss_cons h1 h2) fun Dn σ H ⟨ρ, E, A, hE, hA, h⟩ => ⟨ρ, E, A, hE, hA, PostS.seq h⟩
theorem rss_one (h1 : RS X W st m) : RSs X W [st] m := pss_one h1
theorem rs_pass : RS X W (.Pass pos) sNop := PS.imp ps_pass fun Dn σ H ⟨ρ, E, A, hE, hA, h⟩ => h ρ σ H (.refl hA) hE
theorem rs_break : RS X W (.Break pos) sBrk := PS.imp ps_break fun Dn σ H ⟨ρ, E, A, hE, hA, h⟩ => h ρ σ H (.refl hA) hE
theorem rs_cont : RS X W (.Continue pos) sCnt := PS.imp ps_continue fun Dn σ H ⟨ρ, E, A, hE, hA, h⟩ => h ρ σ H (.refl hA) hE
theorem rs_doc {x j pos'} : RS X W (.Expr (.Constant (.str x) j pos) pos') sNop := PS.imp ps_doc fun Dn σ H ⟨ρ, E, A, hE, hA, h⟩ => h ρ σ H (.refl hA) hE
theorem rs_never : RS X W st sBad := PS.imp ps_never fun Dn σ H ⟨ρ, E, A, hE, hA, h⟩ => h
theorem rss_never : RSs X W sts sBad := PSs.imp pss_never fun Dn σ H ⟨ρ, E, A, hE, hA, h⟩ => h
theorem rs_expr (he : RE X W e me) (hs : swapsWith e none pos.line X.env = pure false := by rfl) : RS X W (.Expr e pos) (sDrop me) :=
  PS.imp (ps_expr he hs) fun Dn σ H ⟨ρ, E, A, hE, hA, h⟩ => ⟨ρ, E, A, hE, hA, PostS.then hE h fun ρ1 d B v H1 n1 r1 h1 => h1 ρ1 σ H1 (.refl n1.rep) (hE.ext n1.ext)⟩
theorem rs_ret (he : RE X W e me) : RS X W (.Return (some e) pos) (sRet me) :=
  PS.imp (ps_ret he) fun Dn σ H ⟨ρ, E, A, hE, hA, h⟩ => ⟨ρ, E, A, hE, hA, PostS.then hE h fun ρ1 d B v H1 n1 r1 h1 => h1 ρ1 v H1 (.refl n1.rep) r1⟩
theorem rs_retN : RS X W (.Return none pos) sRetN := PS.imp ps_retN fun Dn σ H ⟨ρ, E, A, hE, hA, h⟩ => h ρ .non H (.refl hA) .non
theorem rs_if (hc : RT X W c mt) (h1 : RSs X W sts m) (h2 : RSs X W sts2 m2) : RS X W (.If c sts sts2 pos) (sIf mt m m2) := by
  refine PS.imp (ps_if hc h1 h2) fun Dn σ H ⟨ρ, E, A, hE, hA, h⟩ => ⟨ρ, E, A, hE, hA, PostS.then hE h fun ρ1 d B v H1 n1 r1 h1 => ?_⟩
  have r1' : d = v := r1
  subst r1'
  cases d with
  | true => exact iteT ⟨ρ1, E, B, hE.ext n1.ext, n1.rep, h1⟩
  | false => exact iteF ⟨ρ1, E, B, hE.ext n1.ext, n1.rep, h1⟩
/-! ### targets and stores -/
theorem rg_name (cx : Ctx X W k) (i : Nat) {x : Str} (hi : X.N[i]? = some x := by rfl) (hx : Loc X.env.scope x := by first | exact Or.inl rfl | exact Or.inr rfl) (hf : X.fn x = true ∨ X.env.scope.names.lookup x = some .local := by first | exact .inl rfl | exact .inr rfl | assumption) : RG X W (.Name x pos) (gName i) :=
  PG.imp (pg_name cx.nd hi hx hf) fun v σ H Q ⟨ρ, E, A, d, hE, hA, r, h⟩ => h ρ _ H (.refl hA) (hE.set i r)
theorem rgs_nil : RGs X W [] gNil := PGs.imp pgs_nil fun vs σ H Q ⟨ρ, E, A, ds, hE, hA, r, h⟩ => by
  cases r with
  | nil => exact ⟨rfl, h ρ _ H (.refl hA) hE⟩
  | cons _ _ => exact h.elim
theorem PostG.only {K : PySem.W.Frag} {ρ : Nat → Addr} {A : AH} {H : Hp} {r : SRes} {f : Sx} {Q Q' : Sl → Hp → Prop} (h : PostG K W ρ A H (r.only.seq f) Q) (hq : ∀ ρ1 E B σ H1, Nxt K ρ A H ρ1 B H1 → RepE ρ1 B.length H1 E σ → PostG K W ρ1 B H1 (f E B) Q → Q' σ H1) : PostG K W ρ A H r Q' := by
  cases r with
  | nx E B => exact fun ρ' σ H' n r => hq ρ' E B σ H' n r (PostG.later h n)
  | exc x E B => exact h
  | _ => exact h
theorem rgs_cons (h1 : RG X W e g) (h2 : RGs X W es gs) (hs : (assignEach (e :: es) X.env).map (·.2) = assign e X.env :: (assignEach es X.env).map (·.2) := by rfl) : RGs X W (e :: es) (gCons g gs) := by
  refine PGs.imp (pgs_cons h1 h2 hs) fun vs σ H Q ⟨ρ, E, A, ds, hE, hA, r, h⟩ => ?_
  cases r with
  | nil => exact h.elim
  | @cons d ds v vs r1 r2 =>
    exact ⟨v, vs, rfl, ρ, E, A, d, hE, hA, r1, PostG.only h fun ρ1 E1 B σ1 H1 n1 e1 h1 => ⟨ρ1, E1, B, ds, e1, n1.rep, r2.ext n1.ext, h1⟩⟩
theorem rg_tup (cx : Ctx X W k) {x1 n : Nat} (h : RGs X W es gs) (hn : (assignEach es X.env).length = n := by rfl) (hst : (assignEach es X.env).findIdx? (·.1) = none := by rfl) : RG X W (.Tuple es x1 pos) (gTup n gs) := by
  refine PG.imp (pg_tup cx.calm h hn hst) fun v σ H Q ⟨ρ, E, A, d, hE, hA, r, h⟩ => ?_
  cases r with
  | @tup a vs ds h1 h2 =>
    have h' : PostG X.K W ρ A H (if ds.length = n then gs ds E A else .bad) Q := h
    by_cases z : ds.length = n
    · rw [if_pos z] at h'
      exact ⟨a, vs, rfl, SqT.of h1, by rw [← h2.len]; exact z, ρ, E, A, ds, hE, hA, h2, h'⟩
    · rw [if_neg z] at h'
      exact h'.elim
  | _ => exact h.elim
/-- a store to o[i], by values -/
def OkSt (K : PySem.W.Frag) (t : TSet) (S : Stx) : Prop := ∀ ρ A H x y d u v w B (Q : Hp → Prop), RepA K ρ H A → RepV ρ A.length H x u → RepV ρ A.length H y v → RepV ρ A.length H d w → S x y d A = some B → (∀ H', Nxt K ρ A H ρ B H' → Q H') → t u v w H Q
theorem PostG.okS {K : PySem.W.Frag} {ρ : Nat → Addr} {A : AH} {H : Hp} {E : Env} {q : Option AH} {Q : Sl → Hp → Prop} (h : PostG K W ρ A H (okS E q) Q) : ∃ B, q = some B := by
  cases q with
  | some B => exact ⟨B, rfl⟩
  | none => exact h.elim
theorem PostS.okS {K : PySem.W.Frag} {ρ : Nat → Addr} {A : AH} {H : Hp} {E : Env} {q : Option AH} {Dn : Ends} (h : PostS K W ρ A H (okS E q) Dn) : ∃ B, q = some B := by
  cases q with
  | some B => exact ⟨B, rfl⟩
  | none => exact h.elim
theorem rg_sub {t : TSet} {S : Stx} (hs : PSet X t) (hk : OkSt X.K t S) (ho : RE X W o mo) (hi : RE X W e me) (ha : ∀ v, assign (.Subscript o e pos) X.env v = (do
      let ov ← holding [v] (eval o X.env)
      let iv ← holding [v, ov] (eval e X.env)
      standAt pos
      holding [v, ov, iv] (setItem ov iv v)
      release [v, ov, iv] []) := by intro _; rfl) : RG X W (.Subscript o e pos) (gSub mo me S) := by
  refine PG.imp (pg_sub ho hi hs ha) fun v σ H Q ⟨ρ, E, A, d, hE, hA, r, h⟩ => ⟨ρ, E, A, hE, hA, PostG.then hE h fun ρ1 x B u H1 n1 r1 h1 => ?_⟩
  refine ⟨ρ1, E, B, hE.ext n1.ext, n1.rep, PostG.then (hE.ext n1.ext) h1 fun ρ2 y B2 w H2 n2 r2 h2 => ?_⟩
  obtain ⟨B3, e3⟩ := PostG.okS h2
  refine hk ρ2 B2 H2 x y d u w v B3 _ n2.rep (r1.ext n2.ext) r2 (r.ext (n1.ext.trans n2.ext)) e3 fun H3 n3 => ?_
  have h2' : PostG X.K W ρ2 B2 H2 (okS E (S x y d B2)) Q := h2
  rw [e3] at h2'
  exact h2' ρ2 σ H3 n3 (hE.ext (n1.ext.trans (n2.ext.trans n3.ext)))
theorem PostS.asg {K : PySem.W.Frag} {ρ : Nat → Addr} {A : AH} {H : Hp} {r : SRes} {Dn : Ends} (h : PostS K W ρ A H r.only Dn) : PostG K W ρ A H r Dn.nx := by
  cases r with
  | nx E B => exact h
  | exc x E B => exact h
  | _ => exact h
theorem rs_asg (he : RE X W e me) {tg : Expr} (hg : RG X W tg g) (hs : swapsWithSole [tg] e pos.line X.env = pure false := by rfl) (hw : swappedStores [tg] e X.env = pure none := by rfl)
    (h1 : (assignEach [tg] X.env).map (·.2) = [assign tg X.env] := by rfl) : RS X W (.Assign [tg] e pos) (sAsg me g) :=
  PS.imp (ps_asg he hg hs hw h1) fun Dn σ H ⟨ρ, E, A, hE, hA, h⟩ => ⟨ρ, E, A, hE, hA, PostS.then hE h fun ρ1 d B v H1 n1 r1 h1 => ⟨ρ1, E, B, d, hE.ext n1.ext, n1.rep, r1, PostS.asg h1⟩⟩
theorem rs_set (cx : Ctx X W k) (i : Nat) {x : Str} {pos' : Pos} (he : RE X W e me) (hi : X.N[i]? = some x := by rfl) (hx : Loc X.env.scope x := by first | exact Or.inl rfl | exact Or.inr rfl) (hs : swapsWith e (some (.Name x pos')) pos.line X.env = pure false := by rfl)
    (hf : X.fn x = true ∨ X.env.scope.names.lookup x = some .local := by first | exact .inl rfl | exact .inr rfl | assumption) : RS X W (.Assign [.Name x pos'] e pos) (sAsg me (gName i)) :=
  PS.imp (ps_set cx.nd hi hx he hs hf) fun Dn σ H ⟨ρ, E, A, hE, hA, h⟩ => ⟨ρ, E, A, hE, hA, PostS.then hE h fun ρ1 d B v H1 n1 r1 h1 => h1 ρ1 _ H1 (.refl n1.rep) ((hE.ext n1.ext).set i r1)⟩
/-- a, b = x, y (both names plain) -/
theorem rs_par (cx : Ctx X W k) (i j : Nat) {x y : Str} {px py pt : Pos} {kt k2 pt2} (ha : RA X W [a, b] mr) (hi : X.N[i]? = some x := by rfl) (hj : X.N[j]? = some y := by rfl) (hij : i ≠ j := by decide) (hx : X.env.scope.names.lookup x = some .local := by rfl) (hy : X.env.scope.names.lookup y = some .local := by rfl)
    (hw : swappedStores [.Tuple [.Name x px, .Name y py] kt pt] (.Tuple [a, b] k2 pt2) X.env = pure (some [x, y]) := by rfl) (hs : swapsWithSole [.Tuple [.Name x px, .Name y py] kt pt] (.Tuple [a, b] k2 pt2) pos.line X.env = pure false := by rfl) :
    RS X W (.Assign [.Tuple [.Name x px, .Name y py] kt pt] (.Tuple [a, b] k2 pt2) pos) (sPar i j mr) := by
  refine PS.imp (ps_par cx.calm cx.nd hi hj hij hx hy ha hw hs) fun Dn σ H ⟨ρ, E, A, hE, hA, h⟩ => ⟨ρ, E, A, hE, hA, PostS.then hE h fun ρ1 ds B vs H1 n1 r1 h1 => ?_⟩
  cases r1 with
  | nil => exact h1.elim
  | cons r1 r2 => cases r2 with
    | nil => exact h1.elim
    | cons r2 r3 => cases r3 with
      | nil => exact ⟨_, _, rfl, h1 ρ1 _ H1 (.refl n1.rep) (((hE.ext n1.ext).set i r1).set j r2)⟩
      | cons _ _ => exact h1.elim
/-- x op= e -/
def OkIp (K : PySem.W.Frag) (t : TIp) (F : Fn) : Prop := ∀ W ρ A σ H d e v u Q, RepA K ρ H A → RepV ρ A.length H d v → RepV ρ A.length H e u → Post K W RepV ρ A σ H (F [d, e] A) Q → t v u H Q
theorem rs_aug (cx : Ctx X W k) (i : Nat) {x : Str} {op : Operator} {ti : TIp} {F : Fn} {pos' : Pos} (hp : PIp X op ti) (hk : OkIp X.K ti F) (he : RE X W e me) (hi : X.N[i]? = some x := by rfl) (hx : Loc X.env.scope x := by first | exact Or.inl rfl | exact Or.inr rfl)
    (hf : X.fn x = true ∨ X.env.scope.names.lookup x = some .local := by first | exact .inl rfl | exact .inr rfl | assumption) : RS X W (.AugAssign (.Name x pos') op e pos) (sAug i me F) := by
  refine PS.imp (ps_aug cx.nd hi hx he hp hf) fun Dn σ H ⟨ρ, E, A, hE, hA, h⟩ => ?_
  have h' : PostS X.K W ρ A H ((okD A E[i]?).then E (kAug i me F E)) Dn := h
  cases z : E[i]? with
  | none => rw [z] at h'; exact h'.elim
  | some od =>
    cases od with
    | none => rw [z] at h'; exact h'.elim
    | some d =>
      rw [z] at h'
      obtain ⟨v, e1, r0⟩ := hE.get i d z
      have h2 : PostS X.K W ρ A H ((me E A).then E (kAug2 i F E d)) Dn := h'
      refine ⟨v, e1, ρ, E, A, hE, hA, PostS.then hE h2 fun ρ1 y B u H1 n1 r1 h1 => ?_⟩
      exact hk W ρ1 B σ H1 d y v u _ n1.rep (r0.ext n1.ext) r1 (PostS.then (hE.ext n1.ext) (show PostS X.K W ρ1 B H1 ((F [d, y] B).then E (kSet i E)) Dn from h1) fun ρ2 w C u2 H2 n2 r2 h2 => h2 ρ2 _ H2 (.refl n2.rep) ((hE.ext (n1.ext.trans n2.ext)).set i r2))
def OkGt (K : PySem.W.Frag) (t : V → V → Hp → VK → Prop) (F : Fn) : Prop := Ok2 K t F
theorem rs_augS {op : Operator} {tget : V → V → Hp → VK → Prop} {tip : TIp} {tset : TSet} {G F : Fn} {S : Stx} {tpos : Pos} (hg : PGet X tget) (hkg : OkGt X.K tget G) (hp : PIp X op tip) (hkp : OkIp X.K tip F) (hs : PSet X tset) (hks : OkSt X.K tset S) (ho : RE X W o mo) (hi : RE X W a ma) (he : RE X W e me)
    (ha : ∀ ov iv new, augStore a ov iv new = (do holding [new, ov, iv] (setItem ov iv new); release [new, ov, iv] []; pure .next) := by intros; rfl) : RS X W (.AugAssign (.Subscript o a tpos) op e pos) (sAugS mo ma me G F S) := by
  refine PS.imp (ps_augS ho hi hg he hp hs ha) fun Dn σ H ⟨ρ, E, A, hE, hA, h⟩ => ⟨ρ, E, A, hE, hA, PostS.then hE h fun ρ1 x B u H1 n1 r1 h1 => ?_⟩
  have E1 := hE.ext n1.ext
  refine ⟨ρ1, E, B, E1, n1.rep, PostS.then E1 h1 fun ρ2 y B2 w H2 n2 r2 h2 => ?_⟩
  have E2 := E1.ext n2.ext
  refine hkg W ρ2 B2 σ H2 x y u w _ n2.rep (r1.ext n2.ext) r2 (PostS.then E2 (show PostS X.K W ρ2 B2 H2 ((G [x, y] B2).then E (kAS3 me F S E x y)) Dn from h2) fun ρ3 od B3 ou H3 n3 r3 h3 => ?_)
  have E3 := E2.ext n3.ext
  refine ⟨ρ3, E, B3, E3, n3.rep, PostS.then E3 (show PostS X.K W ρ3 B3 H3 ((me E B3).then E (kAS4 F S E x y od)) Dn from h3) fun ρ4 d B4 v H4 n4 r4 h4 => ?_⟩
  have E4 := E3.ext n4.ext
  refine hkp W ρ4 B4 σ H4 od d ou v _ n4.rep (r3.ext n4.ext) r4 (PostS.then E4 (show PostS X.K W ρ4 B4 H4 ((F [od, d] B4).then E (kAS5 S E x y)) Dn from h4) fun ρ5 z B5 zu H5 n5 r5 h5 => ?_)
  have h5' : PostS X.K W ρ5 B5 H5 (okS E (S x y z B5)) Dn := h5
  obtain ⟨B6, e6⟩ := PostS.okS h5'
  refine hks ρ5 B5 H5 x y z u w zu B6 _ n5.rep (r1.ext (n2.ext.trans (n3.ext.trans (n4.ext.trans n5.ext)))) (r2.ext (n3.ext.trans (n4.ext.trans n5.ext))) r5 e6 fun H6 n6 => ?_
  rw [e6] at h5'
  exact h5' ρ5 σ H6 n6 (E4.ext (n5.ext.trans n6.ext))
/-! ### attributes -/
theorem ins_at {K : PySem.W.Frag} {ρ : Nat → Addr} {A : AH} {H : Hp} {i c : Nat} {fs : List (Nat × D)} (hA : RepA K ρ H A) (e : A[i]? = some (.ins c fs)) : ∃ dx gs, H (ρ i) = some (.ins (clsA K c) dx gs) ∧ RepF ρ A.length H fs gs := hA.objs i _ e
/-- what is known of the class's attribute -/
structure At (K : PySem.W.Frag) (cs : List Nat) (n : Nat) (x : Str) : Prop where
  nm : fldN[n]? = some x
  cl : ∀ c ∈ cs, Cls K (clsA K c) ∧ NoAttr K (clsA K c) x
theorem re_fld {cs : List Nat} {n : Nat} {x : Str} (at_ : At X.K cs n x) (ho : RE X W o mo) (hb : attributeBase o x X.env (eval o X.env) = eval o X.env := by rfl) : RE X W (.Attribute o x pos) (eF (fFld cs n) (aCons mo aNil)) := by
  refine PE.imp (pe_fld ho hb) fun σ H Q ⟨ρ, E, A, hE, hA, h⟩ => ?_
  rw [eF1] at h
  refine ⟨ρ, E, A, hE, hA, Post.bind h fun ρ1 d B v H1 n1 r1 h1 => ?_⟩
  cases r1 with
  | @ref i hi =>
    have h2 : Post X.K W RepV ρ1 B σ H1 (oFld cs n B B[i]?) Q := h1
    cases z : B[i]? with
    | none => rw [z] at h2; exact h2.elim
    | some u =>
      rw [z] at h2
      cases u with
      | ins c fs =>
        have h3 : Post X.K W RepV ρ1 B σ H1 (if c ∈ cs then okD B (some (lookF n fs)) else .bad) Q := h2
        by_cases hc : c ∈ cs
        · rw [if_pos hc] at h3
          obtain ⟨dx, gs, q1, q2⟩ := ins_at n1.rep z
          cases l : lookF n fs with
          | none => rw [l] at h3; exact h3.elim
          | some d =>
            rw [l] at h3
            obtain ⟨v, l1, l2⟩ := q2.look at_.nm l
            obtain ⟨k1, k2⟩ := at_.cl c hc
            exact ⟨ρ1 i, clsA X.K c, dx, gs, v, rfl, q1, k1, k2, l1, h3 ρ1 v H1 (.refl n1.rep) l2⟩
        · rw [if_neg hc] at h3
          exact h3.elim
      | _ => exact h2.elim
  | _ => exact h1.elim
theorem rs_fld {cs : List Nat} {n : Nat} {x : Str} {pos' : Pos} (at_ : At X.K cs n x) (ho : RE X W o mo) (he : RE X W e me) (hs : swapsWith e (some (.Attribute o x pos')) pos.line X.env = pure false := by rfl) : RS X W (.Assign [.Attribute o x pos'] e pos) (sFld cs n mo me) := by
  refine PS.imp (ps_fld ho he hs) fun Dn σ H ⟨ρ, E, A, hE, hA, h⟩ => ⟨ρ, E, A, hE, hA, PostS.then hE h fun ρ1 d B v H1 n1 r1 h1 => ?_⟩
  have E1 := hE.ext n1.ext
  refine ⟨ρ1, E, B, E1, n1.rep, PostS.then E1 (show PostS X.K W ρ1 B H1 ((mo E B).then E (kFld2 cs n E d)) Dn from h1) fun ρ2 q B2 u H2 n2 r2 h2 => ?_⟩
  have h2' : PostS X.K W ρ2 B2 H2 (okS E (putFld cs n d B2 q)) Dn := h2
  obtain ⟨B3, e3⟩ := PostS.okS h2'
  cases r2 with
  | @ref i hi =>
    have e3' : oPut cs n i d B2 B2[i]? = some B3 := e3
    cases z : B2[i]? with
    | none => rw [z] at e3'; cases e3'
    | some uo =>
      rw [z] at e3'
      cases uo with
      | ins c fs =>
        have e4 : (if c ∈ cs ∧ fs.length < 1000 then some (B2.set i (.ins c (setF n d fs))) else none) = some B3 := e3'
        by_cases hc : c ∈ cs ∧ fs.length < 1000
        · rw [if_pos hc] at e4
          obtain ⟨dx, gs, q1, q2⟩ := ins_at n2.rep z
          obtain ⟨k1, k2⟩ := at_.cl c hc.1
          refine ⟨ρ2 i, clsA X.K c, dx, gs, rfl, q1, k1, k2, by rw [← q2.len]; exact hc.2, ?_⟩
          have n3 : Nxt X.K ρ2 B2 H2 ρ2 (B2.set i (.ins c (setF n d fs))) (upd H2 (ρ2 i) (.ins (clsA X.K c) dx (putF x v gs))) :=
            Nxt.set n2.rep z rfl rfl fun ex => ⟨dx, putF x v gs, upd_same, (q2.put at_.nm (r1.ext n2.ext)).ext ex⟩
          rw [e3, ← Option.some.inj e4] at h2'
          exact h2' ρ2 σ _ n3 (E1.ext (n2.ext.trans n3.ext))
        · rw [if_neg hc] at e4
          cases e4
      | _ => cases e3'
  | _ => cases e3
end
end DL
set_option Elab.async false
set_option linter.all false
set_option maxRecDepth 100000
set_option maxHeartbeats 4000000
/-! Loops, comprehensions, what they walk (own work). -/
namespace DL
open PySem PySem.Spec PyProof.Rows L2
theorem line_eq : line = sizeLine := by rw [sizeLine_eq]; rfl
section
variable {X : Cx} {W : WX} {k : Nat} {pos : Pos} {tg it e : Expr} {body : List Stmt} {mi : Ix} {g : Gx} {m : Sx} {mt : Tx} {me : Ex} {mr : Ax}
theorem PostG.turn {K : PySem.W.Frag} {ρ : Nat → Addr} {A : AH} {H : Hp} {r : SRes} {b f : Sx} {Dn : Ends} {Q' : Sl → Hp → Prop} (h : PostS K W ρ A H ((r.only.seq b).turn f) Dn)
    (hq : ∀ ρ1 E B σ H1, Nxt K ρ A H ρ1 B H1 → RepE ρ1 B.length H1 E σ → PostS K W ρ1 B H1 ((b E B).turn f) Dn → Q' σ H1) : PostG K W ρ A H r Q' := by
  cases r with
  | nx E B => exact fun ρ' σ H' n r => hq ρ' E B σ H' n r (PostS.later h n)
  | exc x E B => exact h
  | _ => exact h
theorem PostS.turn {K : PySem.W.Frag} {ρ : Nat → Addr} {A : AH} {H : Hp} {r : SRes} {f : Sx} {Dn : Ends} {N : Sl → Hp → Prop} (h : PostS K W ρ A H (r.turn f) Dn)
    (hq : ∀ ρ1 E B σ H1, Nxt K ρ A H ρ1 B H1 → RepE ρ1 B.length H1 E σ → PostS K W ρ1 B H1 (f E B) Dn → N σ H1) : PostS K W ρ A H r { Dn with nx := N, ct := N, bk := Dn.nx } := by
  cases r with
  | nx E B => exact fun ρ' σ H' n r => hq ρ' E B σ H' n r (PostS.later h n)
  | ct E B => exact fun ρ' σ H' n r => hq ρ' E B σ H' n r (PostS.later h n)
  | bk E B => exact h
  | rt d B => exact h
  | exc x E B => exact h
  | bad => exact h
theorem PostS.thenI {K : PySem.W.Frag} {ρ : Nat → Addr} {A : AH} {σ : Sl} {H : Hp} {q : Res Src} {E : Env} {f : Src → AH → SRes} {Dn : Ends} {Q1 : It → Hp → Prop} (hE : RepE ρ A.length H E σ) (h : PostS K W ρ A H (q.then E f) Dn)
    (hq : ∀ ρ1 s B J H1, Nxt K ρ A H ρ1 B H1 → ItOk K ρ1 B H1 s J → PostS K W ρ1 B H1 (f s B) Dn → Q1 J H1) : PostI K W ρ A σ H q Q1 := by
  cases q with
  | ok a B => exact fun ρ' b H' n r => hq ρ' a B b H' n r (PostS.later h n)
  | exc x B => exact fun ρ' c d H' n r => h ρ' c d σ H' n (hE.ext n.ext) r
  | bad => exact h
theorem rs_for (cx : Ctx X W k) (hi : RI X W tg it mi) (hg : RG X W tg g) (hb : RSs X W body m) (hs : ∀ x, foldedSetIterable it X.env x = pure x := by intro _; rfl) : RS X W (.For tg it body [] pos) (sFor mi g m) := by
  refine PS.imp (ps_for cx.po cx.calm hi hg hb hs) fun Dn σ H ⟨ρ, E, A, hE, hA, h⟩ => ⟨ρ, E, A, hE, hA, PostS.thenI hE h fun ρ1 src B J H1 n1 itok h1 => ?_⟩
  refine ⟨fun i m' σ' H' => ∃ ρ2 E2 A2, RepE ρ2 A2.length H' E2 σ' ∧ Nxt X.K ρ1 B H1 ρ2 A2 H' ∧ PostS X.K W ρ2 A2 H' (forN src g m m' i E2 A2) Dn, ⟨src.size B + 1, ρ1, E, B, hE.ext n1.ext, .refl n1.rep, h1⟩, ?_⟩
  rintro i n σ2 H2 ⟨ρ2, E2, A2, e2, n2, h2⟩
  cases n with
  | zero => exact h2.elim
  | succ n =>
    have h3 : PostS X.K W ρ2 A2 H2 (forK g m (forN src g m n (i + 1)) E2 A2 (src.at A2 i)) Dn := h2
    have io := itok ρ2 A2 H2 n2 i
    cases z : src.at A2 i with
    | stop =>
      rw [z] at h3 io
      exact .inl ⟨io, h3 ρ2 σ2 H2 (.refl n2.rep) e2⟩
    | bad =>
      rw [z] at h3
      exact h3.elim
    | item d =>
      rw [z] at h3 io
      refine .inr ⟨io.1, _, fun σ' H' q => ⟨n, Nat.lt_succ_self _, q⟩, fun x H3 y => ?_⟩
      obtain ⟨sm, rv⟩ := io.2 x H3 y
      have n3 := Nxt.same n2.rep sm
      refine ⟨ρ2, E2, A2, d, e2.ext n3.ext, n3.rep, rv, PostG.turn (PostS.later h3 n3) fun ρ4 E4 A4 σ4 H4 n4 e4 h4 => ⟨ρ4, E4, A4, e4, n4.rep, PostS.turn h4 fun ρ5 E5 A5 σ5 H5 n5 e5 h5 => ?_⟩⟩
      exact ⟨ρ5, E5, A5, e5, n2.trans (n3.trans (n4.trans n5)), h5⟩
theorem rs_while (cx : Ctx X W k) (hc : RT X W e mt) (hb : RSs X W body m) : RS X W (.While e body [] pos) (sWhile mt m) := by
  refine PS.imp (ps_while cx.po hc hb) fun Dn σ H ⟨ρ, E, A, hE, hA, h⟩ => ?_
  refine ⟨fun m' σ' H' => ∃ ρ2 E2 A2, RepE ρ2 A2.length H' E2 σ' ∧ RepA X.K ρ2 H' A2 ∧ PostS X.K W ρ2 A2 H' (whileN mt m m' E2 A2) Dn, ⟨fuel, ρ, E, A, hE, hA, h⟩, ?_⟩
  rintro n σ2 H2 ⟨ρ2, E2, A2, e2, a2, h2⟩
  cases n with
  | zero => exact h2.elim
  | succ n =>
    have h3 : PostS X.K W ρ2 A2 H2 ((mt E2 A2).then E2 (kWh m (whileN mt m n) E2)) Dn := h2
    refine ⟨ρ2, E2, A2, e2, a2, PostS.then e2 h3 fun ρ3 c B b H3 n3 r3 h4 => ?_⟩
    have r3' : c = b := r3
    subst r3'
    have e3 := e2.ext n3.ext
    cases c with
    | true =>
      refine iteT ⟨_, fun σ' H' q => ⟨n, Nat.lt_succ_self _, q⟩, ρ3, E2, B, e3, n3.rep, PostS.turn h4 fun ρ5 E5 A5 σ5 H5 n5 e5 h5 => ⟨ρ5, E5, A5, e5, n5.rep, h5⟩⟩
    | false => exact iteF (h4 ρ3 σ2 H3 (.refl n3.rep) e3)

/-! ### what is walked -/
theorem Nxt.reps {K : PySem.W.Frag} {ρ ρ' : Nat → Addr} {A B : AH} {H H' : Hp} {ds : List D} {vs : List V} (n : Nxt K ρ A H ρ' B H') (r : RepVs ρ A.length H ds vs) : RepVs ρ' B.length H' ds vs := r.ext n.ext
theorem Same.rfl {H : Hp} : Same H H := fun _ _ h => h
theorem it_tup {K : PySem.W.Frag} {ρ : Nat → Addr} {A : AH} {H : Hp} {a : Addr} {ds : List D} {vs : List V} (ht : H a = some (.tup vs)) (r : RepVs ρ A.length H ds vs) : ItOk K ρ A H (.seq ds) (Itt K a) := fun ρ1 B H1 n i => by
  have t1 : SqT K H1 a vs := SqT.of (n.ext.tups a vs ht)
  have r1 := n.reps r
  show match stepO ds[i]? with | .item d => _ | .stop => _ | .bad => _
  cases z : ds[i]? with
  | none => exact ⟨vs, t1, by rw [← r.len]; exact List.getElem?_eq_none_iff.mp z⟩
  | some d =>
    obtain ⟨v, h1, h2⟩ := r1.get z
    exact ⟨⟨vs, v, t1, h1⟩, fun x H2 y => by
      obtain ⟨e1, e2⟩ := y
      subst e1
      have := e2 vs t1
      rw [h1] at this
      cases this
      exact ⟨Same.rfl, h2⟩⟩
theorem it_lst {K : PySem.W.Frag} {ρ : Nat → Addr} {A : AH} {H : Hp} {i : Nat} (hi : i < A.length) : ItOk K ρ A H (.lst i) (Itl K (ρ i)) := fun ρ1 B H1 n j => by
  show match (match seqAt B i with | some ds => stepO ds[j]? | none => Step.bad) with | .item d => _ | .stop => _ | .bad => _
  cases z : seqAt B i with
  | none => trivial
  | some ds =>
    obtain ⟨vs, h1, h2⟩ := n.rep.seq z
    rw [n.ext.same i hi] at h1
    show match stepO ds[j]? with | .item d => _ | .stop => _ | .bad => _
    cases y : ds[j]? with
    | none => exact ⟨vs, h1, by rw [← h2.len]; exact List.getElem?_eq_none_iff.mp y⟩
    | some d =>
      obtain ⟨v, q1, q2⟩ := h2.get y
      exact ⟨⟨vs, v, h1, q1⟩, fun x H2 q => by
        obtain ⟨e1, e2⟩ := q
        subst e1
        have := e2 vs h1
        rw [q1] at this
        cases this
        exact ⟨Same.rfl, q2⟩⟩
/-- a list or a tuple is walked -/
theorem pi_seq {l : Expr} {tl : TE} (hl : PE X l tl) : PI X tg l (fun σ H R => tl σ H fun x H1 => ∃ a, x = .ref a ∧ (((∃ xs, SqL X.K H1 a xs) ∧ R (Itl X.K a) H1) ∨ ((∃ xs, SqT X.K H1 a xs) ∧ R (Itt X.K a) H1))) := by
  refine ⟨fun pins s σ H R I h => thn (hl.run pins s σ H _ I h) fun v s1 ⟨x, H1, I1, r1, a, ex, q⟩ => ?_⟩
  subst ex
  obtain rfl : v = Value.ref a := r1
  have new : ∀ (ob : Obj) (b : Addr), b ∈ [s1.heap.objs.size] → FpOk X pins H1 b := fun ob b hb => by
    rw [List.mem_singleton.mp hb]
    exact I1.fpOk (Nat.le_refl _) (I1.hok.fresh (Nat.le_refl _))
  rcases q with ⟨⟨xs, hq⟩, q⟩ | ⟨⟨xs, hq⟩, q⟩
  · obtain ⟨its, rv, p, hz⟩ := I1.list hq
    exact wpAny_pyIter_list p.isList ⟨s1.heap.objs.size, [s1.heap.objs.size], _, _, H1, rfl, I1.kept (t' := s1.toks) fun b o e => Heap.get?_push_of_some _ e, turn_list a _, ⟨_, Heap.get?_push_size _ rfl, rfl, rfl⟩, new default, q⟩
  · obtain ⟨its, rv, p, hz⟩ := I1.tuple hq
    exact wpAny_pyIter_tuple (show s1.heap.IsTuple a its.toArray from p) ⟨s1.heap.objs.size, [s1.heap.objs.size], _, _, H1, rfl, I1.kept (t' := s1.toks) fun b o e => Heap.get?_push_of_some _ e, turn_tuple a _, ⟨_, Heap.get?_push_size _ rfl, rfl, rfl⟩, new default, q⟩
theorem PostI.bind {α β : Type} {rel : (Nat → Addr) → Nat → Hp → α → β → Prop} {K : PySem.W.Frag} {ρ : Nat → Addr} {A : AH} {σ : Sl} {H : Hp} {r : Res α} {f : α → AH → Res Src} {Q : It → Hp → Prop} {Q1 : β → Hp → Prop}
    (h : PostI K W ρ A σ H (r.bind f) Q) (hq : ∀ ρ1 a B b H1, Nxt K ρ A H ρ1 B H1 → rel ρ1 B.length H1 a b → PostI K W ρ1 B σ H1 (f a B) Q → Q1 b H1) : Post K W rel ρ A σ H r Q1 := by
  cases r with
  | ok a B =>
    refine fun ρ' b H' n r => hq ρ' a B b H' n r ?_
    have h' : PostI K W ρ A σ H (f a B) Q := h
    cases z : f a B with
    | ok s C =>
      rw [z] at h'
      exact fun ρ2 J H2 n2 r2 => h' ρ2 J H2 (n.trans n2) r2
    | exc x C =>
      rw [z] at h'
      exact fun ρ2 c d H2 n2 r2 => h' ρ2 c d H2 (n.trans n2) r2
    | bad => rw [z] at h'; exact h'
  | exc x B => exact h
  | bad => exact h
theorem ri_seq (he : RE X W e me) : RI X W tg e (iSeq me) := by
  refine PI.imp (pi_seq he) fun σ H R ⟨ρ, E, A, hE, hA, h⟩ => ⟨ρ, E, A, hE, hA, PostI.bind h fun ρ1 d B v H1 n1 r1 h1 => ?_⟩
  cases r1 with
  | @tup a vs ds q1 q2 => exact ⟨a, rfl, .inr ⟨⟨vs, SqT.of q1⟩, h1 ρ1 _ H1 (.refl n1.rep) (it_tup q1 q2)⟩⟩
  | @ref i hi =>
    have h2 : PostI X.K W ρ1 B σ H1 (okI (.lst i) B (seqAt B i)) R := h1
    cases z : seqAt B i with
    | none => rw [z] at h2; exact h2.elim
    | some ds =>
      rw [z] at h2
      obtain ⟨vs, q1, q2⟩ := n1.rep.seq z
      exact ⟨ρ1 i, rfl, .inl ⟨⟨vs, q1⟩, h2 ρ1 _ H1 (.refl n1.rep) (it_lst hi)⟩⟩
  | _ => exact h1.elim
theorem upto_get {lo : Int} {n i : Nat} : (upto lo n)[i]? = if i < n then some (.int (lo + i)) else none := by
  unfold upto
  rw [List.getElem?_map]
  by_cases z : i < n
  · rw [if_pos z, List.getElem?_range z]; rfl
  · rw [if_neg z, List.getElem?_eq_none (by simpa using z)]; rfl
theorem it_rng {K : PySem.W.Frag} {ρ : Nat → Addr} {A : AH} {H : Hp} {lo : Int} {n : Nat} : ItOk K ρ A H (.seq (upto lo n)) (Itr lo n) := fun ρ1 B H1 nx i => by
  show match stepO (upto lo n)[i]? with | .item d => _ | .stop => _ | .bad => _
  rw [upto_get]
  by_cases z : i < n
  · rw [if_pos z]
    refine ⟨z, fun x H2 y => ?_⟩
    obtain ⟨e1, e2⟩ := y
    subst e1 e2
    exact ⟨Same.rfl, .int _⟩
  · rw [if_neg z]
    exact Nat.le_of_not_lt z
theorem small62_ok {i : Int} (h : small62 i = true) : -(2 ^ 62) ≤ i ∧ i < 2 ^ 62 := by
  unfold small62 at h
  rw [Bool.and_eq_true] at h
  exact ⟨of_decide_eq_true h.1, of_decide_eq_true h.2⟩
variable {a b : Expr} {p : Pos}
theorem ri_rng1 (hg : Gl X "range") (hm : X.mg "range" = none) (ha : RA X W [a] mr) (hs : starEach [a] X.env = [(false, eval a X.env)] := by rfl) : RI X W tg (.Call (.Name "range" p) [a] [] pos) (iRng1 mr) := by
  refine PI.imp (pi_range1 hg hm ha hs) fun σ H R ⟨ρ, E, A, hE, hA, h⟩ => ⟨ρ, E, A, hE, hA, PostI.bind h fun ρ1 ds B vs H1 n1 r1 h1 => ?_⟩
  cases r1 with
  | nil => exact h1.elim
  | cons r1 r2 => cases r2 with
    | cons _ _ => cases r1 <;> exact h1.elim
    | nil => cases r1 with
      | int j =>
        have h2 : PostI X.K W ρ1 B σ H1 (if small62 j = true then .ok (.seq (upto 0 j.toNat)) B else .bad) R := h1
        by_cases z : small62 j = true
        · rw [if_pos z] at h2
          obtain ⟨s1, s2⟩ := small62_ok z
          exact ⟨j, rfl, s1, s2, h2 ρ1 _ H1 (.refl n1.rep) it_rng⟩
        · rw [if_neg z] at h2
          exact h2.elim
      | _ => exact h1.elim
theorem ri_rng2 (hg : Gl X "range") (hm : X.mg "range" = none) (ha : RA X W [a, b] mr) (hs : starEach [a, b] X.env = [(false, eval a X.env), (false, eval b X.env)] := by rfl) (hs2 : starEach [b] X.env = [(false, eval b X.env)] := by rfl) : RI X W tg (.Call (.Name "range" p) [a, b] [] pos) (iRng2 mr) := by
  refine PI.imp (pi_range2 hg hm ha hs hs2) fun σ H R ⟨ρ, E, A, hE, hA, h⟩ => ⟨ρ, E, A, hE, hA, PostI.bind h fun ρ1 ds B vs H1 n1 r1 h1 => ?_⟩
  cases r1 with
  | nil => exact h1.elim
  | cons r1 r2 => cases r2 with
    | nil => cases r1 <;> exact h1.elim
    | cons r2 r3 => cases r3 with
      | cons _ _ => cases r1 <;> cases r2 <;> exact h1.elim
      | nil => cases r1 with
        | int i => cases r2 with
          | int j =>
            have h2 : PostI X.K W ρ1 B σ H1 (if (small62 i && small62 j) = true then .ok (.seq (upto i (j - i).toNat)) B else .bad) R := h1
            by_cases z : (small62 i && small62 j) = true
            · rw [if_pos z] at h2
              rw [Bool.and_eq_true] at z
              obtain ⟨s1, s2⟩ := small62_ok z.1
              obtain ⟨s3, s4⟩ := small62_ok z.2
              exact ⟨i, j, rfl, ⟨s1, s2, s3, s4⟩, h2 ρ1 _ H1 (.refl n1.rep) it_rng⟩
            · rw [if_neg z] at h2
              exact h2.elim
          | _ => exact h1.elim
        | _ => cases r2 <;> exact h1.elim

/-! ### comprehensions -/
theorem wipe_in {σ : Sl} {i : Nat} : ∀ {vs : List Nat}, i ∈ vs → (L2.wipe σ vs)[i]? = if i < σ.length then some none else none
  | v :: vs, h => by
    unfold L2.wipe
    have hl : (L2.wipe σ vs).length = σ.length := wipe_length σ vs
    by_cases e : v = i
    · subst e
      by_cases z : v < σ.length
      · rw [if_pos z, List.getElem?_set_self (by rw [hl]; exact z)]
      · rw [if_neg z, List.getElem?_eq_none (by rw [List.length_set, hl]; omega)]
    · rw [List.getElem?_set_ne e]
      exact wipe_in (by rcases List.mem_cons.mp h with q | q; exact absurd q.symm e; exact q)
theorem wipe_set {σ : Sl} {i : Nat} {v : Option V} {vs : List Nat} (h : i ∈ vs) : L2.wipe (σ.set i v) vs = L2.wipe σ vs := by
  apply List.ext_getElem?
  intro j
  by_cases z : j ∈ vs
  · rw [wipe_in z, wipe_in z, List.length_set]
  · rw [wipe_out z, wipe_out z, List.getElem?_set_ne (fun e : i = j => z (e ▸ h))]
theorem wipe_wipe {σ : Sl} {vs : List Nat} : L2.wipe (L2.wipe σ vs) vs = L2.wipe σ vs := by
  apply List.ext_getElem?
  intro j
  by_cases z : j ∈ vs
  · rw [wipe_in z, wipe_in z, wipe_length]
  · rw [wipe_out z]
/-- a target that stores into the comprehension's own slots -/
def RGo (X : Cx) (W : WX) (own : List Nat) (e : Expr) (g : Gx) : Prop := PG X e (fun v σ H Q => tG X.K W g v σ H fun σ2 H2 => L2.wipe σ2 own = L2.wipe σ own → Q σ2 H2)
def RGos (X : Cx) (W : WX) (own : List Nat) (e : List Expr) (g : Gsx) : Prop := PGs X e (fun v σ H Q => tGs X.K W g v σ H fun σ2 H2 => L2.wipe σ2 own = L2.wipe σ own → Q σ2 H2)
variable {es : List Expr} {gs : Gsx} {own : List Nat}
theorem rgo_name (nd : X.N.Nodup) (i : Nat) {x : Str} (hi : X.N[i]? = some x) (hx : Loc X.env.scope x) (hf : X.fn x = true ∨ X.env.scope.names.lookup x = some .local) (ho : i ∈ own) : RGo X W own (.Name x pos) (gName i) :=
  PG.imp (pg_name nd hi hx hf) fun v σ H Q ⟨ρ, E, A, d, hE, hA, r, h⟩ => h ρ _ H (.refl hA) (hE.set i r) (wipe_set ho)
theorem rgos_nil : RGos X W own [] gNil := PGs.imp pgs_nil fun vs σ H Q ⟨ρ, E, A, ds, hE, hA, r, h⟩ => by
  cases r with
  | nil => exact ⟨rfl, h ρ _ H (.refl hA) hE rfl⟩
  | cons _ _ => exact h.elim
theorem PostG.mono {K : PySem.W.Frag} {ρ : Nat → Addr} {A : AH} {H : Hp} {r : SRes} {Q Q' : Sl → Hp → Prop} (h : PostG K W ρ A H r Q) (hq : ∀ σ H1, Q σ H1 → Q' σ H1) : PostG K W ρ A H r Q' := by
  cases r with
  | nx E B => exact fun ρ' σ H' n r => hq _ _ (h ρ' σ H' n r)
  | exc x E B => exact h
  | _ => exact h
theorem rgos_cons (h1 : RGo X W own e g) (h2 : RGos X W own es gs) (hs : (assignEach (e :: es) X.env).map (·.2) = assign e X.env :: (assignEach es X.env).map (·.2)) : RGos X W own (e :: es) (gCons g gs) := by
  refine PGs.imp (pgs_cons h1 h2 hs) fun vs σ H Q ⟨ρ, E, A, ds, hE, hA, r, h⟩ => ?_
  cases r with
  | nil => exact h.elim
  | @cons d ds v vs r1 r2 =>
    exact ⟨v, vs, rfl, ρ, E, A, d, hE, hA, r1, PostG.only h fun ρ1 E1 B σ1 H1 n1 e1 h1 w1 => ⟨ρ1, E1, B, ds, e1, n1.rep, r2.ext n1.ext, PostG.mono h1 fun σ2 H2 q w2 => q (w2.trans w1)⟩⟩
theorem rgo_tup (calm : X.calm = true) {x1 n : Nat} (h : RGos X W own es gs) (hn : (assignEach es X.env).length = n) (hst : (assignEach es X.env).findIdx? (·.1) = none) : RGo X W own (.Tuple es x1 pos) (gTup n gs) := by
  refine PG.imp (pg_tup calm h hn hst) fun v σ H Q ⟨ρ, E, A, d, hE, hA, r, h⟩ => ?_
  cases r with
  | @tup a vs ds h1 h2 =>
    have h' : PostG X.K W ρ A H (if ds.length = n then gs ds E A else .bad) (fun σ2 H2 => L2.wipe σ2 own = L2.wipe σ own → Q σ2 H2) := h
    by_cases z : ds.length = n
    · rw [if_pos z] at h'
      exact ⟨a, vs, rfl, SqT.of h1, by rw [← h2.len]; exact z, ρ, E, A, ds, hE, hA, h2, h'⟩
    · rw [if_neg z] at h'
      exact h'.elim
  | _ => exact h.elim
abbrev W0 : WX := fun _ _ _ _ => False
def RTs (X : Cx) (W : WX) (ifs : List Expr) (m : Tx) : Prop := PTs X ifs (tT X.K W m)
theorem PTs.imp {ifs : List Expr} {t t' : TT} (h : PTs X ifs t) (hh : ∀ σ H Q, t' σ H Q → t σ H Q) : PTs X ifs t' := ⟨fun pins s σ H Q I q => h.run pins s σ H Q I (hh σ H Q q)⟩
theorem rts_nil : RTs X W [] tYes := PTs.imp pts_nil fun σ H Q ⟨ρ, E, A, hE, hA, h⟩ => h ρ true H (.refl hA) rfl
theorem rts_one {c : Expr} (h : RT X W c mt) : RTs X W [c] mt := pts_one h
theorem Post.bindN {α β γ δ : Type} {K : PySem.W.Frag} {W' : WX} {rel : (Nat → Addr) → Nat → Hp → α → β → Prop} {rel2 : (Nat → Addr) → Nat → Hp → γ → δ → Prop} {ρ : Nat → Addr} {A : AH} {σ σ' : Sl} {H : Hp} {r : Res α} {f : α → AH → Res γ} {Q : δ → Hp → Prop} {Q1 : β → Hp → Prop}
    (h : Post K W rel2 ρ A σ H (r.bindN f) Q) (hq : ∀ ρ1 a B b H1, Nxt K ρ A H ρ1 B H1 → rel ρ1 B.length H1 a b → Post K W rel2 ρ1 B σ H1 (f a B) Q → Q1 b H1) : Post K W' rel ρ A σ' H r Q1 := by
  cases r with
  | ok a B => exact fun ρ' b H' n r => hq ρ' a B b H' n r (Post.later h n)
  | exc x B => exact h.elim
  | bad => exact h
/-- what a comprehension's parts are in its block -/
abbrev blkOf (X : Cx) (scope : Scope) (s : Shared) (H : Hp) (C : Addr) (cl : List (Str × Addr)) (fp : List Addr) : Cx := X.blk s H scope (compEnvC scope cl C X.env) fp
theorem lc_of {σ : Sl} {H : Hp} {Q : VK} (h : tE X.K W (eLc mi g mt me own) σ H Q) :
    tLc (tI X.K W mi) (fun v σ H Q => tG X.K W0 g v σ H fun σ2 H2 => L2.wipe σ2 own = L2.wipe σ own → Q σ2 H2) (tT X.K W0 mt) (tE X.K W0 me) own σ H Q := by
  obtain ⟨ρ, E, A, hE, hA, h⟩ := h
  refine ⟨ρ, E, A, hE, hA, ?_⟩
  have h0 : Post X.K W RepV ρ A σ H ((mi E A).bind (kLc g mt me (wipeE E own))) Q := h
  cases z : mi E A with
  | exc x B => rw [z] at h0; exact h0
  | bad => rw [z] at h0; exact h0
  | ok src B =>
    rw [z] at h0
    intro ρ1 J H1 n1 itok L hL
    have h1 : Post X.K W RepV ρ1 B σ H1 (lcN src g mt me (wipeE E own) B.length (src.size B + 1) 0 (B ++ [.lst []])) Q := Post.later h0 n1
    obtain ⟨ρ2, eL, n2⟩ := Nxt.alloc (o := .lst []) (ho := .lst []) n1.rep hL rfl fun ρ' _ => ⟨[], upd_same, .nil⟩
    have lB : B.length < (B ++ [O.lst []]).length := by rw [List.length_append]; exact Nat.lt_succ_self _
    refine ⟨fun i m H' => ∃ ρ3 A3, Nxt X.K ρ2 (B ++ [.lst []]) (upd H1 L (.lst [])) ρ3 A3 H' ∧ Post X.K W RepV ρ3 A3 σ H' (lcN src g mt me (wipeE E own) B.length m i A3) Q, ⟨src.size B + 1, ρ2, _, .refl n2.rep, Post.later h1 n2⟩, ?_⟩
    rintro i n H3 ⟨ρ3, A3, n3, h3⟩
    cases n with
    | zero => exact h3.elim
    | succ n =>
      have h4 : Post X.K W RepV ρ3 A3 σ H3 (lcK g mt me (wipeE E own) B.length (lcN src g mt me (wipeE E own) B.length n (i + 1)) A3 (src.at A3 i)) Q := h3
      have nn := n1.trans (n2.trans n3)
      have io := itok ρ3 A3 H3 (n2.trans n3) i
      have eW : RepE ρ3 A3.length H3 (wipeE E own) (L2.wipe σ own) := (hE.ext nn.ext).wipe own
      have e3 : ρ3 B.length = L := (n3.ext.same _ lB).trans eL
      have l3 : B.length < A3.length := Nat.lt_of_lt_of_le lB n3.ext.le
      cases y : src.at A3 i with
      | stop =>
        rw [y] at h4 io
        have q := h4 ρ3 (.ref (ρ3 B.length)) H3 (.refl n3.rep) (.ref l3)
        rw [e3] at q
        exact .inl ⟨io, q⟩
      | bad => rw [y] at h4; exact h4.elim
      | item d =>
        rw [y] at h4 io
        refine .inr ⟨io.1, _, fun H' q => ⟨n, Nat.lt_succ_self _, q⟩, fun x H4 yl => ?_⟩
        obtain ⟨sm, rv⟩ := io.2 x H4 yl
        have n4 := Nxt.same n3.rep sm
        refine ⟨ρ3, wipeE E own, A3, d, eW.ext n4.ext, n4.rep, rv, ?_⟩
        have h5 : Post X.K W RepV ρ3 A3 σ H4 (kLc1 mt me B.length (lcN src g mt me (wipeE E own) B.length n (i + 1)) (g d (wipeE E own) A3)) Q := Post.later h4 n4
        cases u : g d (wipeE E own) A3 with
        | nx E5 A5 =>
          rw [u] at h5
          intro ρ5 σ5 H5 n5 e5 w5
          have h6 : Post X.K W RepV ρ5 A5 σ H5 ((mt E5 A5).bindN (kLc2 me E5 B.length (lcN src g mt me (wipeE E own) B.length n (i + 1)))) Q := Post.later h5 n5
          refine ⟨by rw [w5]; exact wipe_wipe, ρ5, E5, A5, e5, n5.rep, Post.bindN h6 fun ρ6 c B6 b6 H6 n6 r6 h7 => ?_⟩
          have r6' : c = b6 := r6
          subst r6'
          cases c with
          | false => exact iteF ⟨ρ6, B6, n3.trans (n4.trans (n5.trans n6)), h7⟩
          | true =>
            have h8 : Post X.K W RepV ρ6 B6 σ H6 ((me E5 B6).bindN (kLc3 B.length (lcN src g mt me (wipeE E own) B.length n (i + 1)))) Q := h7
            refine iteT ⟨ρ6, E5, B6, e5.ext n6.ext, n6.rep, Post.bindN h8 fun ρ7 dv B7 v7 H7 n7 r7 h9 => ?_⟩
            have h10 : Post X.K W RepV ρ7 B7 σ H7 (okA (lcN src g mt me (wipeE E own) B.length n (i + 1)) (addO B.length dv B7 B7[B.length]?)) Q := h9
            have n37 := n3.trans (n4.trans (n5.trans (n6.trans n7)))
            have e7 : ρ7 B.length = L := (n37.ext.same _ lB).trans eL
            cases q : B7[B.length]? with
            | none => rw [q] at h10; exact h10.elim
            | some ob =>
              rw [q] at h10
              cases ob with
              | lst acc =>
                have h11 : Post X.K W RepV ρ7 B7 σ H7 (okA (lcN src g mt me (wipeE E own) B.length n (i + 1)) (if acc.length < line then some (B7.set B.length (.lst (acc ++ [dv]))) else none)) Q := h10
                by_cases lt : acc.length < line
                · rw [if_pos lt] at h11
                  obtain ⟨avs, q1, q2⟩ := n7.rep.objs _ _ q
                  rw [e7] at q1
                  have n8 : Nxt X.K ρ7 B7 H7 ρ7 (B7.set B.length (.lst (acc ++ [dv]))) (upd H7 (ρ7 B.length) (.lst (avs ++ [v7]))) :=
                    Nxt.set n7.rep q rfl rfl fun ex => ⟨_, upd_same, (q2.app (.cons r7 .nil)).ext ex⟩
                  rw [e7] at n8
                  exact ⟨avs, q1, by rw [← q2.len, ← line_eq]; exact lt, ρ7, _, n37.trans n8, Post.later h11 n8⟩
                · rw [if_neg lt] at h11
                  exact h11.elim
              | _ => exact h10.elim
        | exc x E5 A5 => rw [u] at h5; exact h5.elim
        | rt _ _ => rw [u] at h5; exact h5.elim
        | bk _ _ => rw [u] at h5; exact h5.elim
        | ct _ _ => rw [u] at h5; exact h5.elim
        | bad => rw [u] at h5; exact h5.elim
end
section
variable {X : Cx} {W : WX} {k : Nat} {pos : Pos} {tg iter elt : Expr} {ifs : List Expr} {scope : Scope} {own : List (Str × Nat)} {mi : Ix} {g : Gx} {mt : Tx} {me : Ex}
theorem re_lc (cx : Ctx X W k) (hi : RI X W tg iter mi) (ok : BlkOk X.N X.env.scope scope own)
    (hg : ∀ s H C cl fp, RGo (blkOf X scope s H C cl fp) W0 (own.map (·.2)) tg g) (ht : ∀ s H C cl fp, RTs (blkOf X scope s H C cl fp) W0 ifs mt) (he : ∀ s H C cl fp, RE (blkOf X scope s H C cl fp) W0 elt me)
    (hs : ∀ x, foldedSetIterable iter X.env x = pure x := by intro _; rfl) : RE X W (.ListComp elt [⟨tg, iter, ifs, 0⟩] scope pos) (eLc mi g mt me (own.map (·.2))) :=
  PE.imp (pe_lc (g := fun v σ H Q => tG X.K W0 g v σ H fun σ2 H2 => L2.wipe σ2 (own.map (·.2)) = L2.wipe σ (own.map (·.2)) → Q σ2 H2) (tt := tT X.K W0 mt) (te := tE X.K W0 me) cx.calm cx.nd hi ok hg ht he hs) fun σ H Q h => lc_of h
theorem rs_setLc (cx : Ctx X W k) (i : Nat) {y : Str} {py spos : Pos} (hi : RI X W tg iter mi) (ok : BlkOk X.N X.env.scope scope own)
    (hg : ∀ s H C cl fp, RGo (blkOf X scope s H C cl fp) W0 (own.map (·.2)) tg g) (ht : ∀ s H C cl fp, RTs (blkOf X scope s H C cl fp) W0 ifs mt) (he : ∀ s H C cl fp, RE (blkOf X scope s H C cl fp) W0 elt me)
    (hy : X.N[i]? = some y) (hyl : X.env.scope.names.lookup y = some .local) (hsw : swapsWith (.ListComp elt [⟨tg, iter, ifs, 0⟩] scope pos) (some (.Name y py)) spos.line X.env = pure true)
    (hs : ∀ x, foldedSetIterable iter X.env x = pure x := by intro _; rfl) : RS X W (.Assign [.Name y py] (.ListComp elt [⟨tg, iter, ifs, 0⟩] scope pos) spos) (sAsg (eLc mi g mt me (own.map (·.2))) (gName i)) :=
  PS.imp (ps_setLc (g := fun v σ H Q => tG X.K W0 g v σ H fun σ2 H2 => L2.wipe σ2 (own.map (·.2)) = L2.wipe σ (own.map (·.2)) → Q σ2 H2) (tt := tT X.K W0 mt) (te := tE X.K W0 me) cx.calm cx.nd hy hyl hsw hi ok hg ht he hs) fun Dn σ H ⟨ρ, E, A, hE, hA, h⟩ => lc_of (W := W) ⟨ρ, E, A, hE, hA, PostS.then hE h fun ρ1 d B v H1 n1 r1 h1 => h1 ρ1 _ H1 (.refl n1.rep) ((hE.ext n1.ext).set i r1)⟩
/-- a comprehension's block is a context like the others -/
theorem Ctx.blk (cx : Ctx X W k) (s : Shared) (H : Hp) (C : Addr) (cl : List (Str × Addr)) (fp : List Addr) : Ctx (blkOf X scope s H C cl fp) W0 k := ⟨cx.calm, cx.nd, takes0, .never, cx.room⟩
end
end DL
set_option Elab.async false
set_option linter.all false
set_option maxRecDepth 100000
set_option maxHeartbeats 4000000
/-! The operations' rules say what the plain functions say (own work). -/
namespace DL
open PySem PySem.Spec PyProof.Rows L2
section
variable {K : PySem.W.Frag} {W : WX} {ρ : Nat → Addr} {A : AH} {σ : Sl} {H : Hp} {Q : VK} {ds : List D} {vs : List V} {d : D} {v : V} {p : Addr}
theorem post_val (hA : RepA K ρ H A) (h : Post K W RepV ρ A σ H (.ok d A) Q) (r : RepV ρ A.length H d v) : Q v H := h ρ v H (.refl hA) r
theorem post_tup (hA : RepA K ρ H A) (h : Post K W RepV ρ A σ H (.ok (.tup ds) A) Q) (r : RepVs ρ A.length H ds vs) (hp : H p = none) : Q (.ref p) (upd H p (.tup vs)) := by
  have n := Nxt.same (H' := upd H p (.tup vs)) hA (same_upd hp)
  exact h ρ _ _ n (.tup upd_same (r.ext n.ext))
theorem post_new {o : O} {ho : HO} (hA : RepA K ρ H A) (h : Post K W RepV ρ A σ H (.ok (.ref A.length) (A ++ [o])) Q) (hp : H p = none) (m : o.mut = true)
    (new : ∀ ρ', Ext ρ A.length H ρ' (A.length + 1) (upd H p ho) → RepO K ρ' (A.length + 1) (upd H p ho) p o) : Q (.ref p) (upd H p ho) := by
  obtain ⟨ρ', e, n⟩ := Nxt.alloc hA hp m new
  rw [← e]
  refine h ρ' _ _ (by rw [e]; exact n) (.ref ?_)
  rw [List.length_append]
  exact Nat.lt_succ_self _
theorem post_lst (hA : RepA K ρ H A) (h : Post K W RepV ρ A σ H (.ok (.ref A.length) (A ++ [.lst ds])) Q) (r : RepVs ρ A.length H ds vs) (hp : H p = none) : Q (.ref p) (upd H p (.lst vs)) :=
  post_new hA h hp rfl fun ρ' x => ⟨vs, upd_same, r.ext x⟩
theorem reps1 (r : RepVs ρ n H [d] vs) : ∃ v, vs = [v] ∧ RepV ρ n H d v := by
  cases r with
  | cons a b => cases b; exact ⟨_, rfl, a⟩
end
section
variable {X : Cx} {W : WX} {k : Nat} {pos : Pos} {e : Expr} {es : List Expr} {me : Ex} {mr : Ax}
/-! ### displays -/
theorem re_tup {x1 : Nat} (ha : RA X W es mr) : RE X W (.Tuple es x1 pos) (eF mkTup mr) := by
  refine PE.imp (pe_tup ha) fun σ H Q ⟨ρ, E, A, hE, hA, h⟩ => ⟨ρ, E, A, hE, hA, Post.bind h fun ρ1 ds B vs H1 n1 r1 h1 => ?_⟩
  have h2 : Post X.K W RepV ρ1 B σ H1 (if ds.length ≤ line then .ok (.tup ds) B else .bad) Q := h1
  by_cases z : ds.length ≤ line
  · rw [if_pos z] at h2
    exact ⟨by rw [← r1.len, ← line_eq]; exact z, fun p hp => post_tup n1.rep h2 r1 hp⟩
  · rw [if_neg z] at h2
    exact h2.elim
theorem re_lst (ha : RA X W es mr) : RE X W (.List es pos) (eF mkLst mr) := by
  refine PE.imp (pe_lst ha) fun σ H Q ⟨ρ, E, A, hE, hA, h⟩ => ⟨ρ, E, A, hE, hA, Post.bind h fun ρ1 ds B vs H1 n1 r1 h1 => ?_⟩
  have h2 : Post X.K W RepV ρ1 B σ H1 (if ds.length ≤ line then .ok (.ref B.length) (B ++ [.lst ds]) else .bad) Q := h1
  by_cases z : ds.length ≤ line
  · rw [if_pos z] at h2
    exact ⟨by rw [← r1.len, ← line_eq]; exact z, fun p hp => post_lst n1.rep h2 r1 hp⟩
  · rw [if_neg z] at h2
    exact h2.elim
theorem re_dic : RE X W (.Dict [] [] pos) (eF mkDic aNil) :=
  PE.imp pe_dnewK fun σ H Q ⟨ρ, E, A, hE, hA, h⟩ p hp => post_new hA h hp rfl fun ρ' x => .inl ⟨[], upd_same, .nil⟩
end
section
variable {X : Cx}
/-! ### operators -/
def rAdd4 (K : PySem.W.Frag) : R2 := fun x y H Q => (rI0 (fun i j => V.int (i + j)) x y H Q) ∨ (∃ i j, x = .str i ∧ y = .str j ∧ i.length + j.length ≤ sizeLine ∧ Q (.str (i ++ j)) H) ∨ rCatA K x y H Q ∨ rCat x y H Q
theorem op_add4 : OpR X (binaryOp .Add) (rAdd4 X.K) := OpR.or op_add (OpR.or op_add_str (OpR.or op_catA op_cat))
theorem lst_at {K : PySem.W.Frag} {ρ : Nat → Addr} {A : AH} {H : Hp} {i : Nat} {xs : List D} (hA : RepA K ρ H A) (e : A[i]? = some (.lst xs)) : ∃ vs, H (ρ i) = some (.lst vs) ∧ RepVs ρ A.length H xs vs := hA.objs i _ e
theorem ok_add : Ok2 X.K (rAdd4 X.K) opAdd := fun W ρ A σ H d e v u Q hA rd re h => by
  cases rd with
  | int i => cases re with
    | int j => exact .inl ⟨i, j, rfl, rfl, post_val hA h (.int _)⟩
    | _ => exact h.elim
  | str x => cases re with
    | str y =>
      have h2 : Post X.K W RepV ρ A σ H (if x.length + y.length ≤ line then .ok (.str (x ++ y)) A else .bad) Q := h
      by_cases z : x.length + y.length ≤ line
      · rw [if_pos z] at h2
        exact .inr (.inl ⟨x, y, rfl, rfl, by rw [← line_eq]; exact z, post_val hA h2 (.str _)⟩)
      · rw [if_neg z] at h2; exact h2.elim
    | _ => exact h.elim
  | @tup a vs xs q1 q2 => cases re with
    | @tup b us ys q3 q4 =>
      have h2 : Post X.K W RepV ρ A σ H (if xs.length + ys.length ≤ line then .ok (.tup (xs ++ ys)) A else .bad) Q := h
      by_cases z : xs.length + ys.length ≤ line
      · rw [if_pos z] at h2
        refine .inr (.inr (.inl ⟨a, b, vs, us, rfl, rfl, SqT.of q1, SqT.of q3, by rw [← q2.len, ← q4.len, ← line_eq]; exact z, fun e => ?_, fun _ e => ?_, fun _ _ p hp => post_tup hA h2 (q2.app q4) hp⟩))
        · subst e
          cases q2
          exact post_val hA h2 (.tup q3 q4)
        · subst e
          cases q4
          rw [List.append_nil] at h2
          exact post_val hA h2 (.tup q1 q2)
      · rw [if_neg z] at h2; exact h2.elim
    | _ => exact h.elim
  | @ref i hi => cases re with
    | @ref j hj =>
      have h2 : Post X.K W RepV ρ A σ H (lst2 A A[i]? A[j]?) Q := h
      cases e1 : A[i]? with
      | none => rw [e1] at h2; exact h2.elim
      | some o1 => cases e2 : A[j]? with
        | none => rw [e1, e2] at h2; cases o1 <;> exact h2.elim
        | some o2 =>
          rw [e1, e2] at h2
          cases o1 with
          | lst xs => cases o2 with
            | lst ys =>
              obtain ⟨vs, q1, q2⟩ := lst_at hA e1
              obtain ⟨us, q3, q4⟩ := lst_at hA e2
              have h3 : Post X.K W RepV ρ A σ H (if xs.length + ys.length ≤ line then .ok (.ref A.length) (A ++ [.lst (xs ++ ys)]) else .bad) Q := h2
              by_cases z : xs.length + ys.length ≤ line
              · rw [if_pos z] at h3
                exact .inr (.inr (.inr ⟨ρ i, ρ j, vs, us, rfl, rfl, q1, q3, by rw [← q2.len, ← q4.len, ← line_eq]; exact z, fun p hp => post_lst hA h3 (q2.app q4) hp⟩))
              · rw [if_neg z] at h3; exact h3.elim
            | _ => exact h2.elim
          | _ => exact h2.elim
    | _ => exact h.elim
  | _ => exact h.elim
theorem ok_sub : Ok2 X.K (rI0 fun i j => V.int (i - j)) opSub := fun W ρ A σ H d e v u Q hA rd re h => by
  cases rd with
  | int i => cases re with
    | int j => exact ⟨i, j, rfl, rfl, post_val hA h (.int _)⟩
    | _ => exact h.elim
  | _ => exact h.elim
def rMul3 (K : PySem.W.Frag) : R2 := fun x y H Q => (rI CMul (fun i j => V.int (i * j)) x y H Q) ∨ rRepT K x y H Q ∨ rRep x y H Q
theorem op_mul3 : OpR X (binaryOp .Mult) (rMul3 X.K) := OpR.or op_mul (OpR.or op_repT op_rep)
theorem rep_reps {ρ : Nat → Addr} {n : Nat} {H : Hp} {xs : List D} {vs : List V} (r : RepVs ρ n H xs vs) (k : Int) : RepVs ρ n H (rep k xs) (List.replicate k.toNat vs).flatten := by
  unfold rep
  induction k.toNat with
  | zero => exact .nil
  | succ m ih =>
    rw [List.replicate_succ, List.replicate_succ, List.flatten_cons, List.flatten_cons]
    exact r.app ih
theorem wide_of {i : Int} (h : tooWide i = false) : -(2 ^ 64) < i ∧ i < 2 ^ 64 := by
  unfold tooWide at h
  simp only [Bool.not_eq_false', Bool.and_eq_true, decide_eq_true_eq] at h
  exact h
theorem ok_mul : Ok2 X.K (rMul3 X.K) opMul := fun W ρ A σ H d e v u Q hA rd re h => by
  cases rd with
  | int i => cases re with
    | int j =>
      have h2 : Post X.K W RepV ρ A σ H (if (tooWide i && tooWide j) = true then .bad else .ok (.int (i * j)) A) Q := h
      by_cases z : (tooWide i && tooWide j) = true
      · rw [if_pos z] at h2; exact h2.elim
      · rw [if_neg z] at h2
        refine .inl ⟨i, j, rfl, rfl, ?_, post_val hA h2 (.int _)⟩
        cases y : tooWide i with
        | false => exact .inl (wide_of y)
        | true =>
          cases y2 : tooWide j with
          | false => exact .inr (wide_of y2)
          | true => rw [y, y2] at z; exact absurd rfl z
    | _ => exact h.elim
  | @tup a vs xs q1 q2 => cases re with
    | int k =>
      have h2 : Post X.K W RepV ρ A σ H (if xs ≠ [] ∧ 2 ≤ k ∧ k ≤ 1000 ∧ xs.length ≤ 1000 then .ok (.tup (rep k xs)) A else .bad) Q := h
      by_cases z : xs ≠ [] ∧ 2 ≤ k ∧ k ≤ 1000 ∧ xs.length ≤ 1000
      · rw [if_pos z] at h2
        refine .inr (.inl ⟨a, k, vs, rfl, rfl, SqT.of q1, fun e => ?_, z.2.1, z.2.2.1, by rw [← q2.len]; exact z.2.2.2, fun p hp => post_tup hA h2 (rep_reps q2 k) hp⟩)
        subst e
        cases q2
        exact z.1 rfl
      · rw [if_neg z] at h2; exact h2.elim
    | _ => exact h.elim
  | @ref i hi => cases re with
    | int k =>
      have h2 : Post X.K W RepV ρ A σ H (mulL A k A[i]?) Q := h
      cases e1 : A[i]? with
      | none => rw [e1] at h2; exact h2.elim
      | some o1 =>
        rw [e1] at h2
        cases o1 with
        | lst xs =>
          obtain ⟨vs, q1, q2⟩ := lst_at hA e1
          have h3 : Post X.K W RepV ρ A σ H (if -(2 ^ 63) ≤ k ∧ k < 2 ^ 63 then (if xs.length * k.toNat ≤ line then .ok (.ref A.length) (A ++ [.lst (rep k xs)]) else .bad) else .bad) Q := h2
          by_cases z : -(2 ^ 63) ≤ k ∧ k < 2 ^ 63
          · rw [if_pos z] at h3
            by_cases y : xs.length * k.toNat ≤ line
            · rw [if_pos y] at h3
              exact .inr (.inr ⟨ρ i, k, vs, rfl, rfl, q1, z.1, z.2, by rw [← q2.len, ← line_eq]; exact y, fun p hp => post_lst hA h3 (rep_reps q2 k) hp⟩)
            · rw [if_neg y] at h3; exact h3.elim
          · rw [if_neg z] at h3; exact h3.elim
        | _ => exact h2.elim
    | _ => exact h.elim
  | _ => exact h.elim
theorem ok_mod : Ok2 X.K (rI (fun _ j => j ≠ 0) fun i j => V.int (i.fmod j)) opMod := fun W ρ A σ H d e v u Q hA rd re h => by
  cases rd with
  | int i => cases re with
    | int j =>
      have h2 : Post X.K W RepV ρ A σ H (if j ≠ 0 then .ok (.int (i.fmod j)) A else .bad) Q := h
      by_cases z : j ≠ 0
      · rw [if_pos z] at h2; exact ⟨i, j, rfl, rfl, z, post_val hA h2 (.int _)⟩
      · rw [if_neg z] at h2; exact h2.elim
    | _ => exact h.elim
  | _ => exact h.elim
theorem ok_div : Ok2 X.K (rI CDivN fun i j => V.int (i.fdiv j)) opDiv := fun W ρ A σ H d e v u Q hA rd re h => by
  cases rd with
  | int i => cases re with
    | int j =>
      have h2 : Post X.K W RepV ρ A σ H (if j ≠ 0 ∧ j.natAbs < 1073741824 then .ok (.int (i.fdiv j)) A else .bad) Q := h
      by_cases z : j ≠ 0 ∧ j.natAbs < 1073741824
      · rw [if_pos z] at h2; exact ⟨i, j, rfl, rfl, z, post_val hA h2 (.int _)⟩
      · rw [if_neg z] at h2; exact h2.elim
    | _ => exact h.elim
  | _ => exact h.elim
theorem ok_pow : Ok2 X.K (rI CPow fun i j => V.int (i ^ j.toNat)) opPow := fun W ρ A σ H d e v u Q hA rd re h => by
  cases rd with
  | int i => cases re with
    | int j =>
      have h2 : Post X.K W RepV ρ A σ H (if 0 ≤ j ∧ j ≤ 1000000 ∧ i.natAbs < 2 ^ 64 then .ok (.int (i ^ j.toNat)) A else .bad) Q := h
      by_cases z : 0 ≤ j ∧ j ≤ 1000000 ∧ i.natAbs < 2 ^ 64
      · rw [if_pos z] at h2; exact ⟨i, j, rfl, rfl, z, post_val hA h2 (.int _)⟩
      · rw [if_neg z] at h2; exact h2.elim
    | _ => exact h.elim
  | _ => exact h.elim
theorem ok_neg : OkL X.K (fun vs H Q => ∃ v, vs = [v] ∧ rU (fun i => V.int (-i)) v H Q) opNeg := fun W ρ A σ H ds vs Q hA r h => by
  cases r with
  | nil => exact h.elim
  | cons r1 r2 => cases r2 with
    | cons _ _ => cases r1 <;> exact h.elim
    | nil => cases r1 with
      | int i => exact ⟨_, rfl, i, rfl, post_val hA h (.int _)⟩
      | _ => exact h.elim
theorem ok_lt : Ok2 X.K (rI0 fun i j => V.bl (decide (i < j))) opLt := fun W ρ A σ H d e v u Q hA rd re h => by
  cases rd with
  | int i => cases re with
    | int j => exact ⟨i, j, rfl, rfl, post_val hA h (.bl _)⟩
    | _ => exact h.elim
  | _ => exact h.elim
theorem ok_le : Ok2 X.K (rI0 fun i j => V.bl (decide (i ≤ j))) opLe := fun W ρ A σ H d e v u Q hA rd re h => by
  cases rd with
  | int i => cases re with
    | int j => exact ⟨i, j, rfl, rfl, post_val hA h (.bl _)⟩
    | _ => exact h.elim
  | _ => exact h.elim
theorem ok_gt : Ok2 X.K (rI0 fun i j => V.bl (decide (j < i))) opGt := fun W ρ A σ H d e v u Q hA rd re h => by
  cases rd with
  | int i => cases re with
    | int j => exact ⟨i, j, rfl, rfl, post_val hA h (.bl _)⟩
    | _ => exact h.elim
  | _ => exact h.elim
theorem ok_ge : Ok2 X.K (rI0 fun i j => V.bl (decide (j ≤ i))) opGe := fun W ρ A σ H d e v u Q hA rd re h => by
  cases rd with
  | int i => cases re with
    | int j => exact ⟨i, j, rfl, rfl, post_val hA h (.bl _)⟩
    | _ => exact h.elim
  | _ => exact h.elim
theorem isN_rep {ρ : Nat → Addr} {n : Nat} {H : Hp} {d : D} {v : V} (r : RepV ρ n H d v) : d.isN = decide (v = .non) := by
  cases r <;> first | rfl | exact (decide_eq_false (by intro z; cases z)).symm
theorem ok_is : Ok2 X.K (fun x y H Q => y = .non ∧ Q (.bl (decide (x = .non))) H) opIs := fun W ρ A σ H d e v u Q hA rd re h => by
  cases re with
  | non =>
    have h2 : Post X.K W RepV ρ A σ H (.ok (.bl d.isN) A) Q := h
    rw [isN_rep rd] at h2
    exact ⟨rfl, post_val hA h2 (.bl _)⟩
  | _ => exact h.elim
theorem ok_nis : Ok2 X.K (fun x y H Q => y = .non ∧ Q (.bl (!decide (x = .non))) H) opNis := fun W ρ A σ H d e v u Q hA rd re h => by
  cases re with
  | non =>
    have h2 : Post X.K W RepV ρ A σ H (.ok (.bl (!d.isN)) A) Q := h
    rw [isN_rep rd] at h2
    exact ⟨rfl, post_val hA h2 (.bl _)⟩
  | _ => exact h.elim

/-! ### equality -/
theorem allSome_get {α : Type} : ∀ {l : List (Option α)} {r : List α}, allSome l = some r → l = r.map some
  | [], r, h => by cases h; rfl
  | some a :: l, r, h => by
    have h' : (allSome l).map (a :: ·) = some r := h
    obtain ⟨r', e1, e2⟩ := Option.map_eq_some_iff.mp h'
    subst e2
    rw [allSome_get e1, List.map_cons]
  | none :: l, r, h => by cases h
theorem canLayAll_of {ps : List PyData} (h : ∀ p ∈ ps, p.canLay0 = true) : PyData.canLayAll0 ps = true := by
  induction ps with
  | nil => simp [PyData.canLayAll0]
  | cons p ps ih => simp [PyData.canLayAll0, h p List.mem_cons_self, ih fun q hq => h q (List.mem_cons_of_mem _ hq)]
theorem toPy_lay {A : AH} : ∀ {n : Nat} {d : D} {p : PyData}, toPy A n d = some p → p.canLay0 = true
  | 0, _, _, h => by simp [toPy] at h
  | n + 1, .non, p, h => by simp [toPy] at h; subst h; simp [PyData.canLay0]
  | n + 1, .bl b, p, h => by simp [toPy] at h; subst h; simp [PyData.canLay0]
  | n + 1, .int i, p, h => by simp [toPy] at h; subst h; simp [PyData.canLay0]
  | n + 1, .str x, p, h => by
    simp only [toPy] at h
    split at h
    · rename_i q; cases h; exact q
    · cases h
  | n + 1, .tup ds, p, h => by
    simp only [toPy] at h
    obtain ⟨ps, e1, e2⟩ := Option.map_eq_some_iff.mp h
    subst e2
    have q := allSome_get e1
    simp only [PyData.canLay0]
    refine canLayAll_of fun z hz => ?_
    have : some z ∈ ds.map (toPy A n) := by rw [q]; exact List.mem_map_of_mem hz
    obtain ⟨d, _, hd⟩ := List.mem_map.mp this
    exact toPy_lay hd
  | n + 1, .ref i, p, h => by
    simp only [toPy] at h
    cases e : seqAt A i with
    | none => rw [e] at h; cases h
    | some ds =>
      rw [e] at h
      obtain ⟨ps, e1, e2⟩ := Option.map_eq_some_iff.mp h
      subst e2
      have q := allSome_get e1
      simp only [PyData.canLay0]
      refine canLayAll_of fun z hz => ?_
      have : some z ∈ ds.map (toPy A n) := by rw [q]; exact List.mem_map_of_mem hz
      obtain ⟨d, _, hd⟩ := List.mem_map.mp this
      exact toPy_lay hd
theorem depthAll_of {n : Nat} {ps : List PyData} (h : ∀ p ∈ ps, p.depth ≤ n) : PyData.depthAll ps ≤ n := by
  induction ps with
  | nil => simp [PyData.depthAll]
  | cons p ps ih =>
    simp only [PyData.depthAll]
    exact Nat.max_le.mpr ⟨h p List.mem_cons_self, ih fun q hq => h q (List.mem_cons_of_mem _ hq)⟩
theorem toPy_depth {A : AH} : ∀ {n : Nat} {d : D} {p : PyData}, toPy A n d = some p → p.depth ≤ n
  | 0, _, _, h => by simp [toPy] at h
  | n + 1, .non, p, h => by simp [toPy] at h; subst h; simp [PyData.depth]
  | n + 1, .bl b, p, h => by simp [toPy] at h; subst h; simp [PyData.depth]
  | n + 1, .int i, p, h => by simp [toPy] at h; subst h; simp [PyData.depth]
  | n + 1, .str x, p, h => by
    simp only [toPy] at h
    split at h
    · cases h; simp [PyData.depth]
    · cases h
  | n + 1, .tup ds, p, h => by
    simp only [toPy] at h
    obtain ⟨ps, e1, e2⟩ := Option.map_eq_some_iff.mp h
    subst e2
    have q := allSome_get e1
    simp only [PyData.depth]
    refine Nat.succ_le_succ (depthAll_of fun z hz => ?_)
    have : some z ∈ ds.map (toPy A n) := by rw [q]; exact List.mem_map_of_mem hz
    obtain ⟨d, _, hd⟩ := List.mem_map.mp this
    exact toPy_depth hd
  | n + 1, .ref i, p, h => by
    simp only [toPy] at h
    cases e : seqAt A i with
    | none => rw [e] at h; cases h
    | some ds =>
      rw [e] at h
      obtain ⟨ps, e1, e2⟩ := Option.map_eq_some_iff.mp h
      subst e2
      have q := allSome_get e1
      simp only [PyData.depth]
      refine Nat.succ_le_succ (depthAll_of fun z hz => ?_)
      have : some z ∈ ds.map (toPy A n) := by rw [q]; exact List.mem_map_of_mem hz
      obtain ⟨d, _, hd⟩ := List.mem_map.mp this
      exact toPy_depth hd
theorem toPy_shaped {A : AH} {d : D} {p : PyData} (h : toPy A 60 d = some p) : SeqAt.shaped p = true := by
  unfold SeqAt.shaped
  rw [toPy_lay h, decide_eq_true (Nat.le_trans (toPy_depth h) (by decide))]
  rfl
theorem toPy_dpAll {K : PySem.W.Frag} {ρ : Nat → Addr} {A : AH} {H : Hp} {n : Nat} (f : ∀ (d : D) (v : V) (p : PyData), toPy A n d = some p → RepV ρ A.length H d v → Dp K H v p) : ∀ {ds : List D} {vs : List V} {ps : List PyData}, allSome (ds.map (toPy A n)) = some ps → RepVs ρ A.length H ds vs → DpAll K H vs ps
  | [], _, ps, h, .nil => by
    have e : ps = [] := by simpa [allSome] using h.symm
    subst e
    exact .nil
  | d :: ds, _, ps, h, .cons a b => by
    have q := allSome_get h
    cases ps with
    | nil => cases q
    | cons p ps =>
      rw [List.map_cons, List.map_cons] at q
      injection q with q1 q2
      refine .cons (f d _ p q1 a) (toPy_dpAll f (ds := ds) ?_ b)
      rw [List.map_cons, q1] at h
      obtain ⟨r, e1, e2⟩ := Option.map_eq_some_iff.mp (show (allSome (ds.map (toPy A n))).map (p :: ·) = some (p :: ps) from h)
      injection e2 with _ e3
      rw [e1, e3]
theorem toPy_dp {K : PySem.W.Frag} {ρ : Nat → Addr} {A : AH} {H : Hp} (hA : RepA K ρ H A) : ∀ (n : Nat) (d : D) (v : V) (p : PyData), toPy A n d = some p → RepV ρ A.length H d v → Dp K H v p
  | 0, _, _, _, h, _ => by simp [toPy] at h
  | n + 1, .non, _, p, h, .non => by simp [toPy] at h; subst h; exact .non
  | n + 1, .bl b, _, p, h, .bl _ => by simp [toPy] at h; subst h; exact .bl b
  | n + 1, .int i, _, p, h, .int _ => by simp [toPy] at h; subst h; exact .int i
  | n + 1, .str x, _, p, h, .str _ => by
    simp only [toPy] at h
    split at h
    · cases h; exact .str x
    · cases h
  | n + 1, .tup ds, _, p, h, .tup q1 q2 => by
    simp only [toPy] at h
    obtain ⟨ps, e1, e2⟩ := Option.map_eq_some_iff.mp h
    subst e2
    exact .tup (SqT.of q1) (toPy_dpAll (fun d v p => toPy_dp hA n d v p) e1 q2)
  | n + 1, .ref i, _, p, h, .ref hi => by
    simp only [toPy] at h
    cases e : seqAt A i with
    | none => rw [e] at h; cases h
    | some ds =>
      rw [e] at h
      obtain ⟨ps, e1, e2⟩ := Option.map_eq_some_iff.mp h
      subst e2
      obtain ⟨vs, q1, q2⟩ := hA.seq e
      exact .lst q1 (toPy_dpAll (fun d v p => toPy_dp hA n d v p) e1 q2)
theorem ok_eq : Ok2 X.K (rEqD X.K) opEq := fun W ρ A σ H d e v u Q hA rd re h => by
  have h2 : Post X.K W RepV ρ A σ H (eqO A id (toPy A 60 d) (toPy A 60 e)) Q := h
  cases e1 : toPy A 60 d with
  | none => rw [e1] at h2; exact h2.elim
  | some p => cases e2 : toPy A 60 e with
    | none => rw [e1, e2] at h2; exact h2.elim
    | some q =>
      rw [e1, e2] at h2
      exact ⟨p, q, toPy_dp hA 60 d v p e1 rd, toPy_dp hA 60 e u q e2 re, toPy_shaped e1, toPy_shaped e2, post_val hA h2 (.bl _)⟩
theorem ok_ne : Ok2 X.K (rNeD X.K) opNe := fun W ρ A σ H d e v u Q hA rd re h => by
  have h2 : Post X.K W RepV ρ A σ H (eqO A not (toPy A 60 d) (toPy A 60 e)) Q := h
  cases e1 : toPy A 60 d with
  | none => rw [e1] at h2; exact h2.elim
  | some p => cases e2 : toPy A 60 e with
    | none => rw [e1, e2] at h2; exact h2.elim
    | some q =>
      rw [e1, e2] at h2
      exact ⟨p, q, toPy_dp hA 60 d v p e1 rd, toPy_dp hA 60 e u q e2 re, toPy_shaped e1, toPy_shaped e2, post_val hA h2 (.bl _)⟩

/-! ### items, slices -/
theorem at_rep {ρ : Nat → Addr} {n : Nat} {H : Hp} {ds : List D} {vs : List V} {i : Int} {d : D} (r : RepVs ρ n H ds vs) (h : atD ds i = some d) : ∃ v, atI vs i = some v ∧ RepV ρ n H d v := by
  unfold atD at h
  obtain ⟨j, e1, e2⟩ := Option.bind_eq_some_iff.mp h
  obtain ⟨v, q1, q2⟩ := r.get e2
  refine ⟨v, ?_, q2⟩
  unfold atI
  rw [← r.len, show ixN ds.length i = some j from e1]
  exact q1
theorem ok_ix : Ok2 X.K (rIx X.K) opIx := fun W ρ A σ H d e v u Q hA rd re h => by
  cases rd with
  | @tup a vs xs q1 q2 => cases re with
    | int i =>
      have h2 : Post X.K W RepV ρ A σ H (okO A (atD xs i)) Q := h
      cases z : atD xs i with
      | none => rw [z] at h2; exact h2.elim
      | some c =>
        rw [z] at h2
        obtain ⟨w, w1, w2⟩ := at_rep q2 z
        exact .inr (.inl ⟨a, vs, i, w, rfl, rfl, SqT.of q1, w1, post_val hA h2 w2⟩)
    | _ => exact h.elim
  | @ref j hj => cases re with
    | int i =>
      have h2 : Post X.K W RepV ρ A σ H (atS A i (seqAt A j)) Q := h
      cases y : seqAt A j with
      | none => rw [y] at h2; exact h2.elim
      | some xs =>
        rw [y] at h2
        have h3 : Post X.K W RepV ρ A σ H (okO A (atD xs i)) Q := h2
        obtain ⟨vs, q1, q2⟩ := hA.seq y
        cases z : atD xs i with
        | none => rw [z] at h3; exact h3.elim
        | some c =>
          rw [z] at h3
          obtain ⟨w, w1, w2⟩ := at_rep q2 z
          exact .inl ⟨ρ j, vs, i, w, rfl, rfl, q1, w1, post_val hA h3 w2⟩
    | _ => exact h.elim
  | _ => cases re <;> exact h.elim
theorem ok_set : OkSt X.K rSetL stIx := fun ρ A H x y d u v w B Q hA rx ry rd e hq => by
  cases rx with
  | @ref i hi => cases ry with
    | int j =>
      have e' : setO i j d A A[i]? = some B := e
      cases z : A[i]? with
      | none => rw [z] at e'; cases e'
      | some o =>
        rw [z] at e'
        cases o with
        | lst ds =>
          obtain ⟨k, e1, e2⟩ := Option.map_eq_some_iff.mp (show (ixD ds.length j).map (fun k => A.set i (.lst (ds.set k d))) = some B from e')
          subst e2
          obtain ⟨vs, q1, q2⟩ := lst_at hA z
          exact ⟨ρ i, vs, j, k, rfl, rfl, q1, by rw [← q2.len]; exact e1, hq _ (Nxt.set hA z rfl rfl fun ex => ⟨_, upd_same, (q2.set rd k).ext ex⟩)⟩
        | _ => cases e'
    | _ => cases e
  | _ => cases ry <;> cases e
theorem sIx_eq (n d : Nat) (o : Option Int) : sIxD n d o = HT.sIx n d o := by cases o <;> rfl
theorem cut_rep {ρ : Nat → Addr} {n : Nat} {H : Hp} {ds : List D} {vs : List V} {lo hi : Option Int} (r : RepVs ρ n H ds vs) : RepVs ρ n H (cutD ds lo hi) (cutV vs lo hi) := by
  unfold cutD cutV
  rw [r.len, sIx_eq, sIx_eq]
  exact (r.drop _).take _
theorem cutV_whole {vs : List V} {lo hi : Option Int} (h : HT.sIx vs.length 0 lo = 0 ∧ HT.sIx vs.length vs.length hi = vs.length) : cutV vs lo hi = vs := by
  unfold cutV
  rw [h.1, h.2, List.drop_zero, Nat.sub_zero, List.take_length]
/-- what a slice's part is -/
def relP : (Nat → Addr) → Nat → Hp → Option Int → Option Int → Prop := fun _ _ _ a b => a = b
def tP (K : PySem.W.Frag) (W : WX) (m : Px) : TO := fun σ H Q => ∃ ρ E A, RepE ρ A.length H E σ ∧ RepA K ρ H A ∧ Post K W relP ρ A σ H (m E A) Q
def RP (X : Cx) (W : WX) (e : Option Expr) (m : Px) : Prop := PO X e (tP X.K W m)
theorem PO.imp {e : Option Expr} {t t' : TO} (h : PO X e t) (hh : ∀ σ H Q, t' σ H Q → t σ H Q) : PO X e t' := ⟨fun pins s σ H Q I q => h.run pins s σ H Q I (hh σ H Q q)⟩
variable {W : WX} {pos p2 : Pos} {e : Expr} {me : Ex}
theorem rp_none : RP X W none pNone := PO.imp po_none fun σ H Q ⟨ρ, E, A, hE, hA, h⟩ => h ρ none H (.refl hA) rfl
theorem rp_some (he : RE X W e me) : RP X W (some e) (pSome me) := PO.imp (po_some he) fun σ H Q ⟨ρ, E, A, hE, hA, h⟩ => ⟨ρ, E, A, hE, hA, Post.bind h fun ρ1 d B v H1 n1 r1 h1 => by
  cases r1 with
  | int i => exact ⟨i, rfl, h1 ρ1 _ H1 (.refl n1.rep) rfl⟩
  | _ => exact h1.elim⟩
theorem re_sl {lo hi : Option Expr} {ml mh : Px} (he : RE X W e me) (hl : RP X W lo ml) (hh : RP X W hi mh) : RE X W (.Subscript e (.Slice lo hi none p2) pos) (eSl me ml mh) := by
  refine PE.imp (pe_slice (SlR.or sl_tupA sl_list) he hl hh) fun σ H Q ⟨ρ, E, A, hE, hA, h⟩ => ⟨ρ, E, A, hE, hA, Post.bind h fun ρ1 d B v H1 n1 r1 h1 => ?_⟩
  refine ⟨ρ1, E, B, hE.ext n1.ext, n1.rep, Post.bind h1 fun ρ2 l C l' H2 n2 r2 h2 => ?_⟩
  have r2' : l = l' := r2
  subst r2'
  refine ⟨ρ2, E, C, hE.ext (n1.ext.trans n2.ext), n2.rep, Post.bind h2 fun ρ3 u G u' H3 n3 r3 h3 => ?_⟩
  have r3' : u = u' := r3
  subst r3'
  have h4 : Post X.K W RepV ρ3 G σ H3 (opSl l u G d) Q := h3
  cases r1.ext (n2.ext.trans n3.ext) with
  | @tup a vs ds q1 q2 =>
    refine .inl ⟨a, vs, rfl, SqT.of q1, fun z => post_val n3.rep h4 (.tup q1 ?_), fun _ p hp => post_tup n3.rep h4 (cut_rep q2) hp⟩
    have q := cut_rep (lo := l) (hi := u) q2
    rw [cutV_whole z] at q
    exact q
  | @ref i hi =>
    have h5 : Post X.K W RepV ρ3 G σ H3 (cutS G l u (seqAt G i)) Q := h4
    cases z : seqAt G i with
    | none => rw [z] at h5; exact h5.elim
    | some ds =>
      rw [z] at h5
      obtain ⟨vs, q1, q2⟩ := n3.rep.seq z
      exact .inr ⟨ρ3 i, vs, rfl, q1, fun p hp => post_lst n3.rep h5 (cut_rep q2) hp⟩
  | _ => exact h4.elim
/-! ### built-in functions -/
theorem one_of {K : PySem.W.Frag} {W : WX} {ρ : Nat → Addr} {A : AH} {σ : Sl} {H : Hp} {Q : VK} {F : Fn} {ds : List D} {vs : List V} (h1 : ∀ A, F [] A = .bad) (h2 : ∀ d e r A, F (d :: e :: r) A = .bad) (r : RepVs ρ A.length H ds vs) (h : Post K W RepV ρ A σ H (F ds A) Q) : ∃ d v, ds = [d] ∧ vs = [v] ∧ RepV ρ A.length H d v := by
  cases r with
  | nil => rw [h1] at h; exact h.elim
  | cons a b => cases b with
    | nil => exact ⟨_, _, rfl, rfl, a⟩
    | cons _ _ => rw [h2] at h; exact h.elim
theorem ok_len : OkL X.K (fun xs H Q => ∃ p ys, xs = [.ref p] ∧ (SqL X.K H p ys ∨ SqT X.K H p ys) ∧ Q (.int ys.length) H) biLen := fun W ρ A σ H ds vs Q hA r h => by
  obtain ⟨d, v, e1, e2, rd⟩ := one_of (F := biLen) (fun _ => rfl) (fun d e r A => by cases d <;> rfl) r h
  subst e1 e2
  cases rd with
  | @tup a vs xs q1 q2 =>
    have h2 : Post X.K W RepV ρ A σ H (.ok (.int xs.length) A) Q := h
    rw [q2.len] at h2
    exact ⟨a, vs, rfl, .inr (SqT.of q1), post_val hA h2 (.int _)⟩
  | @ref i hi =>
    have h2 : Post X.K W RepV ρ A σ H (lenS A A[i]?) Q := h
    have key : ∀ xs, seqAt A i = some xs → Post X.K W RepV ρ A σ H (.ok (.int xs.length) A) Q → ∃ p ys, [V.ref (ρ i)] = [.ref p] ∧ (SqL X.K H p ys ∨ SqT X.K H p ys) ∧ Q (.int ys.length) H := fun xs z h3 => by
      obtain ⟨us, q1, q2⟩ := hA.seq z
      rw [q2.len] at h3
      exact ⟨ρ i, us, rfl, .inl q1, post_val hA h3 (.int _)⟩
    cases z : A[i]? with
    | none => rw [z] at h2; exact h2.elim
    | some o =>
      rw [z] at h2
      cases o with
      | lst xs => exact key xs (by unfold seqAt; rw [z]; rfl) h2
      | rol xs => exact key xs (by unfold seqAt; rw [z]; rfl) h2
      | _ => exact h2.elim
  | _ => exact h.elim
theorem ok_list : OkL X.K (fun xs H Q => ∃ p ys, xs = [.ref p] ∧ (SqL X.K H p ys ∨ SqT X.K H p ys) ∧ ∀ l, H l = none → Q (.ref l) (upd H l (.lst ys))) biList := fun W ρ A σ H ds vs Q hA r h => by
  obtain ⟨d, v, e1, e2, rd⟩ := one_of (F := biList) (fun _ => rfl) (fun d e r A => by cases d <;> rfl) r h
  subst e1 e2
  cases rd with
  | @tup a vs xs q1 q2 => exact ⟨a, vs, rfl, .inr (SqT.of q1), fun l hl => post_lst hA h q2 hl⟩
  | @ref i hi =>
    have h2 : Post X.K W RepV ρ A σ H (toLst A (seqAt A i)) Q := h
    cases z : seqAt A i with
    | none => rw [z] at h2; exact h2.elim
    | some xs =>
      rw [z] at h2
      obtain ⟨us, q1, q2⟩ := hA.seq z
      exact ⟨ρ i, us, rfl, .inl q1, fun l hl => post_lst hA h2 q2 hl⟩
  | _ => exact h.elim
theorem ok_tuple : OkL X.K (fun xs H Q => ∃ p ys, xs = [.ref p] ∧ ((SqL X.K H p ys ∧ ∀ l, H l = none → Q (.ref l) (upd H l (.tup ys))) ∨ (SqT X.K H p ys ∧ Q (.ref p) H))) biTuple := fun W ρ A σ H ds vs Q hA r h => by
  obtain ⟨d, v, e1, e2, rd⟩ := one_of (F := biTuple) (fun _ => rfl) (fun d e r A => by cases d <;> rfl) r h
  subst e1 e2
  cases rd with
  | @tup a vs xs q1 q2 => exact ⟨a, vs, rfl, .inr ⟨SqT.of q1, post_val hA h (.tup q1 q2)⟩⟩
  | @ref i hi =>
    have h2 : Post X.K W RepV ρ A σ H (toTup A (seqAt A i)) Q := h
    cases z : seqAt A i with
    | none => rw [z] at h2; exact h2.elim
    | some xs =>
      rw [z] at h2
      obtain ⟨us, q1, q2⟩ := hA.seq z
      exact ⟨ρ i, us, rfl, .inl ⟨q1, fun l hl => post_tup hA h2 q2 hl⟩⟩
  | _ => exact h.elim
theorem ok_int : OkL X.K (fun xs H Q => (∃ i, xs = [V.int i] ∧ Q (.int i) H) ∨ ∃ k, xs = [V.bl k] ∧ Q (.int (if k then 1 else 0)) H) biInt := fun W ρ A σ H ds vs Q hA r h => by
  obtain ⟨d, v, e1, e2, rd⟩ := one_of (F := biInt) (fun _ => rfl) (fun d e r A => by cases d <;> rfl) r h
  subst e1 e2
  cases rd with
  | int i => exact .inl ⟨i, rfl, post_val hA h (.int _)⟩
  | bl b => exact .inr ⟨b, rfl, post_val hA h (.int _)⟩
  | _ => exact h.elim
theorem ok_abs : OkL X.K (fun xs H Q => ∃ i, xs = [V.int i] ∧ Q (.int (if i < 0 then -i else i)) H) biAbs := fun W ρ A σ H ds vs Q hA r h => by
  obtain ⟨d, v, e1, e2, rd⟩ := one_of (F := biAbs) (fun _ => rfl) (fun d e r A => by cases d <;> rfl) r h
  subst e1 e2
  cases rd with
  | int i => exact ⟨i, rfl, post_val hA h (.int _)⟩
  | _ => exact h.elim
theorem ints_repm {ρ : Nat → Addr} {n : Nat} {H : Hp} : ∀ {ds : List D} {vs : List V} {ns : List Int}, ds.map D.int? = ns.map some → RepVs ρ n H ds vs → vs = ns.map V.int
  | [], _, ns, q, .nil => by
    cases ns with
    | nil => rfl
    | cons _ _ => cases q
  | d :: ds, _, ns, q, .cons a b => by
    cases ns with
    | nil => cases q
    | cons c cs =>
      rw [List.map_cons, List.map_cons] at q
      injection q with q1 q2
      rw [ints_repm q2 b, List.map_cons]
      cases a <;> cases q1
      rfl
theorem ints_rep {ρ : Nat → Addr} {n : Nat} {H : Hp} {ds : List D} {vs : List V} {ns : List Int} (h : intsOf ds = some ns) (r : RepVs ρ n H ds vs) : vs = ns.map V.int := ints_repm (allSome_get h) r
theorem bls_rep {ρ : Nat → Addr} {n : Nat} {H : Hp} : ∀ {ds : List D} {vs : List V} {bs : List Bool}, ds.map D.bl? = bs.map some → RepVs ρ n H ds vs → vs = bs.map V.bl
  | [], _, bs, q, .nil => by
    cases bs with
    | nil => rfl
    | cons _ _ => cases q
  | d :: ds, _, bs, q, .cons a b => by
    cases bs with
    | nil => cases q
    | cons c cs =>
      rw [List.map_cons, List.map_cons] at q
      injection q with q1 q2
      rw [bls_rep q2 b, List.map_cons]
      cases a <;> cases q1
      rfl
theorem maxI_ge (m : Int) : ∀ ns : List Int, m ≤ maxI m ns ∧ ∀ y ∈ ns, y ≤ maxI m ns := by
  intro ns
  induction ns generalizing m with
  | nil => exact ⟨Int.le_refl _, fun _ h => by cases h⟩
  | cons n ns ih =>
    obtain ⟨h1, h2⟩ := ih (max m n)
    refine ⟨Int.le_trans (Int.le_max_left m n) h1, fun y hy => ?_⟩
    rcases List.mem_cons.mp hy with e | hy
    · subst e; exact Int.le_trans (Int.le_max_right m y) h1
    · exact h2 y hy
theorem maxI_mem (m : Int) : ∀ ns : List Int, maxI m ns = m ∨ maxI m ns ∈ ns := by
  intro ns
  induction ns generalizing m with
  | nil => exact .inl rfl
  | cons n ns ih =>
    rcases ih (max m n) with e | e
    · have e' : maxI m (n :: ns) = max m n := e
      rw [e']
      by_cases z : m ≤ n
      · rw [Int.max_eq_right z]; exact .inr List.mem_cons_self
      · rw [Int.max_eq_left (by omega)]; exact .inl rfl
    · exact .inr (List.mem_cons_of_mem _ e)
theorem ok_max : OkL X.K (rMax X.K) biMax := fun W ρ A σ H ds vs Q hA r h => by
  obtain ⟨d, v, e1, e2, rd⟩ := one_of (F := biMax) (fun _ => rfl) (fun d e r A => by cases d <;> rfl) r h
  subst e1 e2
  cases rd with
  | @ref i hi =>
    have h2 : Post X.K W RepV ρ A σ H (maxO A ((seqAt A i).bind intsOf)) Q := h
    cases z : seqAt A i with
    | none => rw [z] at h2; exact h2.elim
    | some xs =>
      rw [z] at h2
      have h3 : Post X.K W RepV ρ A σ H (maxO A (intsOf xs)) Q := h2
      obtain ⟨us, q1, q2⟩ := hA.seq z
      cases y : intsOf xs with
      | none => rw [y] at h3; exact h3.elim
      | some ns =>
        rw [y] at h3
        cases ns with
        | nil => exact h3.elim
        | cons n ns =>
          rw [ints_rep y q2] at q1
          have q := post_val hA (show Post X.K W RepV ρ A σ H (.ok (.int (maxI n ns)) A) Q from h3) (.int _)
          refine ⟨ρ i, n :: ns, rfl, q1, Nat.succ_pos _, fun m hm hle => ?_⟩
          have e : m = maxI n ns := by
            have a1 := maxI_ge n ns
            have b1 : m ≤ maxI n ns := by
              rcases List.mem_cons.mp hm with e | e
              · rw [e]; exact a1.1
              · exact a1.2 m e
            have b2 : maxI n ns ≤ m := by
              rcases maxI_mem n ns with e | e
              · rw [e]; exact hle n List.mem_cons_self
              · exact hle _ (List.mem_cons_of_mem _ e)
            omega
          rw [e]
          exact q
  | _ => exact h.elim
theorem ok_all : OkL X.K (rAll X.K) biAll := fun W ρ A σ H ds vs Q hA r h => by
  obtain ⟨d, v, e1, e2, rd⟩ := one_of (F := biAll) (fun _ => rfl) (fun d e r A => by cases d <;> rfl) r h
  subst e1 e2
  cases rd with
  | @ref i hi =>
    have h2 : Post X.K W RepV ρ A σ H (allO A ((seqAt A i).bind blsOf)) Q := h
    cases z : seqAt A i with
    | none => rw [z] at h2; exact h2.elim
    | some xs =>
      rw [z] at h2
      have h3 : Post X.K W RepV ρ A σ H (allO A (blsOf xs)) Q := h2
      obtain ⟨us, q1, q2⟩ := hA.seq z
      cases y : blsOf xs with
      | none => rw [y] at h3; exact h3.elim
      | some bs =>
        rw [y] at h3
        rw [bls_rep (allSome_get y) q2] at q1
        exact ⟨ρ i, bs, rfl, q1, post_val hA h3 (.bl _)⟩
  | _ => exact h.elim
theorem ok_any : OkL X.K (rAny X.K) biAny := fun W ρ A σ H ds vs Q hA r h => by
  obtain ⟨d, v, e1, e2, rd⟩ := one_of (F := biAny) (fun _ => rfl) (fun d e r A => by cases d <;> rfl) r h
  subst e1 e2
  cases rd with
  | @ref i hi =>
    have h2 : Post X.K W RepV ρ A σ H (anyO A ((seqAt A i).bind blsOf)) Q := h
    cases z : seqAt A i with
    | none => rw [z] at h2; exact h2.elim
    | some xs =>
      rw [z] at h2
      have h3 : Post X.K W RepV ρ A σ H (anyO A (blsOf xs)) Q := h2
      obtain ⟨us, q1, q2⟩ := hA.seq z
      cases y : blsOf xs with
      | none => rw [y] at h3; exact h3.elim
      | some bs =>
        rw [y] at h3
        rw [bls_rep (allSome_get y) q2] at q1
        exact ⟨ρ i, bs, rfl, q1, post_val hA h3 (.bl _)⟩
  | _ => exact h.elim
theorem ok_sum : OkL X.K (rSum X.K) biSum := fun W ρ A σ H ds vs Q hA r h => by
  obtain ⟨d, v, e1, e2, rd⟩ := one_of (F := biSum) (fun _ => rfl) (fun d e r A => by cases d <;> rfl) r h
  subst e1 e2
  cases rd with
  | @ref i hi =>
    have h2 : Post X.K W RepV ρ A σ H (sumO A ((seqAt A i).bind intsOf)) Q := h
    cases z : seqAt A i with
    | none => rw [z] at h2; exact h2.elim
    | some xs =>
      rw [z] at h2
      have h3 : Post X.K W RepV ρ A σ H (sumO A (intsOf xs)) Q := h2
      obtain ⟨us, q1, q2⟩ := hA.seq z
      cases y : intsOf xs with
      | none => rw [y] at h3; exact h3.elim
      | some ns =>
        rw [y] at h3
        rw [ints_rep y q2] at q1
        exact ⟨ρ i, ns, rfl, q1, post_val hA h3 (.int _)⟩
  | _ => exact h.elim
end
end DL
set_option Elab.async false
set_option linter.all false
set_option maxRecDepth 100000
set_option maxHeartbeats 4000000
/-! Further constructs (own work). -/
namespace DL
open PySem PySem.Spec PyProof.Rows L2
section
variable {X : Cx} {W : WX} {k : Nat} {pos p : Pos} {e : Expr} {es : List Expr} {me mo : Ex} {mr : Ax}
/-! ### stars in displays -/
theorem ra_star (he : RE X W e me) (hr : RA X W es mr) (hs : starEach (.Starred e p :: es) X.env = (true, eval e X.env) :: starEach es X.env := by rfl) : RA X W (.Starred e p :: es) (aStar me mr) := by
  refine ⟨fun pos pins s σ H Q I ⟨ρ, E, A, hE, hA, h⟩ => ?_⟩
  have q := he.run pins s σ H _ I ⟨ρ, E, A, hE, hA, Post.bind h fun ρ1 d B v H1 n1 r1 h1 => (⟨ρ1, d, B, n1, r1, h1⟩ : ∃ ρ1 d B, Nxt X.K ρ A H ρ1 B H1 ∧ RepV ρ1 B.length H1 d v ∧ Post X.K W RepVs ρ1 B σ H1 (kStar mr E d B) Q)⟩
  refine PySem.W.items_star (thn q fun u s1 ⟨v, H1, I1, rv, ρ1, d, B, n1, r1, h1⟩ => ?_) hs
  have fin : ∀ (ds : List D) (vs : List V) (us : List Value) (a : Addr) (T : String) (o : Obj) (n : Nat), u = .ref a → T = "list" ∨ T = "tuple" → s1.heap.get? a = some o → o.cls = .type T → o.data = .seq us.toArray n → us.length ≤ sizeLine → Vals vs us → RepVs ρ1 B.length H1 ds vs →
      Post X.K W RepVs ρ1 B σ H1 ((mr E B).bind (kStar2 ds)) Q →
      PySem.W.StarOf (model X.prog X.w) X.A X.xe u (fun here s₂ => wpAny (model X.prog X.w) X.A (spliced (backTo pos (starEach es X.env))) (fun vs s₃ => AP X pins σ Q (here ++ vs) s₃) X.xe s₂) s1 := by
    intro ds vs us a T o n eu hT ho hc hd hz hv rd hp
    subst eu
    have hty : s1.TypeIs (.ref a) T := ⟨o, ho, hc⟩
    have z : wpAny (model X.prog X.w) X.A (collect (.ref a)) (fun here s₂ => wpAny (model X.prog X.w) X.A (spliced (backTo pos (starEach es X.env))) (fun vs s₃ => AP X pins σ Q (here ++ vs) s₃) X.xe s₂) X.xe s1 := by
      refine wpAny_collect_seq a hT ho hc hd (fun h' hk => ?_) (by simpa using hz)
      have I2 : Inv X pins σ H1 { s1 with heap := h' } := I1.kept (t' := s1.toks) hk
      have q2 := hr.run pos pins _ σ H1 _ I2 ⟨ρ1, E, B, hE.ext n1.ext, n1.rep, Post.bind hp fun ρ2 xs C ws H2 n2 r2 h2 => (⟨ρ2, xs, C, n2, r2, h2⟩ : ∃ ρ2 xs C, Nxt X.K ρ1 B H1 ρ2 C H2 ∧ RepVs ρ2 C.length H2 xs ws ∧ Post X.K W RepVs ρ2 C σ H2 (kStar2 ds xs C) Q)⟩
      refine thn q2 fun ws s3 ⟨wv, H2, I3, rw', ρ2, xs, C, n2, r2, h2⟩ => ?_
      exact ⟨vs ++ wv, H2, I3, by simpa using hv.append rw', h2 ρ2 _ H2 (.refl n2.rep) ((rd.ext n2.ext).app r2)⟩
    unfold PySem.W.StarOf notIterableAtAll
    rcases hT with rfl | rfl
    · exact wpAny_bind (wpAny_specialOf hty PySem.F.slot_list_iter.lookup (wpAny_pure ⟨rfl, z⟩))
    · exact wpAny_bind (wpAny_specialOf hty PySem.F.slot_tuple_iter.lookup (wpAny_pure ⟨rfl, z⟩))
  cases r1 with
  | @tup a vs ds q1 q2 =>
    obtain rfl : u = Value.ref a := rv
    obtain ⟨its, r, ⟨o, ho, hc, n, hd⟩, hz⟩ := I1.tuple (SqT.of q1)
    exact fin ds vs its a "tuple" o n rfl (.inr rfl) ho hc hd (by rw [← r.length]; exact hz) r q2 h1
  | @ref i hi =>
    obtain rfl : u = Value.ref (ρ1 i) := rv
    have h2 : Post X.K W RepVs ρ1 B σ H1 ((itemsO B (seqAt B i)).bind (kStar1 mr E)) Q := h1
    cases z : seqAt B i with
    | none => rw [z] at h2; exact h2.elim
    | some ds =>
      rw [z] at h2
      obtain ⟨vs, q1, q2⟩ := n1.rep.seq z
      obtain ⟨its, r, ⟨o, n, ho, hc, _, hd⟩, hz⟩ := I1.list q1
      exact fin ds vs its (ρ1 i) "list" o n rfl (.inl rfl) ho hc hd (by rw [← r.length]; exact hz) r q2 h2
  | _ => exact h1.elim
/-! ### xs[i] op= e -/
theorem get_list : PGet X (rIxL X.K) := by
  intro pins s σ H x y v u Q I rx ry h
  obtain ⟨a, xs, i, z, rfl, rfl, hq, he, q⟩ := h
  cases rx
  obtain ⟨t, rfl⟩ := ry
  obtain ⟨its, r, pl, hz⟩ := I.list hq
  obtain ⟨j, h1, h2, h3, h4, h5⟩ := atI_get he
  obtain ⟨w, ew, rw'⟩ := r.get h2
  have hl := r.length
  have hn := line63
  have fin : EP X pins σ Q w s := ⟨z, H, I, rw', q⟩
  by_cases h0 : 0 ≤ i
  · have hj : i.toNat = j := by
      rw [seqIndex_of h0 h5] at h1
      exact Option.some.inj h1
    exact wpAny_getItem_list pl.isList h0 (by omega) (by rw [hj]; simpa using ew) fin
  · have hj : (i + (its.toArray.size : Int)).toNat = j := by
      rw [seqIndex_neg (by omega) h4] at h1
      rw [List.size_toArray, ← hl]
      exact Option.some.inj h1
    exact wpAny_getItem_list_neg pl.isList (by omega) (by rw [List.size_toArray]; omega) (by omega) (by rw [hj]; simpa using ew) fin
theorem ok_ixL : Ok2 X.K (rIxL X.K) opIxL := fun W ρ A σ H d e v u Q hA rd re h => by
  cases rd with
  | @ref j hj => cases re with
    | int i =>
      have h2 : Post X.K W RepV ρ A σ H (atS A i (seqAt A j)) Q := h
      cases y : seqAt A j with
      | none => rw [y] at h2; exact h2.elim
      | some xs =>
        rw [y] at h2
        have h3 : Post X.K W RepV ρ A σ H (okO A (atD xs i)) Q := h2
        obtain ⟨vs, q1, q2⟩ := hA.seq y
        cases z : atD xs i with
        | none => rw [z] at h3; exact h3.elim
        | some c =>
          rw [z] at h3
          obtain ⟨w, w1, w2⟩ := at_rep q2 z
          exact ⟨ρ j, vs, i, w, rfl, rfl, q1, w1, post_val hA h3 w2⟩
    | _ => exact h.elim
  | _ => cases re <;> exact h.elim
def opAddI : Fn
  | [.int i, .int j], A => .ok (.int (i + j)) A
  | _, _ => .bad
def opSubI : Fn
  | [.int i, .int j], A => .ok (.int (i - j)) A
  | _, _ => .bad
theorem ok_ipadd : OkIp X.K (ipI fun i j => i + j) opAddI := fun W ρ A σ H d e v u Q hA rd re h => by
  cases rd with
  | int i => cases re with
    | int j => exact ⟨i, j, rfl, rfl, post_val hA h (.int _)⟩
    | _ => exact h.elim
  | _ => cases re <;> exact h.elim
theorem ok_ipsub : OkIp X.K (ipI fun i j => i - j) opSubI := fun W ρ A σ H d e v u Q hA rd re h => by
  cases rd with
  | int i => cases re with
    | int j => exact ⟨i, j, rfl, rfl, post_val hA h (.int _)⟩
    | _ => exact h.elim
  | _ => cases re <;> exact h.elim
/-! ### methods of built-in types -/
def kdT : Kd → String
  | .list => "list"
  | .dict => "dict"
  | .str => "str"
theorem kd_ty {K : PySem.W.Frag} {ρ : Nat → Addr} {A : AH} {H : Hp} {t : Kd} {d : D} {v : V} (hA : RepA K ρ H A) (r : RepV ρ A.length H d v) (h : isKd t A d = true) : tyV K (kdT t) v H := by
  cases r with
  | str x => cases t <;> first | rfl | cases h
  | @ref i hi =>
    have h2 : kindO t A[i]? = true := h
    cases z : A[i]? with
    | none => rw [z] at h2; cases t <;> cases h2
    | some o =>
      rw [z] at h2
      cases o with
      | lst ds =>
        cases t with
        | list =>
          obtain ⟨vs, q1, _⟩ := lst_at hA z
          exact .inl ⟨rfl, vs, SqL.of q1⟩
        | _ => cases h2
      | rol ds =>
        cases t with
        | list =>
          obtain ⟨vs, q1, _⟩ := hA.seq (ds := ds) (by unfold seqAt; rw [z]; rfl)
          exact .inl ⟨rfl, vs, q1⟩
        | _ => cases h2
      | dic kvs =>
        cases t with
        | dict =>
          rcases hA.objs i _ z with ⟨gs, q, _⟩ | ⟨gs, q, _⟩
          · exact .inr (.inr (.inl ⟨rfl, .inl ⟨gs, q⟩⟩))
          · exact .inr (.inr (.inl ⟨rfl, .inr ⟨gs, q⟩⟩))
        | _ => cases h2
      | ins _ _ => cases t <;> cases h2
  | _ => cases t <;> cases h
def OkM (K : PySem.W.Frag) (r : V → List V → Hp → VK → Prop) (F : Fn) : Prop := ∀ W ρ A σ H d ds v vs Q, RepA K ρ H A → RepV ρ A.length H d v → RepVs ρ A.length H ds vs → Post K W RepV ρ A σ H (F (d :: ds) A) Q → r v vs H Q
variable {o : Expr} {name : Str} {apos cpos : Pos} {t : Kd} {id : String} {r : V → List V → Hp → VK → Prop} {F : Fn}
theorem bm_of {σ : Sl} {H : Hp} {Q : VK} (hk : OkM X.K r F) (h : tE X.K W (eBM t F mo mr) σ H Q) : tBM X.K (kdT t) r (tE X.K W mo) (tAr X.K W mr) σ H Q := by
  obtain ⟨ρ, E, A, hE, hA, h⟩ := h
  refine ⟨ρ, E, A, hE, hA, Post.bind h fun ρ1 d B v H1 n1 r1 h1 => ?_⟩
  have h2 : Post X.K W RepV ρ1 B σ H1 (if isKd t B d = true then (mr E B).bind (kM2 F d) else .bad) Q := h1
  by_cases z : isKd t B d = true
  · rw [if_pos z] at h2
    refine ⟨kd_ty n1.rep r1 z, ρ1, E, B, hE.ext n1.ext, n1.rep, Post.bind h2 fun ρ2 xs C us H2 n2 r2 h3 => ?_⟩
    exact hk W ρ2 C σ H2 d xs v us Q n2.rep (r1.ext n2.ext) r2 h3
  · rw [if_neg z] at h2
    exact h2.elim
theorem re_bm (pa : PlainAttrs (kdT t)) (slot : Slot (kdT t) name id) (hty : typeOf (.builtin id) = pure (.type "method_descriptor")) (hm : MtR X id r) (hk : OkM X.K r F) (ho : RE X W o mo) (ha : RA X W (e :: es) mr)
    (hbase : attributeBase o name X.env (eval o X.env) = eval o X.env := by rfl)
    (hfew : ((backTo cpos (starEach (e :: es) X.env)).all (fun x => !x.1) && (backToKw cpos (keywordEach [] X.env)).all (fun x => x.1.isSome)
      && decide ((e :: es).length + ([] : List Keyword).length + (if ([] : List Keyword).isEmpty then 0 else 1) < 30)) = true := by rfl)
    (hline : (apos.endLine == cpos.line) = true := by rfl) (hs : starEach (e :: es) X.env = (false, eval e X.env) :: starEach es X.env := by rfl) (hplain : (backTo cpos (starEach es X.env)).any (·.1) = false := by rfl) :
    RE X W (.Call (.Attribute o name apos) (e :: es) [] cpos) (eBM t F mo mr) :=
  PE.imp (pe_bm pa slot hty hm ho ha hbase hfew hline hs hplain) fun σ H Q h => bm_of hk h
theorem re_bm0 (pa : PlainAttrs (kdT t)) (slot : Slot (kdT t) name id) (hty : typeOf (.builtin id) = pure (.type "method_descriptor")) (hm : MtR X id r) (hk : OkM X.K r F) (ho : RE X W o mo)
    (hbase : attributeBase o name X.env (eval o X.env) = eval o X.env := by rfl) (hline : (apos.endLine == cpos.line) = true := by rfl) : RE X W (.Call (.Attribute o name apos) [] [] cpos) (eBM t F mo aNil) := by
  refine PE.imp (pe_bm0 pa slot hty hm ho hbase hline) fun σ H Q ⟨ρ, E, A, hE, hA, h⟩ => ⟨ρ, E, A, hE, hA, Post.bind h fun ρ1 d B v H1 n1 r1 h1 => ?_⟩
  have h2 : Post X.K W RepV ρ1 B σ H1 (if isKd t B d = true then F [d] B else .bad) Q := h1
  by_cases z : isKd t B d = true
  · rw [if_pos z] at h2
    exact ⟨kd_ty n1.rep r1 z, hk W ρ1 B σ H1 d [] v [] Q n1.rep r1 .nil h2⟩
  · rw [if_neg z] at h2
    exact h2.elim
theorem post_set {K : PySem.W.Frag} {ρ : Nat → Addr} {A : AH} {H : Hp} {σ : Sl} {Q : VK} {i : Nat} {u u' : O} {ho : HO} {d : D} {v : V} (hA : RepA K ρ H A) (h : Post K W RepV ρ A σ H (.ok d (A.set i u')) Q) (z : A[i]? = some u) (m : u.mut = true) (m' : u'.mut = true) (rd : RepV ρ A.length H d v)
    (new : Ext ρ A.length H ρ A.length (upd H (ρ i) ho) → RepO K ρ A.length (upd H (ρ i) ho) (ρ i) u') : Q v (upd H (ρ i) ho) := by
  have n := Nxt.set hA z m m' new
  exact h ρ v _ n (rd.ext n.ext)
theorem ok_append : OkM X.K rAppend mAppend := fun W ρ A σ H d ds v vs Q hA rd rs h => by
  cases rd with
  | @ref i hi => cases rs with
    | nil => exact h.elim
    | cons r1 r2 => cases r2 with
      | cons _ _ => exact h.elim
      | @nil =>
        rename_i x y
        have h2 : Post X.K W RepV ρ A σ H (appO i x A A[i]?) Q := h
        cases z : A[i]? with
        | none => rw [z] at h2; exact h2.elim
        | some o =>
          rw [z] at h2
          cases o with
          | lst xs =>
            have h3 : Post X.K W RepV ρ A σ H (if xs.length < line then .ok .non (A.set i (.lst (xs ++ [x]))) else .bad) Q := h2
            by_cases q : xs.length < line
            · rw [if_pos q] at h3
              obtain ⟨us, q1, q2⟩ := lst_at hA z
              exact ⟨ρ i, us, y, rfl, rfl, q1, by rw [← q2.len, ← line_eq]; exact q, post_set hA h3 z rfl rfl .non fun ex => ⟨_, upd_same, (q2.app (.cons r1 .nil)).ext ex⟩⟩
            · rw [if_neg q] at h3; exact h3.elim
          | _ => exact h2.elim
  | _ => cases rs with
    | nil => exact h.elim
    | cons r1 r2 => cases r2 <;> exact h.elim
/-! ### isinstance of built-in classes -/
def tyN : Ty → String
  | .int => "int"
  | .bool => "bool"
  | .tuple => "tuple"
  | .list => "list"
  | .str => "str"
theorem re_isi {T : Str} {p p2 : Pos} (t : Ty) (hg : Gl X "isinstance") (hm : X.mg "isinstance" = none) (hg2 : Gl X T) (hm2 : X.mg T = none) (hT : bootBuiltins T = some (.type (tyN t))) (he : RE X W e me) (hn : T ≠ "__name__" := by decide) (hdb : (T == ("__debug__" : Str)) = false := by decide)
    (hs : starEach (e :: [.Name T p2]) X.env = (false, eval e X.env) :: starEach [.Name T p2] X.env := by rfl) (hs2 : starEach [.Name T p2] X.env = (false, eval (.Name T p2) X.env) :: starEach [] X.env := by rfl) (hpl : (backTo pos (starEach [.Name T p2] X.env)).any (·.1) = false := by rfl) :
    RE X W (.Call (.Name "isinstance" p) [e, .Name T p2] [] pos) (eF (biIsi t) (aCons me aNil)) := by
  refine PE.imp (pe_callB (call_isi) hg hm (by decide +kernel) (pa_cons he (pa_cons (pe_bltn (v := .ty (tyN t)) hg2 hm2 hT rfl hn hdb) pa_nil hs2) hs) (by decide) (by decide) hs hpl) fun σ H Q ⟨ρ, E, A, hE, hA, h⟩ => ?_
  rw [eF1] at h
  refine ⟨ρ, E, A, hE, hA, Post.bind h fun ρ1 d B v H1 n1 r1 h1 => ?_⟩
  have kt : ∀ (a : String) (b : Bool), kitB a (tyN t) = some b → PySem.W.kitOne X.K (.type a) (.type (tyN t)) = some b := fun a b q => kit_ty q
  have go : ∀ (a : String) (b : Bool), TyX X.K H1 v (.type a) → kitB a (tyN t) = some b → Q (.bl b) H1 → rIsi X.K [v, .ty (tyN t)] H1 Q := fun a b ty q hq => ⟨v, .ty (tyN t), .type a, .type (tyN t), b, rfl, .ty _, ty, kt a b q, hq⟩
  show rIsi X.K [v, .ty (tyN t)] H1 Q
  cases r1 with
  | non => exact go "NoneType" false (.base .non) (by cases t <;> decide +kernel) (h1 ρ1 _ H1 (.refl n1.rep) (.bl _))
  | bl b => exact go "bool" t.ofB (.base (.bl b)) (by cases t <;> decide +kernel) (h1 ρ1 _ H1 (.refl n1.rep) (.bl _))
  | int i => exact go "int" t.ofI (.base (.int i)) (by cases t <;> decide +kernel) (h1 ρ1 _ H1 (.refl n1.rep) (.bl _))
  | str z => exact go "str" t.ofS (.base (.str z)) (by cases t <;> decide +kernel) (h1 ρ1 _ H1 (.refl n1.rep) (.bl _))
  | tup q1 q2 => exact go "tuple" t.ofT (.base (.tup q1)) (by cases t <;> decide +kernel) (h1 ρ1 _ H1 (.refl n1.rep) (.bl _))
  | @ref i hi =>
    have h2 : Post X.K W RepV ρ1 B σ H1 (tyO t B B[i]?) Q := h1
    cases z : B[i]? with
    | none => rw [z] at h2; exact h2.elim
    | some o =>
      rw [z] at h2
      cases o with
      | lst ds =>
        obtain ⟨vs, q1, q2⟩ := lst_at n1.rep z
        exact go "list" t.ofL (.base (.lst q1)) (by cases t <;> decide +kernel) (h2 ρ1 _ H1 (.refl n1.rep) (.bl _))
      | _ => exact h2.elim
/-! ### three names at once -/
theorem rs_par3 (cx : Ctx X W k) (i j l : Nat) {x y z : Str} {a b c : Expr} {px py pz pt : Pos} {kt k2 pt2} (ha : RA X W [a, b, c] mr) (hi : X.N[i]? = some x := by rfl) (hj : X.N[j]? = some y := by rfl) (hl : X.N[l]? = some z := by rfl) (hij : i ≠ j := by decide) (hil : i ≠ l := by decide) (hjl : j ≠ l := by decide)
    (hx : X.env.scope.names.lookup x = some .local := by rfl) (hy : X.env.scope.names.lookup y = some .local := by rfl) (hz : X.env.scope.names.lookup z = some .local := by rfl)
    (hw : swappedStores [.Tuple [.Name x px, .Name y py, .Name z pz] kt pt] (.Tuple [a, b, c] k2 pt2) X.env = pure (some [x, y, z]) := by rfl)
    (hs : swapsWithSole [.Tuple [.Name x px, .Name y py, .Name z pz] kt pt] (.Tuple [a, b, c] k2 pt2) pos.line X.env = pure false := by rfl) :
    RS X W (.Assign [.Tuple [.Name x px, .Name y py, .Name z pz] kt pt] (.Tuple [a, b, c] k2 pt2) pos) (sPar3 i j l mr) := by
  refine PS.imp (ps_par3 cx.calm cx.nd hi hj hl hij hil hjl hx hy hz ha hw hs) fun Dn σ H ⟨ρ, E, A, hE, hA, h⟩ => ⟨ρ, E, A, hE, hA, PostS.then hE h fun ρ1 ds B vs H1 n1 r1 h1 => ?_⟩
  cases r1 with
  | nil => exact h1.elim
  | cons r1 r2 => cases r2 with
    | nil => exact h1.elim
    | cons r2 r3 => cases r3 with
      | nil => exact h1.elim
      | cons r3 r4 => cases r4 with
        | nil => exact ⟨_, _, _, rfl, h1 ρ1 _ H1 (.refl n1.rep) ((((hE.ext n1.ext).set i r1).set j r2).set l r3)⟩
        | cons _ _ => exact h1.elim
end
end DL
set_option Elab.async false
set_option linter.all false
set_option maxRecDepth 100000
set_option maxHeartbeats 4000000
/-! New instances; enumerate (own work). -/
namespace DL
open PySem PySem.Spec PyProof.Rows L2
section
variable {X : Cx} {W : WX} {k : Nat} {f : Addr} {ps : List Str} {ds : List Value} {n : Nat} {F : Fn} {x : Str} {p pos : Pos} {e : Expr} {es : List Expr} {mr : Ax} {dd : List D} {dv : List V}
/-- a new instance, its __init__ behind it -/
theorem run_new {C : Nat} {fd : FuncData} (M : Mk X.K (clsA X.K C) f) (G : FnOk X.prog X.w X.K X.mg X.base (L2.CX X.prog X.w) k f fd ps (spD X.K n F)) (hb : Binds X.K fd ps ds) (hr : Room (k + 1) X.A) (tk : Takes X W) (hn : Asks n F) (hd : Vals dv ds) (hD : ∀ ρ n H, RepVs ρ n H dd dv)
    {pins : List (Addr × Obj)} {σ : Sl} {H : Hp} {s : Shared} {Q : VK} {us : List Value} {vs : List V} {ρ : Nat → Addr} {A : AH} {xs : List D} (I : Inv X pins σ H s) (r : Vals vs us) (hA : RepA X.K ρ H A) (hv : RepVs ρ A.length H xs vs)
    (h : Post X.K W RepV ρ A σ H (mkIns C (fun ys B => F (ys ++ dd) B) xs A) Q) : wpAny (model X.prog X.w) X.A (call (.ref (clsA X.K C)) us) (EP X pins σ Q) X.xe s := by
  have hfree1 : H (s.heap.objs.size + 1) = none := I.hok.fresh (Nat.le_succ _)
  have hfree0 : H s.heap.objs.size = none := I.hok.fresh (Nat.le_refl _)
  have I2 := Inv.made (C := clsA X.K C) I
  have n0 : Nxt X.K ρ A H ρ A (upd H s.heap.objs.size (.own (s.heap.objs.size + 1))) := Nxt.same hA (same_upd hfree0)
  have hfree2 : (upd H s.heap.objs.size (.own (s.heap.objs.size + 1))) (s.heap.objs.size + 1) = none := by rw [upd_ne (Nat.succ_ne_self _)]; exact hfree1
  obtain ⟨ρ1, e1, n1⟩ := Nxt.alloc (o := .ins C []) (ho := .ins (clsA X.K C) s.heap.objs.size []) n0.rep hfree2 rfl fun ρ' _ => ⟨_, [], upd_same, .nil⟩
  have n01 := n0.trans n1
  have lA : (A ++ [O.ins C []]).length = A.length + 1 := by rw [List.length_append]; rfl
  have r0 : RepV ρ1 (A ++ [O.ins C []]).length (upd (upd H s.heap.objs.size (.own (s.heap.objs.size + 1))) (s.heap.objs.size + 1) (.ins (clsA X.K C) s.heap.objs.size [])) (.ref A.length) (.ref (s.heap.objs.size + 1)) := by
    rw [← e1]
    exact .ref (by rw [lA]; exact Nat.lt_succ_self _)
  have r1 := RepVs.cons r0 (hv.ext n01.ext)
  have h1 : Post X.K W RepV ρ1 (A ++ [.ins C []]) σ _ ((F (.ref A.length :: xs ++ dd) (A ++ [.ins C []])).bind (kMk A.length)) Q := Post.later h n01
  have r2 : Vals (V.ref (s.heap.objs.size + 1) :: vs ++ dv) (Value.ref (s.heap.objs.size + 1) :: us ++ ds) := Vals.append (Paired.cons rfl r : Vals (V.ref (s.heap.objs.size + 1) :: vs) (Value.ref (s.heap.objs.size + 1) :: us)) hd
  have bad : F (.ref A.length :: xs ++ dd) (A ++ [.ins C []]) ≠ .bad := fun z => by
    rw [z] at h1
    exact h1
  have hl : (V.ref (s.heap.objs.size + 1) :: vs ++ dv).length = n := lenD hn (hD _ _ _) r1 bad
  have hq : spD X.K n F (V.ref (s.heap.objs.size + 1) :: vs ++ dv) (upd (upd H s.heap.objs.size (.own (s.heap.objs.size + 1))) (s.heap.objs.size + 1) (.ins (clsA X.K C) s.heap.objs.size [])) (fun v H2 => v = .non ∧ Q (.ref (s.heap.objs.size + 1)) H2) (WE W σ) := by
    refine ⟨hl, ρ1, .ref A.length :: xs ++ dd, _, r1.app (hD _ _ _), n1.rep, ?_⟩
    cases z : F (.ref A.length :: xs ++ dd) (A ++ [.ins C []]) with
    | ok d B =>
      rw [z] at h1
      intro ρ2 v H2 n2 rv
      cases rv with
      | non =>
        refine ⟨rfl, ?_⟩
        have h3 : Post X.K W RepV ρ1 (A ++ [.ins C []]) σ _ (.ok (.ref A.length) B) Q := h1
        have e2 : ρ2 A.length = s.heap.objs.size + 1 := (n2.ext.same _ (by rw [lA]; exact Nat.lt_succ_self _)).trans e1
        have q := h3 ρ2 (.ref (ρ2 A.length)) H2 n2 (.ref (Nat.lt_of_lt_of_le (by rw [lA]; exact Nat.lt_succ_self _) n2.ext.le))
        rw [e2] at q
        exact q
      | _ => exact (h1 : False).elim
    | exc y B =>
      rw [z] at h1
      exact h1
    | bad => exact absurd z bad
  have hl2 : (Value.ref (s.heap.objs.size + 1) :: us ++ ds).length = ps.length := by rw [← r2.length]; exact G.len _ _ _ _ hq
  refine wpAny_call (make_map (f := f) I.kIn M.makes M.init (beq_iff_eq.mp M.fn) (codeAny_mono (G.run _ X.stack _ _ ⟨Value.ref (s.heap.objs.size + 1) :: us, []⟩ (Value.ref (s.heap.objs.size + 1) :: us ++ ds) _ _ (WE W σ) (hr.make (clsA X.K C) us [])
    (I2.env0.make (clsA X.K C) us []) (hb _ (Value.ref (s.heap.objs.size + 1) :: us) I2.kIn hl2) r2 hq) fun rr s' hq' => ?_))
  cases rr with
  | error ev => exact passAt tk σ pins _ _ ev s' I2 hq'
  | ok fl =>
    cases fl with
    | ret u =>
      obtain ⟨v, H', I3, rv, ev, q3⟩ := I2.after hq'
      subst ev
      exact ⟨rv, ⟨V.ref (s.heap.objs.size + 1), H', I3, rfl, q3⟩⟩
    | _ => exact False.elim hq'
theorem re_make {C : Nat} (M : Mk X.K (clsA X.K C) f) (G : DefOk X.prog X.w X.K X.mg X.base k f ps ds n F) (c : Ctx X W (k + 1)) (hn : Asks n F) (hg : Gl X x) (hm : X.mg x = some (.ref (clsA X.K C))) (hd : Vals dv ds) (hD : ∀ ρ n H, RepVs ρ n H dd dv) (ha : RA X W (e :: es) mr)
    (hdb : (x == ("__debug__" : Str)) = false := by decide) (he : starEach (e :: es) X.env = (false, eval e X.env) :: starEach es X.env := by rfl) (hpl : (backTo pos (starEach es X.env)).any (·.1) = false := by rfl) :
    RE X W (.Call (.Name x p) (e :: es) [] pos) (eF (mkIns C (fun ys B => F (ys ++ dd) B)) mr) := by
  obtain ⟨fd, G1, hb⟩ := G.ex
  refine ⟨fun pins s σ H Q I ⟨ρ, E, A, hE, hA, h⟩ => ?_⟩
  refine wpAny_Call_Name_kw (ld_glob I hg hm ?_ hdb)
  have q := ha.run pos pins s σ H _ I ⟨ρ, E, A, hE, hA, Post.bind h fun ρ1 xs B vs H1 n1 r1 h1 => (⟨ρ1, xs, B, n1.rep, r1, h1⟩ : ∃ ρ1 xs B, RepA X.K ρ1 H1 B ∧ RepVs ρ1 B.length H1 xs vs ∧ Post X.K W RepV ρ1 B σ H1 (mkIns C (fun ys B => F (ys ++ dd) B) xs B) Q)⟩
  refine PySem.W.callWith_K (h₀ := X.base) I.ok.mod.kin M.kp (thn q fun us s1 ⟨vs, H1, I1, rv, ρ1, xs, B, hB, r1, h1⟩ => ⟨I1.kIn, ?_⟩) he hpl
  exact run_new M G1 hb c.room c.tk hn hd hD I1 rv hB r1 h1
theorem re_make0 {C : Nat} (M : Mk X.K (clsA X.K C) f) (G : DefOk X.prog X.w X.K X.mg X.base k f ps ds n F) (c : Ctx X W (k + 1)) (hn : Asks n F) (hg : Gl X x) (hm : X.mg x = some (.ref (clsA X.K C))) (hd : Vals dv ds) (hD : ∀ ρ n H, RepVs ρ n H dd dv)
    (hdb : (x == ("__debug__" : Str)) = false := by decide) : RE X W (.Call (.Name x p) [] [] pos) (eF (mkIns C (fun ys B => F (ys ++ dd) B)) aNil) := by
  obtain ⟨fd, G1, hb⟩ := G.ex
  refine ⟨fun pins s σ H Q I ⟨ρ, E, A, hE, hA, h⟩ => ?_⟩
  refine wpAny_Call_Name_kw (ld_glob I hg hm ?_ hdb)
  exact PySem.W.callWith_K0 I.kIn M.kp (run_new (us := []) (xs := []) M G1 hb c.room c.tk hn hd hD I .nil hA .nil h)
end

/-! ### enumerate -/
theorem meets_enumT {v : Value} {o : Obj} {H : Heap → Prop} (B : Begins v o H) :
    Meets (Builtin.«enumerate.__new__» ⟨[.type "enumerate", v], []⟩) (fun _ R s => H s.heap ∧
      R (.ok (.ret (.ref (s.heap.push o).objs.size))) { s with heap := (s.heap.push o).push { cls := .type "enumerate", data := .fields #[.none, .bool false, .ref s.heap.objs.size, rawInt 0, .none, .none] } }) :=
  .of_wp fun prog w A R s h => by
    obtain ⟨hp, g, d, tk, os⟩ := s
    obtain ⟨h1, h⟩ := h
    have hsub := sub_enumerate
    have q1 : ∀ {A' : Around} {E : Value → Shared → Prop} {Q : Value → Shared → Prop}, Q (.ref hp.objs.size) ⟨hp.push o, g, d, tk, os⟩ → wpAny (model prog w) A' (pyIter v) Q E ⟨hp, g, d, tk, os⟩ :=
      fun q => B.iter prog w _ _ ⟨hp, g, d, tk, os⟩ _ h1 q
    wp_walk using q1
    refine wpAny_stack_any fun st => wpAny_pure ?_
    split
    · rename_i c _ _ _ _ _
      cases (c == Value.type "enumerate") <;> (wp_walk using q1; exact ⟨_, rfl, h⟩)
    · wp_walk using q1
      exact ⟨_, rfl, h⟩
theorem call_enumT {prog : Program} {w : World} {A : Around} {E : Value → Shared → Prop} {s : Shared} {v : Value} {o : Obj} {H : Heap → Prop} {Q : Value → Shared → Prop} (B : Begins v o H) (h1 : H s.heap)
    (h : ∀ h', IsEnum h' (s.heap.objs.size + 1) s.heap.objs.size 0 .none → h'.get? s.heap.objs.size = some o → (∀ b ob, s.heap.get? b = some ob → h'.get? b = some ob) → Q (.ref (s.heap.objs.size + 1)) { s with heap := h' }) :
    wpAny (model prog w) A (call (.type "enumerate") [v]) Q E s := by
  refine callType_new F.called_enumerate (by decide) (F.typeCall_enumerate_1 _) (F.newCall_enumerate_1 _) (fun obj => F.args_object_init_2 obj _) F.entry_enumerate_new (meets_enumT B) ⟨h1, ?_⟩
  have hz : (s.heap.push o).objs.size = s.heap.objs.size + 1 := Heap.size_push ..
  show _ ∧ _
  rw [hz]
  have he : IsEnum ((s.heap.push o).push { cls := .type "enumerate", data := .fields #[.none, .bool false, .ref s.heap.objs.size, rawInt 0, .none, .none] }) (s.heap.objs.size + 1) s.heap.objs.size 0 .none := by
    have z := Heap.get?_push_size (s.heap.push o) (o := { cls := .type "enumerate", data := .fields #[.none, .bool false, .ref s.heap.objs.size, rawInt 0, .none, .none] }) rfl
    rw [hz] at z
    exact z
  exact ⟨⟨_, he, rfl⟩, h _ he (Heap.get?_push_of_some _ (Heap.get?_push_size _ B.free)) fun b ob q => Heap.get?_push_of_some _ (Heap.get?_push_of_some _ q)⟩
/-- the tuple at a, each item in a new pair -/
def ItET (K : PySem.W.Frag) (a : Addr) : It :=
  ⟨fun i H => ∃ (xs : List V) (x : V), SqT K H a xs ∧ xs[i]? = some x, fun i H v H' => ∃ T x, v = .ref T ∧ H T = none ∧ H' = upd H T (.tup [.int (i : Nat), x]) ∧ ∀ xs, SqT K H a xs → xs[i]? = some x, fun i H => ∃ xs : List V, SqT K H a xs ∧ xs.length ≤ i⟩
theorem turn_enumT {P : Program} {w : World} {K : PySem.W.Frag} {elts : List Expr} {kk : Nat} {tpos : Pos} (a e it : Addr) (hea : e ≠ a) (hia : a ≠ it) :
    Turn P w K (.Tuple elts kk tpos) (ItET K a) [e, it] e (fun i h => (∃ old, IsEnum h e it ((i : Nat) : Int) old) ∧ h.IsTupleIter it a i ∧ e ≠ it) where
  mem := List.mem_cons_self
  obj := fun i h st b hb => by
    obtain ⟨⟨old, he⟩, ⟨o, ho, hc, hd⟩, _⟩ := st
    rcases List.mem_cons.mp hb with z | z
    · rw [z]; exact ⟨_, he, fun v q => nomatch q⟩
    · rw [List.mem_singleton.mp z]; exact ⟨o, ho, fun v q => by rw [hd] at q; cases q⟩
  keep := fun i h h' st kp => let ⟨⟨old, he⟩, hi, hne⟩ := st; ⟨⟨old, kp e (by simp) _ he⟩, hi.at fun o q => kp it (by simp) o q, hne⟩
  item := by
    intro X hP hw hK hc i pins s σ H E I hf st hg
    subst hP hw hK
    obtain ⟨⟨old, he⟩, hit, hne⟩ := st
    obtain ⟨xs, x, hq, hx⟩ := hg
    obtain ⟨its, rv, pt, hz⟩ := I.tuple hq
    obtain ⟨u, hu, ru⟩ := rv.get hx
    have hel : e < s.heap.objs.size := Heap.lt_size he
    have hil : it < s.heap.objs.size := by obtain ⟨_, q, _⟩ := hit; exact Heap.lt_size q
    have Dr := Draws.tuple (prog := X.prog) (w := X.w) (A := X.A.in1) (I.ok.hd hc) it a hia its.toArray
    have hlt : i < its.toArray.size := by
      have := (List.getElem?_eq_some_iff.mp hu).1
      simpa using this
    refine wpAny_pyNext_enum_itemD (i := i) Dr he ⟨hit, pt⟩ hlt hne (by simp [hne, hea]) fun y h' tk hy ho hst hT hsz hkp => ?_
    obtain ⟨hit', pt'⟩ := hst
    have ey : y = u := by
      have q : its.toArray[i]? = some u := by simpa using hu
      rw [q] at hy
      exact (Option.some.inj hy).symm
    subst ey
    refine ⟨_, rfl, wpAny_letOwnedTupleGo_enum (s := { s with heap := h', toks := tk + 1 }) ho fun h'' he' sb => ?_⟩
    have hT2 : h''.get? s.heap.objs.size = some { cls := .type "tuple", data := .seq #[.int i tk, y] } := (sb.2 _ (Nat.ne_of_gt hel)).trans hT
    have new : ObjOk X.prog X.w (upd H s.heap.objs.size (.tup [.int (i : Nat), x])) h'' s.heap.objs.size (.tup [.int (i : Nat), x]) :=
      ⟨by show 2 ≤ sizeLine; decide, [.int i tk, y], .cons ⟨_, rfl⟩ (.cons ru .nil), ⟨_, hT2, rfl, _, rfl⟩⟩
    have I1 : Inv X pins σ (upd H s.heap.objs.size (.tup [.int (i : Nat), x])) { s with heap := h'', toks := tk + 1 } :=
      I.turnedNew (ch := [e, it]) (fun b ob hb q => (sb.2 b (fun z => hb (by simp [z]))).trans (hkp b ob (fun z => hb (by simp [z])) (fun z => hb (by simp [z])) q)) hf (Nat.le_refl _) new
    refine ⟨.ref s.heap.objs.size, _, I1, rfl, ⟨_, x, rfl, I.hok.fresh (Nat.le_refl _), rfl, fun ys hy2 => by rw [I.tuple_inj hy2 hq]; exact hx⟩, ⟨⟨y, ?_⟩, hit'.at fun o q => (sb.2 it (Ne.symm hne)).trans q, hne⟩, fun b hb => ?_⟩
    · have e1 : ((i + 1 : Nat) : Int) = (i : Int) + 1 := by omega
      rw [e1]
      exact he'
    · have hb' : b < s.heap.objs.size := by
        rcases List.mem_cons.mp hb with z | z
        · rw [z]; exact hel
        · rw [List.mem_singleton.mp z]; exact hil
      rw [upd_ne (Nat.ne_of_lt hb')]
      exact (hf b hb).1
  done := by
    intro X hP hw hK hc i pins s σ H E I hf st hg
    subst hP hw hK
    obtain ⟨⟨old, he⟩, hit, hne⟩ := st
    obtain ⟨xs, hq, hx⟩ := hg
    obtain ⟨its, rv, pt, hz⟩ := I.tuple hq
    obtain ⟨f0, f1, f2, f3, f4, f5⟩ := hf it (by simp)
    have hl := rv.length
    have hT : s.TypeIs (.ref e) "enumerate" := ⟨_, he, rfl⟩
    unfold pyNext
    refine wpAny_bind (wpAny_attempt (wpAny_callSpecial?_slot (name := Str.ofString "__next__") hT F.slot_enumerate_next (wpAny_call_entry F.slot_enumerate_next hT F.entry_enumerate_next ?_ (F.args_enumerate_next_1 _))))
    show wpAny _ _ (field (.ref e) 2 >>= _) _ _ _
    refine wpAny_bind (wpAny_field he rfl (x := .ref it) rfl ?_)
    refine wpAny_bind (wpAny_nextOf_tuple_end (I.ok.hd hc) hit pt (by simp; omega) fun h' y he' hx' => ?_)
    obtain ⟨o, ho, hc2⟩ := hx'
    refine wpAny_bind (wpAny_isInstance (T := "StopIteration") (b := true) ⟨o, ho, hc2⟩ isSubtype_stop ?_)
    exact wpAny_pure ⟨rfl, I.turned (t' := s.toks) (fun b o hb q => he' b o hb q) f0 f1 f3 f4 f5⟩
  self := fun A i s Q E st h => let ⟨⟨_, he⟩, _⟩ := st; wpAny_pyIter_enum he h

theorem enumD_get {k i : Nat} : ∀ {ds : List D}, (enumD k ds)[i]? = (ds[i]?).map fun d => .tup [.int ((k + i : Nat) : Int), d] := by
  intro ds
  induction ds generalizing k i with
  | nil => unfold enumD; rfl
  | cons d ds ih =>
    unfold enumD
    cases i with
    | zero => rfl
    | succ i =>
      rw [List.getElem?_cons_succ, List.getElem?_cons_succ, ih, Nat.add_right_comm, Nat.add_assoc]
theorem same_new {H : Hp} {T : Addr} {ho : HO} (h : H T = none) : Same H (upd H T ho) := same_upd h
theorem it_enumT {K : PySem.W.Frag} {ρ : Nat → Addr} {A : AH} {H : Hp} {a : Addr} {ds : List D} {vs : List V} (ht : H a = some (.tup vs)) (r : RepVs ρ A.length H ds vs) : ItOk K ρ A H (.seq (enumD 0 ds)) (ItET K a) := fun ρ1 B H1 n i => by
  have t1 : SqT K H1 a vs := SqT.of (n.ext.tups a vs ht)
  have r1 := n.reps r
  show match stepO (enumD 0 ds)[i]? with | .item d => _ | .stop => _ | .bad => _
  rw [enumD_get, Nat.zero_add]
  cases z : ds[i]? with
  | none => exact ⟨vs, t1, by rw [← r1.len]; exact List.getElem?_eq_none_iff.mp z⟩
  | some d =>
    obtain ⟨v, h1, h2⟩ := r1.get z
    exact ⟨⟨vs, v, t1, h1⟩, fun x H2 y => by
      obtain ⟨T, u, e1, e2, e3, e4⟩ := y
      subst e1 e3
      have := e4 vs t1
      rw [h1] at this
      cases this
      have sm := same_new (ho := HO.tup [.int (i : Nat), v]) e2
      exact ⟨sm, .tup upd_same (.cons (.int _) (.cons (h2.ext (Nxt.same n.rep sm).ext) .nil))⟩⟩
theorem it_enum {K : PySem.W.Frag} {ρ : Nat → Addr} {A : AH} {H : Hp} {i : Nat} (hi : i < A.length) : ItOk K ρ A H (.enum i) (Ite K (ρ i)) := fun ρ1 B H1 n j => by
  show match (match seqAt B i with | some ds => stepE j ds[j]? | none => Step.bad) with | .item d => _ | .stop => _ | .bad => _
  cases z : seqAt B i with
  | none => trivial
  | some ds =>
    obtain ⟨vs, h1, h2⟩ := n.rep.seq z
    rw [n.ext.same i hi] at h1
    show match stepE j ds[j]? with | .item d => _ | .stop => _ | .bad => _
    cases y : ds[j]? with
    | none => exact ⟨vs, h1, by rw [← h2.len]; exact List.getElem?_eq_none_iff.mp y⟩
    | some d =>
      obtain ⟨v, q1, q2⟩ := h2.get y
      exact ⟨⟨vs, v, h1, q1⟩, fun x H2 q => by
        obtain ⟨T, u, e1, e2, e3, e4⟩ := q
        subst e1 e3
        have := e4 vs h1
        rw [q1] at this
        cases this
        have sm := same_new (ho := HO.tup [.int (j : Nat), v]) e2
        exact ⟨sm, .tup upd_same (.cons (.int _) (.cons (q2.ext (Nxt.same n.rep sm).ext) .nil))⟩⟩
section
variable {X : Cx} {W : WX} {k : Nat} {p pos tpos : Pos} {e o : Expr} {mr : Ax} {elts : List Expr} {kk : Nat}
/-- enumerate of a list or a tuple -/
theorem pi_enumB {ta : TA} (hg : Gl X "enumerate") (hm : X.mg "enumerate" = none) (ha : PA X [e] ta) (hs : starEach [e] X.env = [(false, eval e X.env)] := by rfl) :
    PI X (.Tuple elts kk tpos) (.Call (.Name "enumerate" p) [e] [] pos) (fun σ H R => ta σ H fun vs H1 => ∃ a, vs = [.ref a] ∧ ((∃ xs, SqL X.K H1 a xs ∧ R (Ite X.K a) H1) ∨ (∃ xs, SqT X.K H1 a xs ∧ R (ItET X.K a) H1))) := by
  refine ⟨fun pins s σ H R I h => ?_⟩
  refine Call_ (ld_blt I hg hm boot_enumerate (PyProof.Rows.callWith_type1 (thn (ha.run pos pins s σ H _ I h) fun us s1 ⟨vs, H1, I1, r1, q1⟩ => ?_) hs rfl))
  obtain ⟨a, ex, q⟩ := q1
  subst ex
  cases r1 with
  | cons r rr =>
    cases rr
    cases r
    have new : ∀ b ∈ [s1.heap.objs.size + 1, s1.heap.objs.size], FpOk X pins H1 b := fun b hb => by
      have e' : b = s1.heap.objs.size + 1 ∨ b = s1.heap.objs.size := by simpa using hb
      have hle : s1.heap.objs.size ≤ b := by
        rcases e' with z | z
        · rw [z]; exact Nat.le_add_right _ _
        · rw [z]; exact Nat.le_refl _
      exact I1.fpOk hle (I1.hok.fresh hle)
    rcases q with ⟨xs, hq, q⟩ | ⟨xs, hq, q⟩
    · obtain ⟨its, rv, p', hz⟩ := I1.list hq
      refine call_enumerate_list p'.isList fun h' he hit hsz hk => wpAny_pyIter_enum he ?_
      have I2 : Inv X pins σ H1 { s1 with heap := h' } := I1.kept (t' := s1.toks) hk
      exact ⟨s1.heap.objs.size + 1, [s1.heap.objs.size + 1, s1.heap.objs.size], _, _, H1, rfl, I2, turn_enum a (s1.heap.objs.size + 1) s1.heap.objs.size, ⟨⟨.none, he⟩, hit, Nat.succ_ne_self _⟩, new, q⟩
    · obtain ⟨its, rv, p', hz⟩ := I1.tuple hq
      have pt : s1.heap.IsTuple a its.toArray := p'
      have hal : a < s1.heap.objs.size := by obtain ⟨o, ho, _⟩ := pt; exact Heap.lt_size ho
      refine call_enumT (begins_tuple a its.toArray) pt fun h' he hit hk => wpAny_pyIter_enum he ?_
      have I2 : Inv X pins σ H1 { s1 with heap := h' } := I1.kept (t' := s1.toks) hk
      exact ⟨s1.heap.objs.size + 1, [s1.heap.objs.size + 1, s1.heap.objs.size], _, _, H1, rfl, I2, turn_enumT a (s1.heap.objs.size + 1) s1.heap.objs.size (Nat.ne_of_gt (Nat.lt_succ_of_lt hal)) (Nat.ne_of_lt hal), ⟨⟨.none, he⟩, ⟨_, hit, rfl, rfl⟩, Nat.succ_ne_self _⟩, new, q⟩
theorem ri_enum (hg : Gl X "enumerate") (hm : X.mg "enumerate" = none) (ha : RA X W [e] mr) (hs : starEach [e] X.env = [(false, eval e X.env)] := by rfl) : RI X W (.Tuple elts kk tpos) (.Call (.Name "enumerate" p) [e] [] pos) (iEnum mr) := by
  refine PI.imp (pi_enumB hg hm ha hs) fun σ H R ⟨ρ, E, A, hE, hA, h⟩ => ⟨ρ, E, A, hE, hA, PostI.bind h fun ρ1 ds B vs H1 n1 r1 h1 => ?_⟩
  cases r1 with
  | nil => exact h1.elim
  | cons r1 r2 => cases r2 with
    | cons _ _ => cases r1 <;> exact h1.elim
    | nil => cases r1 with
      | @tup a vs ds q1 q2 => exact ⟨a, rfl, .inr ⟨vs, SqT.of q1, h1 ρ1 _ H1 (.refl n1.rep) (it_enumT q1 q2)⟩⟩
      | @ref i hi =>
        have h2 : PostI X.K W ρ1 B σ H1 (okI (.enum i) B (seqAt B i)) R := h1
        cases z : seqAt B i with
        | none => rw [z] at h2; exact h2.elim
        | some ds =>
          rw [z] at h2
          obtain ⟨vs, q1, q2⟩ := n1.rep.seq z
          exact ⟨ρ1 i, rfl, .inl ⟨vs, q1, h2 ρ1 _ H1 (.refl n1.rep) (it_enum hi)⟩⟩
      | _ => exact h1.elim
end
/-! ### pop -/
theorem last_rep {ρ : Nat → Addr} {n : Nat} {H : Hp} {ds : List D} {vs : List V} {d : D} (r : RepVs ρ n H ds vs) (h : ds.getLast? = some d) : ∃ v, vs[vs.length - 1]? = some v ∧ RepV ρ n H d v := by
  rw [List.getLast?_eq_getElem?] at h
  rw [← r.len]
  exact r.get h
theorem dropLast_rep {ρ : Nat → Addr} {n : Nat} {H : Hp} {ds : List D} {vs : List V} (r : RepVs ρ n H ds vs) : RepVs ρ n H ds.dropLast vs.dropLast := by
  rw [List.dropLast_eq_take, List.dropLast_eq_take, r.len]
  exact r.take _
theorem ok_pop {X : Cx} : OkM X.K rPop mPop := fun W ρ A σ H d ds v vs Q hA rd rs h => by
  cases rs with
  | cons r1 r2 => cases rd <;> exact h.elim
  | nil =>
    cases rd with
    | @ref i hi =>
      have h2 : Post X.K W RepV ρ A σ H (popO i A A[i]?) Q := h
      cases z : A[i]? with
      | none => rw [z] at h2; exact h2.elim
      | some o =>
        rw [z] at h2
        cases o with
        | lst xs =>
          have h3 : Post X.K W RepV ρ A σ H (match xs.getLast? with | some d => .ok d (A.set i (.lst xs.dropLast)) | none => .bad) Q := h2
          cases y : xs.getLast? with
          | none => rw [y] at h3; exact h3.elim
          | some d =>
            rw [y] at h3
            obtain ⟨us, q1, q2⟩ := lst_at hA z
            obtain ⟨w, w1, w2⟩ := last_rep q2 y
            exact ⟨ρ i, us, w, rfl, rfl, q1, w1, post_set hA h3 z rfl rfl w2 fun ex => ⟨_, upd_same, (dropLast_rep q2).ext ex⟩⟩
        | _ => exact h2.elim
    | _ => exact h.elim
end DL
set_option Elab.async false
set_option linter.all false
set_option maxRecDepth 100000
set_option maxHeartbeats 4000000
/-! Letting go behind a statement; forgetting names (own work). -/
namespace DL
open PySem PySem.Spec PyProof.Rows L2
def envBd (n : Nat) : Env → Bool
  | [] => true
  | some d :: E => d.bd n && envBd n E
  | none :: E => envBd n E
open Classical in
noncomputable def gcE (A : AH) (E : Env) (B : AH) : AH := if envBd A.length E = true ∧ okPre A (B.take A.length) then B.take A.length else B
noncomputable def gcS (A : AH) : SRes → SRes
  | .nx E B => .nx E (gcE A E B)
  | .ct E B => .ct E (gcE A E B)
  | .bk E B => .bk E (gcE A E B)
  | r => r
noncomputable def sGc (m : Sx) : Sx := fun E A => gcS A (m E A)
def fgE : List Nat → Env → Env
  | [], E => E
  | i :: is, E => fgE is (E.set i none)
def fgR (is : List Nat) : SRes → SRes
  | .nx E B => .nx (fgE is E) B
  | .ct E B => .ct (fgE is E) B
  | .bk E B => .bk (fgE is E) B
  | r => r
def sFg (is : List Nat) (m : Sx) : Sx := fun E A => fgR is (m E A)
theorem envBd_get : ∀ {E : Env} {n i : Nat} {d : D}, envBd n E = true → E[i]? = some (some d) → d.bd n = true
  | [], _, _, _, _, h => by cases h
  | some c :: E, n, 0, d, h, e => by
    unfold envBd at h
    rw [Bool.and_eq_true] at h
    cases e
    exact h.1
  | none :: E, n, 0, d, h, e => by cases e
  | some c :: E, n, i + 1, d, h, e => by
    unfold envBd at h
    rw [Bool.and_eq_true] at h
    exact envBd_get (i := i) h.2 e
  | none :: E, n, i + 1, d, h, e => by
    unfold envBd at h
    exact envBd_get (i := i) h e
section
variable {K : PySem.W.Frag} {ρ ρ' : Nat → Addr} {A B : AH} {H H' : Hp} {σ : Sl} {E : Env}
theorem RepE.cut {n m : Nat} (h : RepE ρ n H E σ) (b : envBd m E = true) : RepE ρ m H E σ := ⟨h.len, fun i d e => by
  obtain ⟨v, h1, h2⟩ := h.get i d e
  exact ⟨v, h1, h2.cut (envBd_get b e)⟩⟩
theorem RepE.none {n : Nat} (h : RepE ρ n H E σ) (i : Nat) : RepE ρ n H (E.set i none) σ := ⟨by rw [List.length_set]; exact h.len, fun j d e => by
  by_cases z : i = j
  · subst z
    rw [List.getElem?_set] at e
    split at e
    · split at e <;> cases e
    · exact h.get i d e
  · rw [List.getElem?_set_ne z] at e
    exact h.get j d e⟩
theorem RepE.fg {n : Nat} : ∀ {is : List Nat} {E : Env}, RepE ρ n H E σ → RepE ρ n H (fgE is E) σ
  | [], _, h => h
  | i :: is, _, h => RepE.fg (is := is) (h.none i)
theorem gcE_ok (R : RepA K ρ H A) (x : Nxt K ρ A H ρ' B H') (r : RepE ρ' B.length H' E σ) : Nxt K ρ A H ρ' (gcE A E B) H' ∧ RepE ρ' (gcE A E B).length H' E σ := by
  unfold gcE
  by_cases c : envBd A.length E = true ∧ okPre A (B.take A.length)
  · rw [if_pos c]
    refine ⟨Nxt.cut R x c.2, ?_⟩
    rw [c.2.1]
    exact r.cut c.1
  · rw [if_neg c]
    exact ⟨x, r⟩
theorem PostS.gc {W : WX} {r : SRes} {Dn : Ends} (R : RepA K ρ H A) (h : PostS K W ρ A H (gcS A r) Dn) : PostS K W ρ A H r Dn := by
  cases r with
  | nx E B => exact fun ρ' σ H' n r => h ρ' σ H' (gcE_ok R n r).1 (gcE_ok R n r).2
  | ct E B => exact fun ρ' σ H' n r => h ρ' σ H' (gcE_ok R n r).1 (gcE_ok R n r).2
  | bk E B => exact fun ρ' σ H' n r => h ρ' σ H' (gcE_ok R n r).1 (gcE_ok R n r).2
  | rt d B => exact h
  | exc x E B => exact h
  | bad => exact h
theorem PostS.fg {W : WX} {r : SRes} {Dn : Ends} {is : List Nat} (h : PostS K W ρ A H (fgR is r) Dn) : PostS K W ρ A H r Dn := by
  cases r with
  | nx E B => exact fun ρ' σ H' n r => h ρ' σ H' n r.fg
  | ct E B => exact fun ρ' σ H' n r => h ρ' σ H' n r.fg
  | bk E B => exact fun ρ' σ H' n r => h ρ' σ H' n r.fg
  | rt d B => exact h
  | exc x E B => exact h
  | bad => exact h
end
section
variable {X : Cx} {W : WX} {st : Stmt} {sts : List Stmt} {m : Sx} {is : List Nat}
theorem rs_gc (h : RS X W st m) : RS X W st (sGc m) := PS.imp h fun Dn σ H ⟨ρ, E, A, hE, hA, q⟩ => ⟨ρ, E, A, hE, hA, PostS.gc hA q⟩
theorem rss_gc (h : RSs X W sts m) : RSs X W sts (sGc m) := PSs.imp h fun Dn σ H ⟨ρ, E, A, hE, hA, q⟩ => ⟨ρ, E, A, hE, hA, PostS.gc hA q⟩
theorem rs_fg (h : RS X W st m) : RS X W st (sFg is m) := PS.imp h fun Dn σ H ⟨ρ, E, A, hE, hA, q⟩ => ⟨ρ, E, A, hE, hA, PostS.fg q⟩
theorem rss_fg (h : RSs X W sts m) : RSs X W sts (sFg is m) := PSs.imp h fun Dn σ H ⟨ρ, E, A, hE, hA, q⟩ => ⟨ρ, E, A, hE, hA, PostS.fg q⟩
end

/-! ### for the printed texts -/
/-- a def's function with the defaults filled in -/
abbrev cl (F : Fn) (dd : List D) : Fn := fun xs A => F (xs ++ dd) A
def blkChk (N : List Str) (sc scope : Scope) (own : List (Str × Nat)) : Bool :=
  (match scope.kind with | .function => true | _ => false) && (scope.names.all fun y => scope.names.lookup y.1 == some y.2) && (own.all fun p => N[p.2]? == some p.1) &&
  (scope.names.all fun y => !(y.2 == .free) || (sc.names.lookup y.1 == some .cell || sc.names.lookup y.1 == some .free)) &&
  (scope.names.all fun y => !(y.2 == .local || y.2 == .cell) || ((own.map (·.1)).contains y.1 || !N.contains y.1))
theorem blk_of {N : List Str} {sc scope : Scope} {own : List (Str × Nat)} (h : blkChk N sc scope own = true) : BlkOk N sc scope own := by
  unfold blkChk at h
  simp only [Bool.and_eq_true, List.all_eq_true, Bool.or_eq_true, Bool.not_eq_true', beq_iff_eq, beq_eq_false_iff_ne, List.contains_iff_mem] at h
  obtain ⟨⟨⟨⟨h1, h2⟩, h3⟩, h4⟩, h5⟩ := h
  refine ⟨?_, fun y hy => h2 y hy, fun p hp => h3 p hp, fun y hy e => ?_, fun y hy e => ?_⟩
  · cases z : scope.kind <;> rw [z] at h1 <;> first | rfl | cases h1
  · rcases h4 y hy with q | q
    · exact absurd e q
    · exact q
  · rcases h5 y hy with q | q
    · rcases e with e | e
      · rw [e] at q; exact absurd q (by decide)
      · rw [e] at q; exact absurd q (by decide)
    · rcases q with q | q
      · exact .inl q
      · exact .inr (by simpa using q)
theorem bt_len : bootBuiltins "len" = some (.builtin "len") := by decide +kernel
theorem bt_list : bootBuiltins "list" = some (.type "list") := by decide +kernel
theorem bt_tuple : bootBuiltins "tuple" = some (.type "tuple") := by decide +kernel
theorem bt_int : bootBuiltins "int" = some (.type "int") := by decide +kernel
theorem bt_bool : bootBuiltins "bool" = some (.type "bool") := by decide +kernel
theorem bt_str : bootBuiltins "str" = some (.type "str") := by decide +kernel
theorem bt_dict : bootBuiltins "dict" = some (.type "dict") := by decide +kernel
theorem bt_abs : bootBuiltins "abs" = some (.builtin "abs") := by decide +kernel
theorem bt_max : bootBuiltins "max" = some (.builtin "max") := by decide +kernel
theorem bt_all : bootBuiltins "all" = some (.builtin "all") := by decide +kernel
theorem bt_any : bootBuiltins "any" = some (.builtin "any") := by decide +kernel
theorem bt_sum : bootBuiltins "sum" = some (.builtin "sum") := by decide +kernel
end DL
set_option Elab.async false
set_option linter.all false
set_option maxRecDepth 100000
set_option maxHeartbeats 4000000
/-! From the law's function to the law's promise (own work). -/
namespace DL
open PySem PySem.Spec PyProof.Rows L2
theorem end_law {K : PySem.W.Frag} {F : Fn} {H : Hp} {a : Addr} {ns : List Int} (hS : SqL K H a (ns.map V.int)) (h : ∃ B, F [.ref 0] [.rol (ns.map D.int)] = .ok (.bl true) B) :
    spD K 1 F [.ref a] H (fun v _ => v = .bl true) (fun _ _ _ => False) := by
  obtain ⟨B, h⟩ := h
  refine ⟨rfl, fun _ => a, [.ref 0], [.rol (ns.map D.int)], .cons (.ref (Nat.lt_succ_self _)) .nil, ?_, ?_⟩
  · refine ⟨fun i o e => ?_, fun i ds e => ?_, fun i j o u h1 h2 m1 m2 _ => ?_⟩
    · cases i with
      | zero => cases e; trivial
      | succ i => cases e
    · cases i with
      | succ i => cases e
      | zero =>
        cases e
        refine ⟨ns.map V.int, RepVs.ints ns, ?_⟩
        rcases hS with r | r
        · refine .inr ⟨r, fun j o e m => ?_⟩
          cases j with
          | zero => cases e; cases m
          | succ j => cases e
        · exact .inl r
    · cases i with
      | succ i => cases h1
      | zero => cases h1; cases m1
  · rw [h]
    intro ρ' v H' n r
    cases r
    rfl

def CXE : CXT := fun o H s E u s' => ∃ P w, L2.CX P w o H s E u s'
theorem wide {P : Program} {w : World} {K : PySem.W.Frag} {mg : Str → Option Value} {base : Heap} {k : Nat} {f : Addr} {fd : FuncData} {ps : List Str} {sp : Sp} (F : FnOk P w K mg base (L2.CX P w) k f fd ps sp) : FnOk P w K mg base CXE k f fd ps sp :=
  ⟨F.len, fun A outer s H args us vs Q E hr he hb hv hs => codeAny_mono (F.run A outer s H args us vs Q E hr he hb hv hs) fun r s' q => by
    cases r with
    | ok fl => cases fl <;> exact q
    | error e => exact ⟨P, w, q⟩⟩
theorem cxe_none (H : Hp) (s : Shared) (e : Value) (s' : Shared) (h : CXE [] H s (fun _ _ _ => False) e s') : False := by
  obtain ⟨P, w, a, B, H', cls, d, _, _, _, _, _, _, _, z⟩ := h
  exact z
end DL
set_option Elab.async false
set_option linter.all false
set_option maxRecDepth 100000
set_option maxHeartbeats 4000000
/-! The plain functions evaluated (own work). -/
namespace DL
open PySem
@[simp] theorem ev_eVar (i : Nat) E A : eVar i E A = okD A E[i]? := rfl
@[simp] theorem ev_eC (d : D) _x0 A : eC d _x0 A = .ok d A := rfl
@[simp] theorem ev_aNil _x0 A : aNil _x0 A = .ok [] A := rfl
@[simp] theorem ev_kCons (r : Ax) (E : Env) d A : kCons r E d A = (r E A).bind (kCons2 d) := rfl
@[simp] theorem ev_aCons (e : Ex) (r : Ax) E A : aCons e r E A = (e E A).bind (kCons r E) := rfl
@[simp] theorem ev_eF (F : Fn) (a : Ax) E A : eF F a E A = (a E A).bind F := rfl
@[simp] theorem ev_kM2 (F : Fn) (x : D) ds A : kM2 F x ds A = F (x :: ds) A := rfl
@[simp] theorem ev_kM (c : Nat) (F : Fn) (a : Ax) (E : Env) x A : kM c F a E x A = if isIns c A x = true then (a E A).bind (kM2 F x) else .bad := rfl
@[simp] theorem ev_eM (c : Nat) (F : Fn) (o : Ex) (a : Ax) E A : eM c F o a E A = (o E A).bind (kM c F a E) := rfl
@[simp] theorem ev_tB (e : Ex) E A : tB e E A = (e E A).bind kB := rfl
@[simp] theorem ev_kAnd (u : Tx) (E : Env) b A : kAnd u E b A = if b = true then u E A else .ok false A := rfl
@[simp] theorem ev_tAnd (t u : Tx) E A : tAnd t u E A = (t E A).bind (kAnd u E) := rfl
@[simp] theorem ev_kOr (u : Tx) (E : Env) b A : kOr u E b A = if b = true then .ok true A else u E A := rfl
@[simp] theorem ev_tOr (t u : Tx) E A : tOr t u E A = (t E A).bind (kOr u E) := rfl
@[simp] theorem ev_kNot b A : kNot b A = .ok (!b) A := rfl
@[simp] theorem ev_tNot (t : Tx) E A : tNot t E A = (t E A).bind kNot := rfl
@[simp] theorem ev_kIf (a b : Ex) (E : Env) c A : kIf a b E c A = if c = true then a E A else b E A := rfl
@[simp] theorem ev_eIf (t : Tx) (a b : Ex) E A : eIf t a b E A = (t E A).bind (kIf a b E) := rfl
@[simp] theorem ev_eAnd (a b : Ex) E A : eAnd a b E A = (a E A).bind (kAndV b E) := rfl
@[simp] theorem ev_eOr (a b : Ex) E A : eOr a b E A = (a E A).bind (kOrV b E) := rfl
@[simp] theorem ev_eNot (a : Ex) E A : eNot a E A = (a E A).bind kNotV := rfl
@[simp] theorem ev_kCh4 (G : Fn) (y : D) w A : kCh4 G y w A = G [y, w] A := rfl
@[simp] theorem ev_kCh2 (F G : Fn) (c : Ex) (E : Env) (x : D) y A : kCh2 F G c E x y A = (F [x, y] A).bind (kCh3 G c E y) := rfl
@[simp] theorem ev_kCh (F G : Fn) (b c : Ex) (E : Env) x A : kCh F G b c E x A = (b E A).bind (kCh2 F G c E x) := rfl
@[simp] theorem ev_eChain (F G : Fn) (a b c : Ex) E A : eChain F G a b c E A = (a E A).bind (kCh F G b c E) := rfl
@[simp] theorem ev_sNop E A : sNop E A = .nx E A := rfl
@[simp] theorem ev_sSeq (a b : Sx) E A : sSeq a b E A = (a E A).seq b := rfl
@[simp] theorem ev_kDrop (E : Env) _x0 A : kDrop E _x0 A = .nx E A := rfl
@[simp] theorem ev_sDrop (e : Ex) E A : sDrop e E A = (e E A).then E (kDrop E) := rfl
@[simp] theorem ev_kRet d A : kRet d A = .rt d A := rfl
@[simp] theorem ev_sRet (e : Ex) E A : sRet e E A = (e E A).then E kRet := rfl
@[simp] theorem ev_sRetN _x0 A : sRetN _x0 A = .rt .non A := rfl
@[simp] theorem ev_sBrk E A : sBrk E A = .bk E A := rfl
@[simp] theorem ev_sCnt E A : sCnt E A = .ct E A := rfl
@[simp] theorem ev_sBad _x0 _x1 : sBad _x0 _x1 = .bad := rfl
@[simp] theorem ev_kIfS (a b : Sx) (E : Env) c A : kIfS a b E c A = if c = true then a E A else b E A := rfl
@[simp] theorem ev_sIf (t : Tx) (a b : Sx) E A : sIf t a b E A = (t E A).then E (kIfS a b E) := rfl
@[simp] theorem ev_gName (i : Nat) d E A : gName i d E A = .nx (E.set i (some d)) A := rfl
@[simp] theorem ev_kSub2 (S : Stx) (d : D) (E : Env) (x : D) y A : kSub2 S d E x y A = okS E (S x y d A) := rfl
@[simp] theorem ev_kSub (S : Stx) (i : Ex) (d : D) (E : Env) x A : kSub S i d E x A = (i E A).then E (kSub2 S d E x) := rfl
@[simp] theorem ev_gSub (o i : Ex) (S : Stx) d E A : gSub o i S d E A = (o E A).then E (kSub S i d E) := rfl
@[simp] theorem ev_kAsg (g : Gx) (E : Env) d A : kAsg g E d A = (g d E A).only := rfl
@[simp] theorem ev_sAsg (e : Ex) (g : Gx) E A : sAsg e g E A = (e E A).then E (kAsg g E) := rfl
@[simp] theorem ev_kSet (i : Nat) (E : Env) d A : kSet i E d A = .nx (E.set i (some d)) A := rfl
@[simp] theorem ev_sPar (i j : Nat) (a : Ax) E A : sPar i j a E A = (a E A).then E (kPar i j E) := rfl
@[simp] theorem ev_kAug2 (i : Nat) (F : Fn) (E : Env) (d : D) y A : kAug2 i F E d y A = (F [d, y] A).then E (kSet i E) := rfl
@[simp] theorem ev_kAug (i : Nat) (e : Ex) (F : Fn) (E : Env) d A : kAug i e F E d A = (e E A).then E (kAug2 i F E d) := rfl
@[simp] theorem ev_sAug (i : Nat) (e : Ex) (F : Fn) E A : sAug i e F E A = (okD A E[i]?).then E (kAug i e F E) := rfl
@[simp] theorem ev_kAS5 (S : Stx) (E : Env) (x y : D) z A : kAS5 S E x y z A = okS E (S x y z A) := rfl
@[simp] theorem ev_kAS4 (F : Fn) (S : Stx) (E : Env) (x y old : D) d A : kAS4 F S E x y old d A = (F [old, d] A).then E (kAS5 S E x y) := rfl
@[simp] theorem ev_kAS3 (e : Ex) (F : Fn) (S : Stx) (E : Env) (x y : D) old A : kAS3 e F S E x y old A = (e E A).then E (kAS4 F S E x y old) := rfl
@[simp] theorem ev_kAS2 (e : Ex) (G F : Fn) (S : Stx) (E : Env) (x : D) y A : kAS2 e G F S E x y A = (G [x, y] A).then E (kAS3 e F S E x y) := rfl
@[simp] theorem ev_kAS1 (i e : Ex) (G F : Fn) (S : Stx) (E : Env) x A : kAS1 i e G F S E x A = (i E A).then E (kAS2 e G F S E x) := rfl
@[simp] theorem ev_sAugS (o i e : Ex) (G F : Fn) (S : Stx) E A : sAugS o i e G F S E A = (o E A).then E (kAS1 i e G F S E) := rfl
@[simp] theorem ev_kFld2 (cs : List Nat) (n : Nat) (E : Env) (d : D) x A : kFld2 cs n E d x A = okS E (putFld cs n d A x) := rfl
@[simp] theorem ev_kFld (cs : List Nat) (n : Nat) (o : Ex) (E : Env) d A : kFld cs n o E d A = (o E A).then E (kFld2 cs n E d) := rfl
@[simp] theorem ev_sFld (cs : List Nat) (n : Nat) (o e : Ex) E A : sFld cs n o e E A = (e E A).then E (kFld cs n o E) := rfl
@[simp] theorem ev_kFA4 (cs : List Nat) (n : Nat) (E : Env) (x : D) z A : kFA4 cs n E x z A = okS E (putFld cs n z A x) := rfl
@[simp] theorem ev_kFA3 (cs : List Nat) (n : Nat) (F : Fn) (E : Env) (x old : D) d A : kFA3 cs n F E x old d A = (F [old, d] A).then E (kFA4 cs n E x) := rfl
@[simp] theorem ev_kFA2 (cs : List Nat) (n : Nat) (e : Ex) (F : Fn) (E : Env) (x : D) old A : kFA2 cs n e F E x old A = (e E A).then E (kFA3 cs n F E x old) := rfl
@[simp] theorem ev_kFA1 (cs : List Nat) (n : Nat) (e : Ex) (F : Fn) (E : Env) x A : kFA1 cs n e F E x A = (fFld cs n [x] A).then E (kFA2 cs n e F E x) := rfl
@[simp] theorem ev_sFldAug (cs : List Nat) (n : Nat) (o e : Ex) (F : Fn) E A : sFldAug cs n o e F E A = (o E A).then E (kFA1 cs n e F E) := rfl
@[simp] theorem ev_sFor (it : Ix) (g : Gx) (b : Sx) E A : sFor it g b E A = (it E A).then E (kFor g b E) := rfl
@[simp] theorem ev_kWh (b f : Sx) (E : Env) c A : kWh b f E c A = if c = true then (b E A).turn f else .nx E A := rfl
@[simp] theorem ev_iSeq (e : Ex) E A : iSeq e E A = (e E A).bind kSeq := rfl
@[simp] theorem ev_iRng1 (a : Ax) E A : iRng1 a E A = (a E A).bind kRng1 := rfl
@[simp] theorem ev_iRng2 (a : Ax) E A : iRng2 a E A = (a E A).bind kRng2 := rfl
@[simp] theorem ev_iEnum (a : Ax) E A : iEnum a E A = (a E A).bind kEnum := rfl
@[simp] theorem ev_tYes _x0 A : tYes _x0 A = .ok true A := rfl
@[simp] theorem ev_eLc (it : Ix) (g : Gx) (t : Tx) (e : Ex) (own : List Nat) E A : eLc it g t e own E A = (it E A).bind (kLc g t e (wipeE E own)) := rfl
@[simp] theorem ev_mkIns (c : Nat) (F : Fn) ds A : mkIns c F ds A = (F (.ref A.length :: ds) (A ++ [.ins c []])).bind (kMk A.length) := rfl
@[simp] theorem ev_mkTup ds A : mkTup ds A = if ds.length ≤ line then .ok (.tup ds) A else .bad := rfl
@[simp] theorem ev_mkLst ds A : mkLst ds A = if ds.length ≤ line then .ok (.ref A.length) (A ++ [.lst ds]) else .bad := rfl
@[simp] theorem ev_kStar2 (ds : List D) es A : kStar2 ds es A = .ok (ds ++ es) A := rfl
@[simp] theorem ev_kStar1 (r : Ax) (E : Env) ds A : kStar1 r E ds A = (r E A).bind (kStar2 ds) := rfl
@[simp] theorem ev_kStar (r : Ax) (E : Env) d A : kStar r E d A = (itemsOf d A).bind (kStar1 r E) := rfl
@[simp] theorem ev_aStar (e : Ex) (r : Ax) E A : aStar e r E A = (e E A).bind (kStar r E) := rfl
@[simp] theorem ev_pNone _x0 A : pNone _x0 A = .ok none A := rfl
@[simp] theorem ev_pSome (e : Ex) E A : pSome e E A = (e E A).bind kPart := rfl
@[simp] theorem ev_kSl3 (d : D) (lo : Option Int) hi A : kSl3 d lo hi A = opSl lo hi A d := rfl
@[simp] theorem ev_kSl2 (q : Px) (E : Env) (d : D) lo A : kSl2 q E d lo A = (q E A).bind (kSl3 d lo) := rfl
@[simp] theorem ev_kSl1 (p q : Px) (E : Env) d A : kSl1 p q E d A = (p E A).bind (kSl2 q E d) := rfl
@[simp] theorem ev_eSl (e : Ex) (p q : Px) E A : eSl e p q E A = (e E A).bind (kSl1 p q E) := rfl
@[simp] theorem ev_kBM (k : Kd) (F : Fn) (a : Ax) (E : Env) x A : kBM k F a E x A = if isKd k A x = true then (a E A).bind (kM2 F x) else .bad := rfl
@[simp] theorem ev_eBM (k : Kd) (F : Fn) (o : Ex) (a : Ax) E A : eBM k F o a E A = (o E A).bind (kBM k F a E) := rfl
@[simp] theorem ev_sPar3 (i j l : Nat) (a : Ax) E A : sPar3 i j l a E A = (a E A).then E (kPar3 i j l E) := rfl
@[simp] theorem ev_sFg (is : List Nat) (m : Sx) E A : sFg is m E A = fgR is (m E A) := rfl
@[simp] theorem ev_kCons2 (d : D) (ds : List D) (A : AH) : kCons2 d ds A = .ok (d :: ds) A := rfl
@[simp] theorem ev_kB (b : Bool) (A : AH) : kB (.bl b) A = .ok b A := rfl
@[simp] theorem ev_kAndV (b : Ex) (E : Env) (c : Bool) (A : AH) : kAndV b E (.bl c) A = if c = true then b E A else .ok (.bl false) A := rfl
@[simp] theorem ev_kOrV (b : Ex) (E : Env) (c : Bool) (A : AH) : kOrV b E (.bl c) A = if c = true then .ok (.bl true) A else b E A := rfl
@[simp] theorem ev_kNotV (c : Bool) (A : AH) : kNotV (.bl c) A = .ok (.bl (!c)) A := rfl
@[simp] theorem ev_kCh3 (G : Fn) (c : Ex) (E : Env) (y : D) (k : Bool) (A : AH) : kCh3 G c E y (.bl k) A = if k = true then (c E A).bind (kCh4 G y) else .ok (.bl false) A := rfl
@[simp] theorem ev_kPart (i : Int) (A : AH) : kPart (.int i) A = .ok (some i) A := rfl
@[simp] theorem ev_gNil (E : Env) (A : AH) : gNil [] E A = .nx E A := rfl
@[simp] theorem ev_gCons (g : Gx) (r : Gsx) (d : D) (ds : List D) (E : Env) (A : AH) : gCons g r (d :: ds) E A = (g d E A).only.seq (r ds) := rfl
@[simp] theorem ev_gTup (n : Nat) (r : Gsx) (ds : List D) (E : Env) (A : AH) : gTup n r (.tup ds) E A = if ds.length = n then r ds E A else .bad := rfl
@[simp] theorem ev_kPar (i j : Nat) (E : Env) (x y : D) (A : AH) : kPar i j E [x, y] A = .nx ((E.set i (some x)).set j (some y)) A := rfl
@[simp] theorem ev_kPar3 (i j l : Nat) (E : Env) (x y z : D) (A : AH) : kPar3 i j l E [x, y, z] A = .nx (((E.set i (some x)).set j (some y)).set l (some z)) A := rfl
@[simp] theorem ev_kSeqT (ds : List D) (A : AH) : kSeq (.tup ds) A = .ok (.seq ds) A := rfl
@[simp] theorem ev_kSeqR (i : Nat) (A : AH) : kSeq (.ref i) A = okI (.lst i) A (seqAt A i) := rfl
@[simp] theorem ev_okI (s : Src) (A : AH) (ds : List D) : okI s A (some ds) = .ok s A := rfl
@[simp] theorem ev_kRng1 (j : Int) (A : AH) : kRng1 [.int j] A = if small62 j = true then .ok (.seq (upto 0 j.toNat)) A else .bad := rfl
@[simp] theorem ev_kRng2 (i j : Int) (A : AH) : kRng2 [.int i, .int j] A = if (small62 i && small62 j) = true then .ok (.seq (upto i (j - i).toNat)) A else .bad := rfl
@[simp] theorem ev_kEnumT (ds : List D) (A : AH) : kEnum [.tup ds] A = .ok (.seq (enumD 0 ds)) A := rfl
@[simp] theorem ev_kEnumR (i : Nat) (A : AH) : kEnum [.ref i] A = okI (.enum i) A (seqAt A i) := rfl
@[simp] theorem ev_kMk (n : Nat) (A : AH) : kMk n .non A = .ok (.ref n) A := rfl
@[simp] theorem ev_seqAt (A : AH) (i : Nat) : seqAt A i = seqO A[i]? := rfl
@[simp] theorem ev_seqOl (ds : List D) : seqO (some (.lst ds)) = some ds := rfl
@[simp] theorem ev_seqOr (ds : List D) : seqO (some (.rol ds)) = some ds := rfl
@[simp] theorem ev_itemsT (ds : List D) (A : AH) : itemsOf (.tup ds) A = .ok ds A := rfl
@[simp] theorem ev_itemsR (i : Nat) (A : AH) : itemsOf (.ref i) A = itemsO A (seqAt A i) := rfl
@[simp] theorem ev_itemsO (ds : List D) (A : AH) : itemsO A (some ds) = .ok ds A := rfl
@[simp] theorem ev_addI (i j : Int) (A : AH) : opAdd [.int i, .int j] A = .ok (.int (i + j)) A := rfl
@[simp] theorem ev_addT (xs ys : List D) (A : AH) : opAdd [.tup xs, .tup ys] A = if xs.length + ys.length ≤ line then .ok (.tup (xs ++ ys)) A else .bad := rfl
@[simp] theorem ev_addR (i j : Nat) (A : AH) : opAdd [.ref i, .ref j] A = lst2 A A[i]? A[j]? := rfl
@[simp] theorem ev_lst2 (A : AH) (xs ys : List D) : lst2 A (some (.lst xs)) (some (.lst ys)) = if xs.length + ys.length ≤ line then .ok (.ref A.length) (A ++ [.lst (xs ++ ys)]) else .bad := rfl
@[simp] theorem ev_subI (i j : Int) (A : AH) : opSub [.int i, .int j] A = .ok (.int (i - j)) A := rfl
@[simp] theorem ev_addII (i j : Int) (A : AH) : opAddI [.int i, .int j] A = .ok (.int (i + j)) A := rfl
@[simp] theorem ev_subII (i j : Int) (A : AH) : opSubI [.int i, .int j] A = .ok (.int (i - j)) A := rfl
@[simp] theorem ev_mulI (i j : Int) (A : AH) : opMul [.int i, .int j] A = if (tooWide i && tooWide j) = true then .bad else .ok (.int (i * j)) A := rfl
@[simp] theorem ev_mulR (i : Nat) (k : Int) (A : AH) : opMul [.ref i, .int k] A = mulL A k A[i]? := rfl
@[simp] theorem ev_mulL (A : AH) (k : Int) (xs : List D) : mulL A k (some (.lst xs)) = if -(2 ^ 63) ≤ k ∧ k < 2 ^ 63 then (if xs.length * k.toNat ≤ line then .ok (.ref A.length) (A ++ [.lst (rep k xs)]) else .bad) else .bad := rfl
theorem ev_mulT (xs : List D) (k : Int) (A : AH) : opMul [.tup xs, .int k] A = if xs ≠ [] ∧ 2 ≤ k ∧ k ≤ 1000 ∧ xs.length ≤ 1000 then .ok (.tup (rep k xs)) A else .bad := rfl
@[simp] theorem ev_modI (i j : Int) (A : AH) : opMod [.int i, .int j] A = if j ≠ 0 then .ok (.int (i.fmod j)) A else .bad := rfl
@[simp] theorem ev_divI (i j : Int) (A : AH) : opDiv [.int i, .int j] A = if j ≠ 0 ∧ j.natAbs < 1073741824 then .ok (.int (i.fdiv j)) A else .bad := rfl
@[simp] theorem ev_powI (i j : Int) (A : AH) : opPow [.int i, .int j] A = if 0 ≤ j ∧ j ≤ 1000000 ∧ i.natAbs < 2 ^ 64 then .ok (.int (i ^ j.toNat)) A else .bad := rfl
@[simp] theorem ev_negI (i : Int) (A : AH) : opNeg [.int i] A = .ok (.int (-i)) A := rfl
@[simp] theorem ev_lt (i j : Int) (A : AH) : opLt [.int i, .int j] A = .ok (.bl (decide (i < j))) A := rfl
@[simp] theorem ev_le (i j : Int) (A : AH) : opLe [.int i, .int j] A = .ok (.bl (decide (i ≤ j))) A := rfl
@[simp] theorem ev_gt (i j : Int) (A : AH) : opGt [.int i, .int j] A = .ok (.bl (decide (j < i))) A := rfl
@[simp] theorem ev_ge (i j : Int) (A : AH) : opGe [.int i, .int j] A = .ok (.bl (decide (j ≤ i))) A := rfl
@[simp] theorem ev_is (x : D) (A : AH) : opIs [x, .non] A = .ok (.bl x.isN) A := by cases x <;> rfl
@[simp] theorem ev_nis (x : D) (A : AH) : opNis [x, .non] A = .ok (.bl (!x.isN)) A := by cases x <;> rfl
@[simp] theorem isN_non : D.isN .non = true := rfl
@[simp] theorem isN_int (i : Int) : D.isN (.int i) = false := rfl
@[simp] theorem isN_bl (i : Bool) : D.isN (.bl i) = false := rfl
@[simp] theorem isN_str (i : Str) : D.isN (.str i) = false := rfl
@[simp] theorem isN_tup (i : List D) : D.isN (.tup i) = false := rfl
@[simp] theorem isN_ref (i : Nat) : D.isN (.ref i) = false := rfl
@[simp] theorem ev_ixT (ds : List D) (i : Int) (A : AH) : opIx [.tup ds, .int i] A = okO A (atD ds i) := rfl
@[simp] theorem ev_ixR (j : Nat) (i : Int) (A : AH) : opIx [.ref j, .int i] A = atS A i (seqAt A j) := rfl
@[simp] theorem ev_ixL (j : Nat) (i : Int) (A : AH) : opIxL [.ref j, .int i] A = atS A i (seqAt A j) := rfl
@[simp] theorem ev_atS (A : AH) (i : Int) (ds : List D) : atS A i (some ds) = okO A (atD ds i) := rfl
@[simp] theorem ev_stIx (i : Nat) (j : Int) (d : D) (A : AH) : stIx (.ref i) (.int j) d A = setO i j d A A[i]? := rfl
@[simp] theorem ev_setO (i : Nat) (j : Int) (d : D) (A : AH) (ds : List D) : setO i j d A (some (.lst ds)) = (ixD ds.length j).map fun k => A.set i (.lst (ds.set k d)) := rfl
@[simp] theorem ev_slT (lo hi : Option Int) (A : AH) (ds : List D) : opSl lo hi A (.tup ds) = .ok (.tup (cutD ds lo hi)) A := rfl
@[simp] theorem ev_slR (lo hi : Option Int) (A : AH) (i : Nat) : opSl lo hi A (.ref i) = cutS A lo hi (seqAt A i) := rfl
@[simp] theorem ev_cutS (lo hi : Option Int) (A : AH) (ds : List D) : cutS A lo hi (some ds) = .ok (.ref A.length) (A ++ [.lst (cutD ds lo hi)]) := rfl
@[simp] theorem ev_lenT (ds : List D) (A : AH) : biLen [.tup ds] A = .ok (.int ds.length) A := rfl
@[simp] theorem ev_lenR (i : Nat) (A : AH) : biLen [.ref i] A = lenS A A[i]? := rfl
@[simp] theorem ev_lenSl (A : AH) (ds : List D) : lenS A (some (.lst ds)) = .ok (.int ds.length) A := rfl
@[simp] theorem ev_lenSr (A : AH) (ds : List D) : lenS A (some (.rol ds)) = .ok (.int ds.length) A := rfl
@[simp] theorem ev_listT (ds : List D) (A : AH) : biList [.tup ds] A = .ok (.ref A.length) (A ++ [.lst ds]) := rfl
@[simp] theorem ev_listR (i : Nat) (A : AH) : biList [.ref i] A = toLst A (seqAt A i) := rfl
@[simp] theorem ev_toLst (A : AH) (ds : List D) : toLst A (some ds) = .ok (.ref A.length) (A ++ [.lst ds]) := rfl
@[simp] theorem ev_tupleT (ds : List D) (A : AH) : biTuple [.tup ds] A = .ok (.tup ds) A := rfl
@[simp] theorem ev_tupleR (i : Nat) (A : AH) : biTuple [.ref i] A = toTup A (seqAt A i) := rfl
@[simp] theorem ev_toTup (A : AH) (ds : List D) : toTup A (some ds) = .ok (.tup ds) A := rfl
@[simp] theorem ev_intI (i : Int) (A : AH) : biInt [.int i] A = .ok (.int i) A := rfl
@[simp] theorem ev_intB (b : Bool) (A : AH) : biInt [.bl b] A = .ok (.int (if b then 1 else 0)) A := rfl
@[simp] theorem ev_absI (i : Int) (A : AH) : biAbs [.int i] A = .ok (.int (if i < 0 then -i else i)) A := rfl
@[simp] theorem ev_maxR (i : Nat) (A : AH) : biMax [.ref i] A = maxO A ((seqAt A i).bind intsOf) := rfl
@[simp] theorem ev_maxO (A : AH) (n : Int) (ns : List Int) : maxO A (some (n :: ns)) = .ok (.int (maxI n ns)) A := rfl
@[simp] theorem ev_allR (i : Nat) (A : AH) : biAll [.ref i] A = allO A ((seqAt A i).bind blsOf) := rfl
@[simp] theorem ev_allO (A : AH) (bs : List Bool) : allO A (some bs) = .ok (.bl (bs.all id)) A := rfl
@[simp] theorem ev_anyR (i : Nat) (A : AH) : biAny [.ref i] A = anyO A ((seqAt A i).bind blsOf) := rfl
@[simp] theorem ev_anyO (A : AH) (bs : List Bool) : anyO A (some bs) = .ok (.bl (bs.any id)) A := rfl
@[simp] theorem ev_sumR (i : Nat) (A : AH) : biSum [.ref i] A = sumO A ((seqAt A i).bind intsOf) := rfl
@[simp] theorem ev_sumO (A : AH) (ns : List Int) : sumO A (some ns) = .ok (.int ns.sum) A := rfl
@[simp] theorem ev_isiN (t : Ty) (A : AH) : biIsi t [.non] A = .ok (.bl false) A := rfl
@[simp] theorem ev_isiB (t : Ty) (b : Bool) (A : AH) : biIsi t [.bl b] A = .ok (.bl t.ofB) A := rfl
@[simp] theorem ev_isiI (t : Ty) (b : Int) (A : AH) : biIsi t [.int b] A = .ok (.bl t.ofI) A := rfl
@[simp] theorem ev_isiS (t : Ty) (b : Str) (A : AH) : biIsi t [.str b] A = .ok (.bl t.ofS) A := rfl
@[simp] theorem ev_isiT (t : Ty) (b : List D) (A : AH) : biIsi t [.tup b] A = .ok (.bl t.ofT) A := rfl
@[simp] theorem ev_isiR (t : Ty) (i : Nat) (A : AH) : biIsi t [.ref i] A = tyO t A A[i]? := rfl
@[simp] theorem ev_tyO (t : Ty) (A : AH) (ds : List D) : tyO t A (some (.lst ds)) = .ok (.bl t.ofL) A := rfl
@[simp] theorem ev_app (i : Nat) (d : D) (A : AH) : mAppend [.ref i, d] A = appO i d A A[i]? := rfl
@[simp] theorem ev_appO (i : Nat) (d : D) (A : AH) (ds : List D) : appO i d A (some (.lst ds)) = if ds.length < line then .ok .non (A.set i (.lst (ds ++ [d]))) else .bad := rfl
@[simp] theorem ev_isKdR (k : Kd) (A : AH) (i : Nat) : isKd k A (.ref i) = kindO k A[i]? := rfl
@[simp] theorem ev_kindL (ds : List D) : kindO .list (some (.lst ds)) = true := rfl
@[simp] theorem ev_kindD (ds : List (D × D)) : kindO .dict (some (.dic ds)) = true := rfl
theorem isIns_of {c : Nat} {A : AH} {i : Nat} {fs : List (Nat × D)} (h : A[i]? = some (.ins c fs)) : isIns c A (.ref i) = true := by simp [isIns, h]
@[simp] theorem ev_fFld (cs : List Nat) (n i : Nat) (A : AH) : fFld cs n [.ref i] A = oFld cs n A A[i]? := rfl
@[simp] theorem ev_oFld (cs : List Nat) (n : Nat) (A : AH) (c : Nat) (fs : List (Nat × D)) : oFld cs n A (some (.ins c fs)) = if c ∈ cs then okD A (some (lookF n fs)) else .bad := rfl
@[simp] theorem ev_putFld (cs : List Nat) (n : Nat) (d : D) (A : AH) (i : Nat) : putFld cs n d A (.ref i) = oPut cs n i d A A[i]? := rfl
@[simp] theorem ev_oPut (cs : List Nat) (n i : Nat) (d : D) (A : AH) (c : Nat) (fs : List (Nat × D)) : oPut cs n i d A (some (.ins c fs)) = if c ∈ cs ∧ fs.length < 1000 then some (A.set i (.ins c (setF n d fs))) else none := rfl
@[simp] theorem lookF_nil (n : Nat) : lookF n [] = none := rfl
@[simp] theorem lookF_cons (n m : Nat) (c : D) (r : List (Nat × D)) : lookF n ((m, c) :: r) = if m = n then some c else lookF n r := rfl
@[simp] theorem setF_nil (n : Nat) (d : D) : setF n d [] = [(n, d)] := rfl
@[simp] theorem setF_cons (n m : Nat) (c d : D) (r : List (Nat × D)) : setF n d ((m, c) :: r) = if m = n then (m, d) :: r else (m, c) :: setF n d r := rfl
@[simp] theorem wipeE_nil (E : Env) : wipeE E [] = E := rfl
@[simp] theorem wipeE_cons (E : Env) (v : Nat) (vs : List Nat) : wipeE E (v :: vs) = (wipeE E vs).set v none := rfl
@[simp] theorem fgE_nil (E : Env) : fgE [] E = E := rfl
@[simp] theorem fgE_cons (E : Env) (v : Nat) (vs : List Nat) : fgE (v :: vs) E = fgE vs (E.set v none) := rfl
@[simp] theorem fgR_nx (is : List Nat) (E : Env) (A : AH) : fgR is (.nx E A) = .nx (fgE is E) A := rfl
@[simp] theorem fgR_rt (is : List Nat) (d : D) (A : AH) : fgR is (.rt d A) = .rt d A := rfl
@[simp] theorem ev_sGc (m : Sx) (E : Env) (A : AH) : sGc m E A = gcS A (m E A) := rfl
@[simp] theorem gcS_nx (A : AH) (E : Env) (B : AH) : gcS A (.nx E B) = .nx E (gcE A E B) := rfl
@[simp] theorem gcS_rt (A : AH) (d : D) (B : AH) : gcS A (.rt d B) = .rt d B := rfl
@[simp] theorem gcE_same (A : AH) (E : Env) : gcE A E A = A := by
  unfold gcE
  simp
@[simp] theorem bd_non (n : Nat) : D.bd n .non = true := by simp [D.bd]
@[simp] theorem bd_bl (n : Nat) (b : Bool) : D.bd n (.bl b) = true := by simp [D.bd]
@[simp] theorem bd_int (n : Nat) (i : Int) : D.bd n (.int i) = true := by simp [D.bd]
@[simp] theorem bd_str (n : Nat) (i : Str) : D.bd n (.str i) = true := by simp [D.bd]
@[simp] theorem bd_tup (n : Nat) (ds : List D) : D.bd n (.tup ds) = bdAll n ds := by simp [D.bd]
@[simp] theorem bd_ref (n i : Nat) : D.bd n (.ref i) = decide (i < n) := by simp [D.bd]
@[simp] theorem bdAll_nil (n : Nat) : bdAll n [] = true := by simp [bdAll]
@[simp] theorem bdAll_cons (n : Nat) (d : D) (ds : List D) : bdAll n (d :: ds) = (d.bd n && bdAll n ds) := by simp [bdAll]
theorem bdAll_iff (n : Nat) : ∀ ds : List D, bdAll n ds = true ↔ ∀ d ∈ ds, d.bd n = true
  | [] => by simp
  | d :: ds => by simp [bdAll_iff n ds]
theorem okPre_refl (A : AH) : okPre A A := ⟨rfl, fun _ _ h => .inl h⟩
theorem okPre_app (A G : AH) : okPre A ((A ++ G).take A.length) := by rw [List.take_left]; exact okPre_refl A
/-- some object is another one -/
theorem okPre_set {A : AH} {i : Nat} {o : O} (hi : i < A.length) (h : o.bd A.length = true) : okPre A (A.set i o) := ⟨by rw [List.length_set], fun j u e => by
  by_cases z : i = j
  · subst z
    rw [List.getElem?_set_self hi] at e
    cases e
    exact .inr h
  · rw [List.getElem?_set_ne z] at e
    exact .inl e⟩
theorem gc_val {A : AH} {d : D} {B : AH} (h : d.bd A.length = true) (p : okPre A (B.take A.length)) : gc A d B = .ok d (B.take A.length) := by
  unfold gc
  rw [if_pos ⟨h, p⟩]
theorem gc_app {A : AH} {d : D} (G : AH) (h : d.bd A.length = true) : gc A d (A ++ G) = .ok d A := by
  rw [gc_val h (okPre_app A G), List.take_left]
@[simp] theorem gc_self {A : AH} {d : D} (h : d.bd A.length = true) : gc A d A = .ok d A := by
  have := gc_app (A := A) (d := d) [] h
  rwa [List.append_nil] at this
theorem gc_set {A : AH} {d : D} {i : Nat} {o : O} (h : d.bd A.length = true) (hi : i < A.length) (ho : o.bd A.length = true) : gc A d (A.set i o) = .ok d (A.set i o) := by
  have e : (A.set i o).take A.length = A.set i o := by rw [List.take_of_length_le]; rw [List.length_set]; exact Nat.le_refl _
  have := gc_val (B := A.set i o) h (by rw [e]; exact okPre_set hi ho)
  rwa [e] at this
/-- a fresh object comes back -/
theorem gc_new {A G : AH} {j : Nat} {o : O} (e : G[j]? = some o) (m : o.mut = true) (h : o.bd A.length = true) : gc A (.ref (A.length + j)) (A ++ G) = .ok (.ref A.length) (A ++ [o]) := by
  unfold gc
  rw [if_neg (fun z => by have q := z.1; rw [bd_ref, decide_eq_true_eq] at q; omega)]
  have : refO A (A ++ G) (.ref (A.length + j)) = some o := by
    simp [refO, List.getElem?_append_right, e]
  rw [this]
  unfold gcO
  simp only []
  rw [if_pos ⟨m, h, okPre_app A G⟩, List.take_left]
theorem gcE_app {A : AH} {E : Env} (G : AH) (h : envBd A.length E = true) : gcE A E (A ++ G) = A := by
  unfold gcE
  rw [if_pos ⟨h, okPre_app A G⟩, List.take_left]
@[simp] theorem envBd_nil (n : Nat) : envBd n [] = true := rfl
@[simp] theorem envBd_some (n : Nat) (d : D) (E : Env) : envBd n (some d :: E) = (d.bd n && envBd n E) := rfl
@[simp] theorem envBd_none (n : Nat) (E : Env) : envBd n (none :: E) = envBd n E := rfl

/-! ### ends: what holds behind -/
def Res.sat {α : Type} (r : Res α) (P : α → AH → Prop) : Prop := match r with
  | .ok a A => P a A
  | _ => False
@[simp] theorem sat_ok {α : Type} (a : α) (A : AH) (P : α → AH → Prop) : (Res.ok a A).sat P = P a A := rfl
@[simp] theorem sat_bad {α : Type} (P : α → AH → Prop) : (Res.bad : Res α).sat P = False := rfl
@[simp] theorem sat_bind {α β : Type} (r : Res α) (f : α → AH → Res β) (P : β → AH → Prop) : (r.bind f).sat P = r.sat fun a A => (f a A).sat P := by cases r <;> rfl
@[simp] theorem sat_bindN {α β : Type} (r : Res α) (f : α → AH → Res β) (P : β → AH → Prop) : (r.bindN f).sat P = r.sat fun a A => (f a A).sat P := by cases r <;> rfl
theorem Res.sat.mono {α : Type} {r : Res α} {P Q : α → AH → Prop} (h : r.sat P) (q : ∀ a A, P a A → Q a A) : r.sat Q := by
  cases r with
  | ok a A => exact q a A h
  | _ => exact h
theorem sat_iff {α : Type} {r : Res α} {P : α → AH → Prop} : r.sat P ↔ ∃ a A, r = .ok a A ∧ P a A := by
  cases r with
  | ok a A => exact ⟨fun h => ⟨a, A, rfl, h⟩, fun ⟨_, _, e, h⟩ => by cases e; exact h⟩
  | exc x A => exact ⟨fun h => h.elim, fun ⟨_, _, e, _⟩ => by cases e⟩
  | bad => exact ⟨fun h => h.elim, fun ⟨_, _, e, _⟩ => by cases e⟩
def SRes.sat (r : SRes) (N : Env → AH → Prop) (R : D → AH → Prop) : Prop := match r with
  | .nx E A => N E A
  | .rt d A => R d A
  | _ => False
@[simp] theorem ssat_nx (E : Env) (A : AH) (N : Env → AH → Prop) (R : D → AH → Prop) : (SRes.nx E A).sat N R = N E A := rfl
@[simp] theorem ssat_rt (d : D) (A : AH) (N : Env → AH → Prop) (R : D → AH → Prop) : (SRes.rt d A).sat N R = R d A := rfl
@[simp] theorem ssat_bad (N : Env → AH → Prop) (R : D → AH → Prop) : SRes.bad.sat N R = False := rfl
@[simp] theorem ssat_seq (r : SRes) (f : Sx) (N : Env → AH → Prop) (R : D → AH → Prop) : (r.seq f).sat N R = r.sat (fun E A => (f E A).sat N R) R := by cases r <;> rfl
@[simp] theorem ssat_then {α : Type} (r : Res α) (E : Env) (f : α → AH → SRes) (N : Env → AH → Prop) (R : D → AH → Prop) : (r.then E f).sat N R = r.sat fun a A => (f a A).sat N R := by cases r <;> rfl
@[simp] theorem ssat_only (r : SRes) (N : Env → AH → Prop) (R : D → AH → Prop) : r.only.sat N R = r.sat N fun _ _ => False := by cases r <;> rfl
theorem SRes.sat.mono {r : SRes} {N N' : Env → AH → Prop} {R R' : D → AH → Prop} (h : r.sat N R) (q : ∀ E A, N E A → N' E A) (p : ∀ d A, R d A → R' d A) : r.sat N' R' := by
  cases r with
  | nx E A => exact q E A h
  | rt d A => exact p d A h
  | _ => exact h
/-- a def's end -/
theorem sat_def {np N : Nat} {b : Sx} {ds : List D} {A : AH} {P : D → AH → Prop} (hl : ds.length = np) (h : (b (startE N ds) A).sat (fun _ B => (gc A .non B).sat P) fun d B => (gc A d B).sat P) : (runDef np N b ds A).sat P := by
  unfold runDef
  rw [if_pos hl]
  cases e : b (startE N ds) A with
  | nx E B => rw [e] at h; exact h
  | rt d B => rw [e] at h; exact h
  | _ => rw [e] at h; exact h.elim
/-- turns of a for -/
def tsat (r : SRes) (J N : Env → AH → Prop) (R : D → AH → Prop) : Prop := match r with
  | .nx E A => J E A
  | .ct E A => J E A
  | .bk E A => N E A
  | .rt d A => R d A
  | _ => False
theorem for_sat {src : Src} {g : Gx} {b : Sx} {E : Env} {A : AH} {N : Env → AH → Prop} {R : D → AH → Prop} (n : Nat) (I : Nat → Env → AH → Prop) (hn : n ≤ src.size A) (h0 : I 0 E A)
    (hs : ∀ k E A, k < n → I k E A → ∃ d, src.at A k = .item d ∧ tsat ((g d E A).only.seq b) (I (k + 1)) N R) (he : ∀ E A, I n E A → src.at A n = .stop ∧ N E A) : (kFor g b E src A).sat N R := by
  have main : ∀ m k E A, k + m = n → I k E A → ∀ f, m + 1 ≤ f → (forN src g b f k E A).sat N R := by
    intro m
    induction m with
    | zero =>
      intro k E A hk hI f hf
      obtain ⟨f, rfl⟩ : ∃ f', f = f' + 1 := ⟨f - 1, by omega⟩
      have e : k = n := by omega
      subst e
      obtain ⟨q1, q2⟩ := he E A hI
      show (forK g b (forN src g b f (k + 1)) E A (src.at A k)).sat N R
      rw [q1]
      exact q2
    | succ m ih =>
      intro k E A hk hI f hf
      obtain ⟨f, rfl⟩ : ∃ f', f = f' + 1 := ⟨f - 1, by omega⟩
      obtain ⟨d, q1, q2⟩ := hs k E A (by omega) hI
      show (forK g b (forN src g b f (k + 1)) E A (src.at A k)).sat N R
      rw [q1]
      show (((g d E A).only.seq b).turn (forN src g b f (k + 1))).sat N R
      cases z : (g d E A).only.seq b with
      | nx E2 A2 => rw [z] at q2; exact ih (k + 1) E2 A2 (by omega) q2 f (by omega)
      | ct E2 A2 => rw [z] at q2; exact ih (k + 1) E2 A2 (by omega) q2 f (by omega)
      | bk E2 A2 => rw [z] at q2; exact q2
      | rt d2 A2 => rw [z] at q2; exact q2
      | _ => rw [z] at q2; exact q2.elim
  exact main n 0 E A (by omega) h0 _ (by omega)
theorem tsat_of {r : SRes} {J N : Env → AH → Prop} {R : D → AH → Prop} (h : r.sat J R) : tsat r J N R := by cases r <;> first | exact h | exact h.elim
theorem tsat_seq {r : SRes} {b : Sx} {J N : Env → AH → Prop} {R : D → AH → Prop} (h : r.sat (fun E A => tsat (b E A) J N R) R) : tsat (r.seq b) J N R := by cases r <;> first | exact h | exact h.elim
theorem while_sat {t : Tx} {b : Sx} {E : Env} {A : AH} {N : Env → AH → Prop} {R : D → AH → Prop} (n : Nat) (I : Nat → Env → AH → Prop) (hn : n < fuel) (h0 : I n E A)
    (hs : ∀ k E A, I k E A → (t E A).sat fun c A1 => if c = true then ∃ j, k = j + 1 ∧ tsat (b E A1) (I j) N R else N E A1) : (sWhile t b E A).sat N R := by
  have main : ∀ n E A f, n < f → I n E A → (whileN t b f E A).sat N R := by
    intro n
    induction n with
    | zero =>
      intro E A f hf hI
      obtain ⟨f, rfl⟩ : ∃ f', f = f' + 1 := ⟨f - 1, by omega⟩
      have q := hs 0 E A hI
      show ((t E A).then E (kWh b (whileN t b f) E)).sat N R
      rw [ssat_then]
      refine q.mono fun c A1 z => ?_
      cases c with
      | false => exact z
      | true =>
        obtain ⟨j, e, _⟩ : ∃ j, 0 = j + 1 ∧ tsat (b E A1) (I j) N R := z
        cases e
    | succ n ih =>
      intro E A f hf hI
      obtain ⟨f, rfl⟩ : ∃ f', f = f' + 1 := ⟨f - 1, by omega⟩
      have q := hs (n + 1) E A hI
      show ((t E A).then E (kWh b (whileN t b f) E)).sat N R
      rw [ssat_then]
      refine q.mono fun c A1 z => ?_
      cases c with
      | false => exact z
      | true =>
        obtain ⟨j, e, z⟩ : ∃ j, n + 1 = j + 1 ∧ tsat (b E A1) (I j) N R := z
        cases e
        show ((b E A1).turn (whileN t b f)).sat N R
        cases y : b E A1 with
        | nx E2 A2 => rw [y] at z; exact ih E2 A2 f (by omega) z
        | ct E2 A2 => rw [y] at z; exact ih E2 A2 f (by omega) z
        | bk E2 A2 => rw [y] at z; exact z
        | rt d2 A2 => rw [y] at z; exact z
        | _ => rw [y] at z; exact z.elim
  exact main n E A fuel hn h0
/-- a comprehension; I k A: its list (at the number l) is within A -/
theorem lc_sat {src : Src} {g : Gx} {t : Tx} {e : Ex} {E : Env} {A : AH} {P : D → AH → Prop} (n : Nat) (I : Nat → AH → Prop) (hn : n ≤ src.size A) (h0 : I 0 (A ++ [.lst []]))
    (hs : ∀ k B, k < n → I k B → ∃ d E5 A5, src.at B k = .item d ∧ g d E B = .nx E5 A5 ∧ (t E5 A5).sat fun c A6 => if c = true then (e E5 A6).sat (fun y A7 => ∃ acc, A7[A.length]? = some (.lst acc) ∧ acc.length < line ∧ I (k + 1) (A7.set A.length (.lst (acc ++ [y])))) else I (k + 1) A6)
    (he : ∀ B, I n B → src.at B n = .stop ∧ P (.ref A.length) B) : (kLc g t e E src A).sat P := by
  have main : ∀ m k B, k + m = n → I k B → ∀ f, m + 1 ≤ f → (lcN src g t e E A.length f k B).sat P := by
    intro m
    induction m with
    | zero =>
      intro k B hk hI f hf
      obtain ⟨f, rfl⟩ : ∃ f', f = f' + 1 := ⟨f - 1, by omega⟩
      have e0 : k = n := by omega
      subst e0
      obtain ⟨q1, q2⟩ := he B hI
      show (lcK g t e E A.length (lcN src g t e E A.length f (k + 1)) B (src.at B k)).sat P
      rw [q1]
      exact q2
    | succ m ih =>
      intro k B hk hI f hf
      obtain ⟨f, rfl⟩ : ∃ f', f = f' + 1 := ⟨f - 1, by omega⟩
      obtain ⟨d, E5, A5, q1, q2, q3⟩ := hs k B (by omega) hI
      show (lcK g t e E A.length (lcN src g t e E A.length f (k + 1)) B (src.at B k)).sat P
      rw [q1]
      show (kLc1 t e A.length (lcN src g t e E A.length f (k + 1)) (g d E B)).sat P
      rw [q2]
      show ((t E5 A5).bindN (kLc2 e E5 A.length (lcN src g t e E A.length f (k + 1)))).sat P
      rw [sat_bindN]
      refine q3.mono fun c A6 z => ?_
      cases c with
      | false => exact ih (k + 1) A6 (by omega) z f (by omega)
      | true =>
        show ((e E5 A6).bindN (kLc3 A.length (lcN src g t e E A.length f (k + 1)))).sat P
        rw [sat_bindN]
        refine Res.sat.mono (P := fun y A7 => ∃ acc, A7[A.length]? = some (.lst acc) ∧ acc.length < line ∧ I (k + 1) (A7.set A.length (.lst (acc ++ [y])))) z fun y A7 ⟨acc, r1, r2, r3⟩ => ?_
        show (okA (lcN src g t e E A.length f (k + 1)) (addTo A.length y A7)).sat P
        have : addTo A.length y A7 = some (A7.set A.length (.lst (acc ++ [y]))) := by
          unfold addTo addO
          rw [r1]
          simp only [r2, if_true]
        rw [this]
        exact ih (k + 1) _ (by omega) r3 f (by omega)
  exact main n 0 _ (by omega) h0 _ (by omega)
@[simp] theorem sat_ite {α : Type} (p : Prop) [Decidable p] (r s : Res α) (P : α → AH → Prop) : (if p then r else s).sat P ↔ (p → r.sat P) ∧ (¬p → s.sat P) := by
  by_cases h : p <;> simp [h]
@[simp] theorem ssat_ite (p : Prop) [Decidable p] (r s : SRes) (N : Env → AH → Prop) (R : D → AH → Prop) : (if p then r else s).sat N R ↔ (p → r.sat N R) ∧ (¬p → s.sat N R) := by
  by_cases h : p <;> simp [h]
@[simp] theorem tsat_ite (p : Prop) [Decidable p] (r s : SRes) (J N : Env → AH → Prop) (R : D → AH → Prop) : tsat (if p then r else s) J N R ↔ (p → tsat r J N R) ∧ (¬p → tsat s J N R) := by
  by_cases h : p <;> simp [h]
theorem upto_len (lo : Int) (n : Nat) : (upto lo n).length = n := by simp [upto]
theorem enumD_len : ∀ (ds : List D) (k : Nat), (enumD k ds).length = ds.length
  | [], _ => rfl
  | d :: ds, k => by simp [enumD, enumD_len ds]
theorem sat_eq {α : Type} {r : Res α} {x : α} {A : AH} (h : r.sat fun a B => a = x ∧ B = A) : r = .ok x A := by
  obtain ⟨a, B, e, rfl, rfl⟩ := sat_iff.mp h
  exact e
theorem set_last {A G : AH} {o o' : O} : (A ++ o :: G).set A.length o' = A ++ o' :: G := by
  rw [List.set_append_right _ _ (Nat.le_refl _), Nat.sub_self]
  rfl
theorem get_last {A G : AH} {o : O} : (A ++ o :: G)[A.length]? = some o := by
  rw [List.getElem?_append_right (Nat.le_refl _), Nat.sub_self]
  rfl
theorem get_left {A G : AH} {i : Nat} {o : O} (h : A[i]? = some o) : (A ++ G)[i]? = some o := by
  rw [List.getElem?_append_left (List.getElem?_eq_some_iff.mp h).1]
  exact h
/-- a comprehension that changes nothing: the items that pass, mapped -/
theorem lc_fm {src : Src} {g : Gx} {t : Tx} {e : Ex} {E : Env} {A : AH} {ds : List D} (Ed : D → Env) (p : D → Bool) (f : D → D) (hl : ds.length ≤ line) (hsz : src.size A = ds.length) (hat : ∀ G k, src.at (A ++ G) k = stepO ds[k]?)
    (hg : ∀ d ∈ ds, ∀ G, g d E (A ++ G) = .nx (Ed d) (A ++ G)) (ht : ∀ d ∈ ds, ∀ G, t (Ed d) (A ++ G) = .ok (p d) (A ++ G)) (he : ∀ d ∈ ds, p d = true → ∀ G, e (Ed d) (A ++ G) = .ok (f d) (A ++ G)) :
    kLc g t e E src A = .ok (.ref A.length) (A ++ [.lst ((ds.filter p).map f)]) := by
  refine sat_eq (lc_sat ds.length (fun k B => k ≤ ds.length ∧ B = A ++ [.lst (((ds.take k).filter p).map f)]) (Nat.le_of_eq hsz.symm) ⟨Nat.zero_le _, by simp⟩ ?_ ?_)
  · rintro k B hk ⟨_, rfl⟩
    obtain ⟨d, hd⟩ : ∃ d, ds[k]? = some d := ⟨_, List.getElem?_eq_getElem hk⟩
    have hm : d ∈ ds := List.mem_of_getElem? hd
    have htk : ds.take (k + 1) = ds.take k ++ [d] := by rw [List.take_add_one, hd]; rfl
    refine ⟨d, Ed d, _, by rw [hat, hd]; rfl, hg d hm _, ?_⟩
    rw [ht d hm]
    show if p d = true then _ else _
    by_cases z : p d = true
    · rw [if_pos z, he d hm z]
      refine ⟨_, get_last, ?_, hk, ?_⟩
      · rw [List.length_map]
        exact Nat.lt_of_le_of_lt (List.length_filter_le _ _) (by rw [List.length_take]; omega)
      · rw [set_last, htk, List.filter_append, List.map_append]
        simp [z]
    · rw [if_neg z]
      refine ⟨hk, ?_⟩
      rw [htk, List.filter_append]
      simp [z]
  · rintro B ⟨_, rfl⟩
    refine ⟨by rw [hat, List.getElem?_eq_none (Nat.le_refl _)]; rfl, rfl, by rw [List.take_length]⟩
theorem lc_map {src : Src} {g : Gx} {e : Ex} {E : Env} {A : AH} {ds : List D} (Ed : D → Env) (f : D → D) (hl : ds.length ≤ line) (hsz : src.size A = ds.length) (hat : ∀ G k, src.at (A ++ G) k = stepO ds[k]?)
    (hg : ∀ d ∈ ds, ∀ G, g d E (A ++ G) = .nx (Ed d) (A ++ G)) (he : ∀ d ∈ ds, ∀ G, e (Ed d) (A ++ G) = .ok (f d) (A ++ G)) :
    kLc g tYes e E src A = .ok (.ref A.length) (A ++ [.lst (ds.map f)]) := by
  have q := lc_fm (g := g) (t := tYes) (e := e) (E := E) (A := A) (src := src) Ed (fun _ => true) f hl hsz hat hg (fun _ _ _ => rfl) (fun d h _ => he d h)
  rwa [List.filter_eq_self.mpr (fun _ _ => rfl)] at q
theorem at_seq (ds : List D) (A : AH) (k : Nat) : (Src.seq ds).at A k = stepO ds[k]? := rfl
theorem at_lst {A : AH} {i : Nat} {ds : List D} (h : seqO A[i]? = some ds) (k : Nat) : (Src.lst i).at A k = stepO ds[k]? := by
  show (match seqAt A i with | some ds => stepO ds[k]? | none => .bad) = _
  rw [show seqAt A i = some ds from h]
theorem at_enum {A : AH} {i : Nat} {ds : List D} (h : seqO A[i]? = some ds) (k : Nat) : (Src.enum i).at A k = stepE k ds[k]? := by
  show (match seqAt A i with | some ds => stepE k ds[k]? | none => .bad) = _
  rw [show seqAt A i = some ds from h]
theorem size_lst {A : AH} {i : Nat} {ds : List D} (h : seqO A[i]? = some ds) : (Src.lst i).size A = ds.length := by
  show ((seqAt A i).getD []).length = _
  rw [show seqAt A i = some ds from h]
  rfl
theorem size_enum {A : AH} {i : Nat} {ds : List D} (h : seqO A[i]? = some ds) : (Src.enum i).size A = ds.length := by
  show ((seqAt A i).getD []).length = _
  rw [show seqAt A i = some ds from h]
  rfl
theorem seq_sat {a b : Sx} {E : Env} {A : AH} {N : Env → AH → Prop} {R : D → AH → Prop} (N1 : Env → AH → Prop) (h : (a E A).sat N1 R) (k : ∀ E A, N1 E A → (b E A).sat N R) : (sSeq a b E A).sat N R := by
  rw [ev_sSeq, ssat_seq]
  exact h.mono k fun _ _ q => q
theorem gcE_keep {A : AH} {E : Env} {B : AH} (h : envBd A.length E = false) : gcE A E B = B := by
  unfold gcE
  rw [if_neg (fun z => by rw [z.1] at h; cases h)]
theorem gcE_ok' {A : AH} {E : Env} {B : AH} (h : envBd A.length E = true) (p : okPre A (B.take A.length)) : gcE A E B = B.take A.length := by
  unfold gcE
  rw [if_pos ⟨h, p⟩]
theorem gc_bl (A : AH) (b : Bool) (B : AH) : (gc A (.bl b) B).sat fun d _ => d = .bl b := by
  unfold gc
  split
  · exact rfl
  · exact rfl
theorem envBd_iff (n : Nat) : ∀ E : Env, envBd n E = true ↔ ∀ d, some d ∈ E → d.bd n = true
  | [] => by simp
  | some c :: E => by
    simp [envBd_iff n E]
  | none :: E => by
    simp [envBd_iff n E]
@[simp] theorem ssat_gcS (A : AH) (r : SRes) (N : Env → AH → Prop) (R : D → AH → Prop) : (gcS A r).sat N R = r.sat (fun E B => N E (gcE A E B)) R := by cases r <;> rfl
@[simp] theorem ssat_fgR (is : List Nat) (r : SRes) (N : Env → AH → Prop) (R : D → AH → Prop) : (fgR is r).sat N R = r.sat (fun E B => N (fgE is E) B) R := by cases r <;> rfl
theorem gcE_len {A : AH} {E : Env} {B : AH} (h : B.length ≤ A.length) : gcE A E B = B := by
  unfold gcE
  split
  · exact List.take_of_length_le h
  · rfl
end DL
set_option Elab.async false
set_option linter.all false
set_option maxRecDepth 100000
set_option maxHeartbeats 4000000
/-! Equality of pure values (own work). -/
namespace DL
open PySem
mutual
def D.py : D → PyData
  | .non => .none
  | .bl b => .bool b
  | .int i => .int i
  | .str x => .str x
  | .tup ds => .tuple (pys ds)
  | .ref _ => .none
def pys : List D → List PyData
  | [] => []
  | d :: ds => D.py d :: pys ds
end
mutual
/-- no object in it; at most n deep -/
def D.pur : Nat → D → Bool
  | 0, _ => false
  | _ + 1, .non => true
  | _ + 1, .bl _ => true
  | _ + 1, .int _ => true
  | _ + 1, .str x => PyData.canLay0 (.str x)
  | n + 1, .tup ds => purs n ds
  | _ + 1, .ref _ => false
def purs : Nat → List D → Bool
  | _, [] => true
  | n, d :: ds => D.pur n d && purs n ds
end
mutual
/-- no bool in it -/
def D.nob : D → Bool
  | .bl _ => false
  | .tup ds => nobs ds
  | .non => true
  | .int _ => true
  | .str _ => true
  | .ref _ => false
def nobs : List D → Bool
  | [] => true
  | d :: ds => D.nob d && nobs ds
end
theorem purs_iff (n : Nat) : ∀ ds : List D, purs n ds = true ↔ ∀ d ∈ ds, d.pur n = true
  | [] => by simp [purs]
  | d :: ds => by simp [purs, purs_iff n ds]
theorem nobs_iff : ∀ ds : List D, nobs ds = true ↔ ∀ d ∈ ds, d.nob = true
  | [] => by simp [nobs]
  | d :: ds => by simp [nobs, nobs_iff ds]
@[simp] theorem pur_int (n : Nat) (i : Int) : D.pur (n + 1) (.int i) = true := by simp [D.pur]
@[simp] theorem pur_bl (n : Nat) (i : Bool) : D.pur (n + 1) (.bl i) = true := by simp [D.pur]
@[simp] theorem pur_non (n : Nat) : D.pur (n + 1) .non = true := by simp [D.pur]
@[simp] theorem pur_tup (n : Nat) (ds : List D) : D.pur (n + 1) (.tup ds) = purs n ds := by simp [D.pur]
@[simp] theorem purs_nil (n : Nat) : purs n [] = true := by simp [purs]
@[simp] theorem purs_cons (n : Nat) (d : D) (ds : List D) : purs n (d :: ds) = (d.pur n && purs n ds) := by simp [purs]
@[simp] theorem nob_int (i : Int) : D.nob (.int i) = true := by simp [D.nob]
@[simp] theorem nob_non : D.nob .non = true := by simp [D.nob]
@[simp] theorem nob_tup (ds : List D) : D.nob (.tup ds) = nobs ds := by simp [D.nob]
@[simp] theorem nobs_nil : nobs [] = true := by simp [nobs]
@[simp] theorem nobs_cons (d : D) (ds : List D) : nobs (d :: ds) = (d.nob && nobs ds) := by simp [nobs]
@[simp] theorem py_int (i : Int) : D.py (.int i) = .int i := by simp [D.py]
@[simp] theorem py_bl (i : Bool) : D.py (.bl i) = .bool i := by simp [D.py]
@[simp] theorem py_non : D.py .non = .none := by simp [D.py]
@[simp] theorem py_str (i : Str) : D.py (.str i) = .str i := by simp [D.py]
@[simp] theorem py_tup (ds : List D) : D.py (.tup ds) = .tuple (pys ds) := by simp [D.py]
@[simp] theorem pys_nil : pys [] = [] := by simp [pys]
@[simp] theorem pys_cons (d : D) (ds : List D) : pys (d :: ds) = d.py :: pys ds := by simp [pys]
theorem purs_app {n : Nat} {xs ys : List D} : purs n (xs ++ ys) = (purs n xs && purs n ys) := by
  induction xs with
  | nil => simp
  | cons x xs ih => simp [ih, Bool.and_assoc]
theorem nobs_app {xs ys : List D} : nobs (xs ++ ys) = (nobs xs && nobs ys) := by
  induction xs with
  | nil => simp
  | cons x xs ih => simp [ih, Bool.and_assoc]
theorem allSome_some {α : Type} : ∀ (l : List α), allSome (l.map some) = some l
  | [] => rfl
  | a :: l => by simp [allSome, allSome_some l]
mutual
theorem toPy_pur {A : AH} : ∀ {n : Nat} {d : D}, d.pur n = true → toPy A n d = some d.py
  | 0, _, h => by simp [D.pur] at h
  | n + 1, .non, h => by simp [toPy]
  | n + 1, .bl _, h => by simp [toPy]
  | n + 1, .int _, h => by simp [toPy]
  | n + 1, .str x, h => by
    have h' : PyData.canLay0 (.str x) = true := by simpa [D.pur] using h
    simp [toPy, h']
  | n + 1, .tup ds, h => by
    have h' : purs n ds = true := by simpa using h
    simp [toPy, toPys_pur h']
  | n + 1, .ref _, h => by simp [D.pur] at h
theorem toPys_pur {A : AH} : ∀ {n : Nat} {ds : List D}, purs n ds = true → allSome (ds.map (toPy A n)) = some (pys ds)
  | n, [], h => by simp [allSome]
  | n, d :: ds, h => by
    have h' : d.pur n = true ∧ purs n ds = true := by simpa using h
    simp [allSome, toPy_pur h'.1, toPys_pur h'.2]
end
theorem toPy_lst {A : AH} {n i : Nat} {ds : List D} (e : seqAt A i = some ds) (h : purs n ds = true) : toPy A (n + 1) (.ref i) = some (.list (pys ds)) := by
  simp only [toPy, e, toPys_pur h, Option.map_some]
mutual
theorem eqv_same : ∀ (d : D), PyData.eqv d.py d.py = true
  | .non => by simp [PyData.eqv]
  | .bl _ => by simp [PyData.eqv]
  | .int _ => by simp [PyData.eqv]
  | .str _ => by simp [PyData.eqv]
  | .tup ds => by simp [PyData.eqv, eqvAll_same ds]
  | .ref _ => by simp [D.py, PyData.eqv]
theorem eqvAll_same : ∀ (ds : List D), PyData.eqvAll (pys ds) (pys ds) = true
  | [] => by simp [PyData.eqvAll]
  | d :: ds => by simp [PyData.eqvAll, eqv_same d, eqvAll_same ds]
end
mutual
theorem eqv_eq : ∀ (d e : D), d.nob = true → e.nob = true → (PyData.eqv d.py e.py = true ↔ d = e)
  | .non, e, _, he => by cases e <;> simp_all [PyData.eqv, D.nob]
  | .bl _, e, hd, he => by simp [D.nob] at hd
  | .int i, e, hd, he => by cases e <;> simp_all [PyData.eqv, D.nob]
  | .str x, e, hd, he => by cases e <;> simp_all [PyData.eqv, D.nob]
  | .ref _, e, hd, he => by simp [D.nob] at hd
  | .tup ds, .tup es, hd, he => by
    simp only [nob_tup] at hd he
    simp only [py_tup, PyData.eqv, D.tup.injEq]
    exact eqvAll_eq ds es hd he
  | .tup ds, .non, hd, he => by simp [PyData.eqv]
  | .tup ds, .int _, hd, he => by simp [PyData.eqv]
  | .tup ds, .str _, hd, he => by simp [PyData.eqv]
  | .tup ds, .bl _, hd, he => by simp [D.nob] at he
  | .tup ds, .ref _, hd, he => by simp [D.nob] at he
theorem eqvAll_eq : ∀ (ds es : List D), nobs ds = true → nobs es = true → (PyData.eqvAll (pys ds) (pys es) = true ↔ ds = es)
  | [], [], _, _ => by simp [PyData.eqvAll]
  | [], e :: es, _, _ => by simp [PyData.eqvAll]
  | d :: ds, [], _, _ => by simp [PyData.eqvAll]
  | d :: ds, e :: es, hd, he => by
    simp only [nobs_cons, Bool.and_eq_true] at hd he
    simp only [pys_cons, PyData.eqvAll, Bool.and_eq_true, List.cons.injEq]
    rw [eqv_eq d e hd.1 he.1, eqvAll_eq ds es hd.2 he.2]
end
/-- equality as Python sees it -/
def eqD (x y : D) : Bool := PyData.eqv x.py y.py
def eqDs (x y : List D) : Bool := PyData.eqvAll (pys x) (pys y)
theorem opEq_pur {A : AH} {x y : D} (hx : x.pur 60 = true) (hy : y.pur 60 = true) : opEq [x, y] A = .ok (.bl (eqD x y)) A := by
  show eqO A id (toPy A 60 x) (toPy A 60 y) = _
  rw [toPy_pur hx, toPy_pur hy]
  rfl
theorem opNe_pur {A : AH} {x y : D} (hx : x.pur 60 = true) (hy : y.pur 60 = true) : opNe [x, y] A = .ok (.bl (!eqD x y)) A := by
  show eqO A not (toPy A 60 x) (toPy A 60 y) = _
  rw [toPy_pur hx, toPy_pur hy]
  rfl
theorem opEq_lst {A : AH} {i j : Nat} {xs ys : List D} (e : seqAt A i = some xs) (f : seqAt A j = some ys) (hx : purs 59 xs = true) (hy : purs 59 ys = true) : opEq [.ref i, .ref j] A = .ok (.bl (eqDs xs ys)) A := by
  show eqO A id (toPy A 60 _) (toPy A 60 _) = _
  rw [toPy_lst e hx, toPy_lst f hy]
  simp [eqO, PyData.eqv, eqDs]
theorem opNe_lst {A : AH} {i j : Nat} {xs ys : List D} (e : seqAt A i = some xs) (f : seqAt A j = some ys) (hx : purs 59 xs = true) (hy : purs 59 ys = true) : opNe [.ref i, .ref j] A = .ok (.bl (!eqDs xs ys)) A := by
  show eqO A not (toPy A 60 _) (toPy A 60 _) = _
  rw [toPy_lst e hx, toPy_lst f hy]
  simp [eqO, PyData.eqv, eqDs]
/-- a list and a value that is none -/
theorem opEq_lstP {A : AH} {i : Nat} {xs : List D} {y : D} (e : seqAt A i = some xs) (hx : purs 59 xs = true) (hy : y.pur 60 = true) : opEq [.ref i, y] A = .ok (.bl false) A := by
  show eqO A id (toPy A 60 _) (toPy A 60 _) = _
  rw [toPy_lst e hx, toPy_pur hy]
  cases y <;> simp [eqO, PyData.eqv, D.py]
theorem opNe_lstP {A : AH} {i : Nat} {xs : List D} {y : D} (e : seqAt A i = some xs) (hx : purs 59 xs = true) (hy : y.pur 60 = true) : opNe [.ref i, y] A = .ok (.bl true) A := by
  show eqO A not (toPy A 60 _) (toPy A 60 _) = _
  rw [toPy_lst e hx, toPy_pur hy]
  cases y <;> simp [eqO, PyData.eqv, D.py]
@[simp] theorem eqD_same (x : D) : eqD x x = true := eqv_same x
@[simp] theorem eqDs_same (x : List D) : eqDs x x = true := eqvAll_same x
theorem eqD_iff {x y : D} (hx : x.nob = true) (hy : y.nob = true) : eqD x y = true ↔ x = y := eqv_eq x y hx hy
theorem eqDs_iff {x y : List D} (hx : nobs x = true) (hy : nobs y = true) : eqDs x y = true ↔ x = y := eqvAll_eq x y hx hy
@[simp] theorem eqD_int (i j : Int) : eqD (.int i) (.int j) = decide (i = j) := by
  simp [eqD, PyData.eqv]
  rfl
@[simp] theorem opEq_int (A : AH) (i j : Int) : opEq [.int i, .int j] A = .ok (.bl (decide (i = j))) A := by rw [opEq_pur (by simp) (by simp), eqD_int]
@[simp] theorem opNe_int (A : AH) (i j : Int) : opNe [.int i, .int j] A = .ok (.bl (!decide (i = j))) A := by rw [opNe_pur (by simp) (by simp), eqD_int]
@[simp] theorem opNe_bl (A : AH) (i j : Bool) : opNe [.bl i, .bl j] A = .ok (.bl (!(i == j))) A := by rw [opNe_pur (by simp) (by simp)]; simp [eqD, PyData.eqv]
@[simp] theorem opEq_bl (A : AH) (i j : Bool) : opEq [.bl i, .bl j] A = .ok (.bl (i == j)) A := by rw [opEq_pur (by simp) (by simp)]; simp [eqD, PyData.eqv]
theorem purs_ints (n : Nat) (ns : List Int) : purs (n + 1) (ns.map D.int) = true := by induction ns <;> simp_all
theorem nobs_ints (ns : List Int) : nobs (ns.map D.int) = true := by induction ns <;> simp_all
end DL
set_option Elab.async false
set_option linter.all false
set_option maxRecDepth 100000
set_option maxHeartbeats 0
namespace Lw
open PySem PySem.Spec PyProof.Rows L2
def top (i : Nat) : Stmt := PySem.Challenge.pw_plugproof_k32_whole_groups.main.body.getD i (.Pass ⟨0, 0, 0, 0⟩)
abbrev s_is_whole : Stmt := top 5
abbrev s_slot_plate : Stmt := top 11
abbrev s_log_rows : Stmt := top 12
abbrev s_is_log_plate : Stmt := top 13
abbrev s_whole_group : Stmt := top 14
abbrev s_read_groups : Stmt := top 15
abbrev s_last_seen : Stmt := top 16
abbrev s_is_below : Stmt := top 18
abbrev s_after_barrier : Stmt := top 20
abbrev s_L_number : Stmt := top 23
abbrev s_L_take : Stmt := top 24
abbrev s_L_pick : Stmt := top 25
abbrev s_L_changes : Stmt := top 26
abbrev s_L_is_log : Stmt := top 27
abbrev s_L_group : Stmt := top 28
abbrev s_L_groups : Stmt := top 29
abbrev s_law : Stmt := top 30
abbrev s_Disk_init : Stmt := inClass (top 21) 0
abbrev s_Disk_write : Stmt := inClass (top 21) 1
abbrev s_Disk_barrier : Stmt := inClass (top 21) 2
abbrev s_Disk_now : Stmt := inClass (top 21) 3
def d_is_whole : He.DefD := ⟨("is_whole", none), "is_whole", "is_whole", defArgs s_is_whole, defBody s_is_whole, defScope s_is_whole, [.non, .non], []⟩
def d_slot_plate : He.DefD := ⟨("slot_plate", none), "slot_plate", "slot_plate", defArgs s_slot_plate, defBody s_slot_plate, defScope s_slot_plate, [], []⟩
def d_log_rows : He.DefD := ⟨("log_rows", none), "log_rows", "log_rows", defArgs s_log_rows, defBody s_log_rows, defScope s_log_rows, [], []⟩
def d_is_log_plate : He.DefD := ⟨("is_log_plate", none), "is_log_plate", "is_log_plate", defArgs s_is_log_plate, defBody s_is_log_plate, defScope s_is_log_plate, [], []⟩
def d_whole_group : He.DefD := ⟨("whole_group", none), "whole_group", "whole_group", defArgs s_whole_group, defBody s_whole_group, defScope s_whole_group, [], []⟩
def d_read_groups : He.DefD := ⟨("read_groups", none), "read_groups", "read_groups", defArgs s_read_groups, defBody s_read_groups, defScope s_read_groups, [], []⟩
def d_last_seen : He.DefD := ⟨("last_seen", none), "last_seen", "last_seen", defArgs s_last_seen, defBody s_last_seen, defScope s_last_seen, [], []⟩
def d_is_below : He.DefD := ⟨("is_below", none), "is_below", "is_below", defArgs s_is_below, defBody s_is_below, defScope s_is_below, [], []⟩
def d_after_barrier : He.DefD := ⟨("after_barrier", none), "after_barrier", "after_barrier", defArgs s_after_barrier, defBody s_after_barrier, defScope s_after_barrier, [], []⟩
def d_L_number : He.DefD := ⟨("_law_number", none), "_law_number", "_law_number", defArgs s_L_number, defBody s_L_number, defScope s_L_number, [], []⟩
def d_L_take : He.DefD := ⟨("_law_take", none), "_law_take", "_law_take", defArgs s_L_take, defBody s_L_take, defScope s_L_take, [], []⟩
def d_L_pick : He.DefD := ⟨("_law_pick", none), "_law_pick", "_law_pick", defArgs s_L_pick, defBody s_L_pick, defScope s_L_pick, [], []⟩
def d_L_changes : He.DefD := ⟨("_law_changes", none), "_law_changes", "_law_changes", defArgs s_L_changes, defBody s_L_changes, defScope s_L_changes, [], []⟩
def d_L_is_log : He.DefD := ⟨("_law_is_log", none), "_law_is_log", "_law_is_log", defArgs s_L_is_log, defBody s_L_is_log, defScope s_L_is_log, [], []⟩
def d_L_group : He.DefD := ⟨("_law_group", none), "_law_group", "_law_group", defArgs s_L_group, defBody s_L_group, defScope s_L_group, [], []⟩
def d_L_groups : He.DefD := ⟨("_law_groups", none), "_law_groups", "_law_groups", defArgs s_L_groups, defBody s_L_groups, defScope s_L_groups, [], []⟩
def d_law : He.DefD := ⟨("law", none), "law", "law", defArgs s_law, defBody s_law, defScope s_law, [], []⟩
def d_Disk_init : He.DefD := ⟨("Disk", some "__init__"), "__init__", "Disk.__init__", defArgs s_Disk_init, defBody s_Disk_init, defScope s_Disk_init, [], []⟩
def d_Disk_write : He.DefD := ⟨("Disk", some "write"), "write", "Disk.write", defArgs s_Disk_write, defBody s_Disk_write, defScope s_Disk_write, [], []⟩
def d_Disk_barrier : He.DefD := ⟨("Disk", some "barrier"), "barrier", "Disk.barrier", defArgs s_Disk_barrier, defBody s_Disk_barrier, defScope s_Disk_barrier, [], []⟩
def d_Disk_now : He.DefD := ⟨("Disk", some "now"), "now", "Disk.now", defArgs s_Disk_now, defBody s_Disk_now, defScope s_Disk_now, [], []⟩
def fn : List He.DefD := [d_is_whole, d_slot_plate, d_log_rows, d_is_log_plate, d_whole_group, d_read_groups, d_last_seen, d_is_below, d_after_barrier, d_L_number, d_L_take, d_L_pick, d_L_changes, d_L_is_log, d_L_group, d_L_groups, d_law, d_Disk_init, d_Disk_write, d_Disk_barrier, d_Disk_now]
def fa : List He.Fa := [.glo "is_whole", .glo "slot_plate", .glo "log_rows", .glo "is_log_plate", .glo "whole_group", .glo "read_groups", .glo "last_seen", .glo "is_below", .glo "after_barrier", .glo "_law_number", .glo "_law_take", .glo "_law_pick", .glo "_law_changes", .glo "_law_is_log", .glo "_law_group", .glo "_law_groups", .glo "law", .glo "StoreError", .glo "BadPlate", .glo "Disk", .cls "Disk", .mkr "Disk", .noat "Disk" "settled", .noat "Disk" "loose", .meth "Disk" "write", .meth "Disk" "barrier", .meth "Disk" "now", .int "WIDTH" 8, .int "HEADS" 2, .int "PARTS" 4, .free "Exception", .free "abs", .free "all", .free "bool", .free "enumerate", .free "int", .free "isinstance", .free "len", .free "list", .free "max", .free "range", .free "super", .free "tuple"]
def names : List PySem.Str := (["_wall", "StoreError", "WIDTH", "is_whole", "BadPlate", "HEADS", "PARTS", "slot_plate", "log_rows", "is_log_plate", "whole_group", "read_groups", "last_seen", "is_below", "after_barrier", "Disk", "_law_number", "_law_take", "_law_pick", "_law_changes", "_law_is_log", "_law_group", "_law_groups"] : List PySem.Str)
abbrev R : PySem.W.OpenRow := PySem.W.OpenLaw.row PySem.Challenge.rw_plugproof_k32_whole_groups
abbrev hk : PySem.W.Hook := He.hookD 5 fa fn
def ob (s : PySem.W.SharedT) : He.AlD := He.obsDG 5 fa fn (HandSHeadRun.getT s)
theorem ob_eq (s : PySem.W.SharedT) : ob s = hk.obs s.abs := He.obsDG_eq (HandSHeadRun.getT_eq s)
theorem run (w : World) : HandSHeadRun.RunEq R (PySem.W.view R.prog [30]) hk ob 4000 names w := by
  intro os
  kernel_rfl
end Lw
set_option Elab.async false
set_option linter.all false
set_option maxRecDepth 100000
set_option maxHeartbeats 0
namespace Lw
open PySem PySem.Spec PyProof.Rows L2 DL
structure Sys (K : PySem.W.Frag) (mg : PySem.Str → Option Value) : Prop where
  says : He.SaysD fa fn K
  ex : ∃ h : Heap, K.In h ∧ h.Ns mainGlobals mg
section
variable {P : Program} {w : World} {K : PySem.W.Frag} {mg : PySem.Str → Option Value} {base : Heap}
theorem g_is_whole (S : Sys K mg) : mg "is_whole" = some (.ref (He.ga K "is_whole")) := by
  obtain ⟨h, a, b⟩ := S.ex
  exact He.glo_ok a b (S.says.fact 0 (f := .glo "is_whole") rfl)
theorem g_slot_plate (S : Sys K mg) : mg "slot_plate" = some (.ref (He.ga K "slot_plate")) := by
  obtain ⟨h, a, b⟩ := S.ex
  exact He.glo_ok a b (S.says.fact 1 (f := .glo "slot_plate") rfl)
theorem g_log_rows (S : Sys K mg) : mg "log_rows" = some (.ref (He.ga K "log_rows")) := by
  obtain ⟨h, a, b⟩ := S.ex
  exact He.glo_ok a b (S.says.fact 2 (f := .glo "log_rows") rfl)
theorem g_is_log_plate (S : Sys K mg) : mg "is_log_plate" = some (.ref (He.ga K "is_log_plate")) := by
  obtain ⟨h, a, b⟩ := S.ex
  exact He.glo_ok a b (S.says.fact 3 (f := .glo "is_log_plate") rfl)
theorem g_whole_group (S : Sys K mg) : mg "whole_group" = some (.ref (He.ga K "whole_group")) := by
  obtain ⟨h, a, b⟩ := S.ex
  exact He.glo_ok a b (S.says.fact 4 (f := .glo "whole_group") rfl)
theorem g_read_groups (S : Sys K mg) : mg "read_groups" = some (.ref (He.ga K "read_groups")) := by
  obtain ⟨h, a, b⟩ := S.ex
  exact He.glo_ok a b (S.says.fact 5 (f := .glo "read_groups") rfl)
theorem g_last_seen (S : Sys K mg) : mg "last_seen" = some (.ref (He.ga K "last_seen")) := by
  obtain ⟨h, a, b⟩ := S.ex
  exact He.glo_ok a b (S.says.fact 6 (f := .glo "last_seen") rfl)
theorem g_is_below (S : Sys K mg) : mg "is_below" = some (.ref (He.ga K "is_below")) := by
  obtain ⟨h, a, b⟩ := S.ex
  exact He.glo_ok a b (S.says.fact 7 (f := .glo "is_below") rfl)
theorem g_after_barrier (S : Sys K mg) : mg "after_barrier" = some (.ref (He.ga K "after_barrier")) := by
  obtain ⟨h, a, b⟩ := S.ex
  exact He.glo_ok a b (S.says.fact 8 (f := .glo "after_barrier") rfl)
theorem g__law_number (S : Sys K mg) : mg "_law_number" = some (.ref (He.ga K "_law_number")) := by
  obtain ⟨h, a, b⟩ := S.ex
  exact He.glo_ok a b (S.says.fact 9 (f := .glo "_law_number") rfl)
theorem g__law_take (S : Sys K mg) : mg "_law_take" = some (.ref (He.ga K "_law_take")) := by
  obtain ⟨h, a, b⟩ := S.ex
  exact He.glo_ok a b (S.says.fact 10 (f := .glo "_law_take") rfl)
theorem g__law_pick (S : Sys K mg) : mg "_law_pick" = some (.ref (He.ga K "_law_pick")) := by
  obtain ⟨h, a, b⟩ := S.ex
  exact He.glo_ok a b (S.says.fact 11 (f := .glo "_law_pick") rfl)
theorem g__law_changes (S : Sys K mg) : mg "_law_changes" = some (.ref (He.ga K "_law_changes")) := by
  obtain ⟨h, a, b⟩ := S.ex
  exact He.glo_ok a b (S.says.fact 12 (f := .glo "_law_changes") rfl)
theorem g__law_is_log (S : Sys K mg) : mg "_law_is_log" = some (.ref (He.ga K "_law_is_log")) := by
  obtain ⟨h, a, b⟩ := S.ex
  exact He.glo_ok a b (S.says.fact 13 (f := .glo "_law_is_log") rfl)
theorem g__law_group (S : Sys K mg) : mg "_law_group" = some (.ref (He.ga K "_law_group")) := by
  obtain ⟨h, a, b⟩ := S.ex
  exact He.glo_ok a b (S.says.fact 14 (f := .glo "_law_group") rfl)
theorem g__law_groups (S : Sys K mg) : mg "_law_groups" = some (.ref (He.ga K "_law_groups")) := by
  obtain ⟨h, a, b⟩ := S.ex
  exact He.glo_ok a b (S.says.fact 15 (f := .glo "_law_groups") rfl)
theorem g_law (S : Sys K mg) : mg "law" = some (.ref (He.ga K "law")) := by
  obtain ⟨h, a, b⟩ := S.ex
  exact He.glo_ok a b (S.says.fact 16 (f := .glo "law") rfl)
theorem g_StoreError (S : Sys K mg) : mg "StoreError" = some (.ref (He.ga K "StoreError")) := by
  obtain ⟨h, a, b⟩ := S.ex
  exact He.glo_ok a b (S.says.fact 17 (f := .glo "StoreError") rfl)
theorem g_BadPlate (S : Sys K mg) : mg "BadPlate" = some (.ref (He.ga K "BadPlate")) := by
  obtain ⟨h, a, b⟩ := S.ex
  exact He.glo_ok a b (S.says.fact 18 (f := .glo "BadPlate") rfl)
theorem g_Disk (S : Sys K mg) : mg "Disk" = some (.ref (He.ga K "Disk")) := by
  obtain ⟨h, a, b⟩ := S.ex
  exact He.glo_ok a b (S.says.fact 19 (f := .glo "Disk") rfl)
theorem cl_Disk (S : Sys K mg) : Cls K (clsA K 2) := He.cls_ok (S.says.fact 20 (f := .cls "Disk") rfl)
theorem mk_Disk (S : Sys K mg) : Mk K (clsA K 2) (He.fAd K d_Disk_init.at_) := He.mkr_ok (S.says.fact 21 (f := .mkr "Disk") rfl)
theorem na_Disk_settled (S : Sys K mg) : NoAttr K (clsA K 2) "settled" := He.noat_ok (S.says.fact 22 (f := .noat "Disk" "settled") rfl)
theorem na_Disk_loose (S : Sys K mg) : NoAttr K (clsA K 2) "loose" := He.noat_ok (S.says.fact 23 (f := .noat "Disk" "loose") rfl)
theorem mt_Disk_write (S : Sys K mg) : Meth K (clsA K 2) "write" (He.fAd K d_Disk_write.at_) := He.meth_ok (S.says.fact 24 (f := .meth "Disk" "write") rfl)
theorem mt_Disk_barrier (S : Sys K mg) : Meth K (clsA K 2) "barrier" (He.fAd K d_Disk_barrier.at_) := He.meth_ok (S.says.fact 25 (f := .meth "Disk" "barrier") rfl)
theorem mt_Disk_now (S : Sys K mg) : Meth K (clsA K 2) "now" (He.fAd K d_Disk_now.at_) := He.meth_ok (S.says.fact 26 (f := .meth "Disk" "now") rfl)
theorem g_WIDTH (S : Sys K mg) : ∃ t, mg "WIDTH" = some (.int 8 t) := by
  obtain ⟨h, a, b⟩ := S.ex
  exact He.int_ok a b (S.says.fact 27 (f := .int "WIDTH" 8) rfl)
theorem g_HEADS (S : Sys K mg) : ∃ t, mg "HEADS" = some (.int 2 t) := by
  obtain ⟨h, a, b⟩ := S.ex
  exact He.int_ok a b (S.says.fact 28 (f := .int "HEADS" 2) rfl)
theorem g_PARTS (S : Sys K mg) : ∃ t, mg "PARTS" = some (.int 4 t) := by
  obtain ⟨h, a, b⟩ := S.ex
  exact He.int_ok a b (S.says.fact 29 (f := .int "PARTS" 4) rfl)
theorem g_Exception (S : Sys K mg) : mg "Exception" = none := by
  obtain ⟨h, a, b⟩ := S.ex
  exact He.free_ok a b (S.says.fact 30 (f := .free "Exception") rfl)
theorem g_abs (S : Sys K mg) : mg "abs" = none := by
  obtain ⟨h, a, b⟩ := S.ex
  exact He.free_ok a b (S.says.fact 31 (f := .free "abs") rfl)
theorem g_all (S : Sys K mg) : mg "all" = none := by
  obtain ⟨h, a, b⟩ := S.ex
  exact He.free_ok a b (S.says.fact 32 (f := .free "all") rfl)
theorem g_bool (S : Sys K mg) : mg "bool" = none := by
  obtain ⟨h, a, b⟩ := S.ex
  exact He.free_ok a b (S.says.fact 33 (f := .free "bool") rfl)
theorem g_enumerate (S : Sys K mg) : mg "enumerate" = none := by
  obtain ⟨h, a, b⟩ := S.ex
  exact He.free_ok a b (S.says.fact 34 (f := .free "enumerate") rfl)
theorem g_int (S : Sys K mg) : mg "int" = none := by
  obtain ⟨h, a, b⟩ := S.ex
  exact He.free_ok a b (S.says.fact 35 (f := .free "int") rfl)
theorem g_isinstance (S : Sys K mg) : mg "isinstance" = none := by
  obtain ⟨h, a, b⟩ := S.ex
  exact He.free_ok a b (S.says.fact 36 (f := .free "isinstance") rfl)
theorem g_len (S : Sys K mg) : mg "len" = none := by
  obtain ⟨h, a, b⟩ := S.ex
  exact He.free_ok a b (S.says.fact 37 (f := .free "len") rfl)
theorem g_list (S : Sys K mg) : mg "list" = none := by
  obtain ⟨h, a, b⟩ := S.ex
  exact He.free_ok a b (S.says.fact 38 (f := .free "list") rfl)
theorem g_max (S : Sys K mg) : mg "max" = none := by
  obtain ⟨h, a, b⟩ := S.ex
  exact He.free_ok a b (S.says.fact 39 (f := .free "max") rfl)
theorem g_range (S : Sys K mg) : mg "range" = none := by
  obtain ⟨h, a, b⟩ := S.ex
  exact He.free_ok a b (S.says.fact 40 (f := .free "range") rfl)
theorem g_super (S : Sys K mg) : mg "super" = none := by
  obtain ⟨h, a, b⟩ := S.ex
  exact He.free_ok a b (S.says.fact 41 (f := .free "super") rfl)
theorem g_tuple (S : Sys K mg) : mg "tuple" = none := by
  obtain ⟨h, a, b⟩ := S.ex
  exact He.free_ok a b (S.says.fact 42 (f := .free "tuple") rfl)
theorem at_settled (S : Sys K mg) : At K [2] 0 "settled" := ⟨rfl, fun c h => by
  simp only [List.mem_cons, List.not_mem_nil, or_false] at h
  subst h
  · exact ⟨cl_Disk S, na_Disk_settled S⟩⟩
theorem at_loose (S : Sys K mg) : At K [2] 1 "loose" := ⟨rfl, fun c h => by
  simp only [List.mem_cons, List.not_mem_nil, or_false] at h
  subst h
  · exact ⟨cl_Disk S, na_Disk_loose S⟩⟩
abbrev N_is_whole : List PySem.Str := ["thing", "low", "high"]
abbrev P_is_whole : List PySem.Str := ["thing", "low", "high"]
noncomputable def b_is_whole : Sx :=
  (sSeq (sIf (tOr (tNot (tB (eF (biIsi .int) (aCons (eVar 0) aNil)))) (tB (eF (biIsi .bool) (aCons (eVar 0) aNil)))) (sRet (eC (.bl false))) sNop)
  (sRet (eAnd (eOr (eF opIs (aCons (eVar 1) (aCons (eC .non) aNil))) (eF opGe (aCons (eVar 0) (aCons (eVar 1) aNil)))) (eOr (eF opIs (aCons (eVar 2) (aCons (eC .non) aNil))) (eF opLe (aCons (eVar 0) (aCons (eVar 2) aNil)))))))
noncomputable def F_is_whole : Fn := runDef 3 3 b_is_whole
theorem sc_is_whole : FnScope N_is_whole P_is_whole (defScope s_is_whole) := ⟨rfl, rfl, rfl, by decide +kernel, rfl, by decide +kernel, by decide +kernel⟩
theorem ok_is_whole_1 (S : Sys K mg) : ∃ ds, Vals ([.non, .non] : List V) ds ∧ DefOk P w K mg base 1 (He.fAd K d_is_whole.at_) P_is_whole ds 3 F_is_whole := by
  obtain ⟨fd, F⟩ := S.says.def_ 0 (d := d_is_whole) rfl
  obtain ⟨ds, hd, hB⟩ : ∃ ds, Vals ([.non, .non] : List V) ds ∧ Binds K fd P_is_whole ds := F.binds1 1 0 (by intro z; cases z) rfl fun _ _ _ _ _ _ _ us its hl hl2 => match us, hl, its, hl2 with | [_], _, [_, _], _ => ⟨_, rfl, rfl⟩
  have S2 : FnScope N_is_whole P_is_whole d_is_whole.scope := sc_is_whole
  have q := def_ok (P := P) (w := w) (mg := mg) (base := base) (k := 0) (b := b_is_whole) F S2 hB
  refine ⟨ds, hd, q fun cdv A outer s H E c => ?_⟩
  exact (rss_cons (rs_if (rt_w (rw_or (rt_not (rt_b (re_isi .int (by rfl) (g_isinstance S) (by rfl) (g_int S) bt_int (re_var 0)))) (rw_or1 (rt_b (re_isi .bool (by rfl) (g_isinstance S) (by rfl) (g_bool S) bt_bool (re_var 0)))))) (rss_one (rs_ret re_bl)) rss_nil)
  (rss_one (rs_ret (re_and (re_or (re_cmp op_isN ok_is (re_var 1) re_non rfl) (re_one (re_cmp op_ge ok_ge (re_var 0) (re_var 1) rfl))) (re_one (re_or (re_cmp op_isN ok_is (re_var 2) re_non rfl) (re_one (re_cmp op_le ok_le (re_var 0) (re_var 2) rfl))))))))
theorem ok_is_whole_3 (S : Sys K mg) : ∃ ds, Vals ([] : List V) ds ∧ DefOk P w K mg base 1 (He.fAd K d_is_whole.at_) P_is_whole ds 3 F_is_whole := by
  obtain ⟨fd, F⟩ := S.says.def_ 0 (d := d_is_whole) rfl
  obtain ⟨ds, hd, hB⟩ : ∃ ds, Vals ([] : List V) ds ∧ Binds K fd P_is_whole ds := F.binds1 3 2 (by intro z; cases z) rfl fun _ _ _ _ _ _ _ us its hl hl2 => match us, hl, its, hl2 with | [_, _, _], _, [_, _], _ => ⟨_, rfl, rfl⟩
  have S2 : FnScope N_is_whole P_is_whole d_is_whole.scope := sc_is_whole
  have q := def_ok (P := P) (w := w) (mg := mg) (base := base) (k := 0) (b := b_is_whole) F S2 hB
  refine ⟨ds, hd, q fun cdv A outer s H E c => ?_⟩
  exact (rss_cons (rs_if (rt_w (rw_or (rt_not (rt_b (re_isi .int (by rfl) (g_isinstance S) (by rfl) (g_int S) bt_int (re_var 0)))) (rw_or1 (rt_b (re_isi .bool (by rfl) (g_isinstance S) (by rfl) (g_bool S) bt_bool (re_var 0)))))) (rss_one (rs_ret re_bl)) rss_nil)
  (rss_one (rs_ret (re_and (re_or (re_cmp op_isN ok_is (re_var 1) re_non rfl) (re_one (re_cmp op_ge ok_ge (re_var 0) (re_var 1) rfl))) (re_one (re_or (re_cmp op_isN ok_is (re_var 2) re_non rfl) (re_one (re_cmp op_le ok_le (re_var 0) (re_var 2) rfl))))))))
abbrev N_slot_plate : List PySem.Str := ["slots", "slot"]
abbrev P_slot_plate : List PySem.Str := ["slots", "slot"]
noncomputable def b_slot_plate : Sx :=
  (sRet (eF opAdd (aCons (eC (.int 2)) (aCons (eF opMod (aCons (eVar 1) (aCons (eVar 0) aNil))) aNil))))
noncomputable def F_slot_plate : Fn := runDef 2 2 b_slot_plate
theorem sc_slot_plate : FnScope N_slot_plate P_slot_plate (defScope s_slot_plate) := ⟨rfl, rfl, rfl, by decide +kernel, rfl, by decide +kernel, by decide +kernel⟩
theorem ok_slot_plate_2 (S : Sys K mg) : ∃ ds, Vals ([] : List V) ds ∧ DefOk P w K mg base 1 (He.fAd K d_slot_plate.at_) P_slot_plate ds 2 F_slot_plate := by
  obtain ⟨fd, F⟩ := S.says.def_ 1 (d := d_slot_plate) rfl
  obtain ⟨ds, hd, hB⟩ : ∃ ds, Vals ([] : List V) ds ∧ Binds K fd P_slot_plate ds := ⟨[], .nil, F.bindsN fun _ _ _ _ _ _ us hl => match us, hl with | [_, _], _ => rfl⟩
  have S2 : FnScope N_slot_plate P_slot_plate d_slot_plate.scope := sc_slot_plate
  have q := def_ok (P := P) (w := w) (mg := mg) (base := base) (k := 0) (b := b_slot_plate) F S2 hB
  refine ⟨ds, hd, q fun cdv A outer s H E c => ?_⟩
  exact (rss_one (rs_ret (re_bin op_add4 ok_add (re_globI (by rfl) (g_HEADS S)) (re_bin op_modN ok_mod (re_var 1) (re_var 0)))))
abbrev N_log_rows : List PySem.Str := ["group", "changes", "many", "at", "plate", "cells"]
abbrev P_log_rows : List PySem.Str := ["group", "changes"]
noncomputable def b_log_rows : Sx :=
  (sSeq (sAsg (eF biLen (aCons (eVar 1) aNil)) (gName 2))
  (sRet (eLc (iEnum (aCons (eVar 1) aNil)) (gTup 2 (gCons (gName 3) (gCons (gTup 2 (gCons (gName 4) (gCons (gName 5) gNil))) gNil))) tYes (eF mkTup (aCons (eVar 0) (aCons (eVar 3) (aCons (eVar 2) (aCons (eVar 4) (aStar (eVar 5) aNil)))))) [3, 4, 5])))
noncomputable def F_log_rows : Fn := runDef 2 6 b_log_rows
theorem sc_log_rows : FnScope N_log_rows P_log_rows (defScope s_log_rows) := ⟨rfl, rfl, rfl, by decide +kernel, rfl, by decide +kernel, by decide +kernel⟩
theorem ok_log_rows_2 (S : Sys K mg) : ∃ ds, Vals ([] : List V) ds ∧ DefOk P w K mg base 1 (He.fAd K d_log_rows.at_) P_log_rows ds 2 F_log_rows := by
  obtain ⟨fd, F⟩ := S.says.def_ 2 (d := d_log_rows) rfl
  obtain ⟨ds, hd, hB⟩ : ∃ ds, Vals ([] : List V) ds ∧ Binds K fd P_log_rows ds := ⟨[], .nil, F.bindsN fun _ _ _ _ _ _ us hl => match us, hl with | [_, _], _ => rfl⟩
  have S2 : FnScope N_log_rows P_log_rows d_log_rows.scope := sc_log_rows
  have q := def_ok (P := P) (w := w) (mg := mg) (base := base) (k := 0) (b := b_log_rows) F S2 hB
  refine ⟨ds, hd, q fun cdv A outer s H E c => ?_⟩
  exact (rss_cons (rs_set c 2 (re_callB call_len_seq ok_len (by rfl) (g_len S) bt_len (ra_cons (re_var 1) ra_nil)))
  (rss_one (rs_ret (re_lc (own := [("at", 3), ("plate", 4), ("cells", 5)]) c (ri_enum (by rfl) (g_enumerate S) (ra_cons (re_var 1) ra_nil)) (blk_of rfl) (fun s0 H0 C0 cl0 fp0 => (rgo_tup (c.blk s0 H0 C0 cl0 fp0).calm (rgos_cons (rgo_name (c.blk s0 H0 C0 cl0 fp0).nd 3 rfl (.inl rfl) (.inr rfl) (by decide)) (rgos_cons (rgo_tup (c.blk s0 H0 C0 cl0 fp0).calm (rgos_cons (rgo_name (c.blk s0 H0 C0 cl0 fp0).nd 4 rfl (.inl rfl) (.inr rfl) (by decide)) (rgos_cons (rgo_name (c.blk s0 H0 C0 cl0 fp0).nd 5 rfl (.inl rfl) (.inr rfl) (by decide)) rgos_nil rfl) rfl) rfl rfl) rgos_nil rfl) rfl) rfl rfl)) (fun s0 H0 C0 cl0 fp0 => rts_nil) (fun s0 H0 C0 cl0 fp0 => (re_tup (ra_cons (re_var 0) (ra_cons (re_var 3) (ra_cons (re_var 2) (ra_cons (re_var 4) (ra_star (re_var 5) ra_nil)))))))))))
abbrev N_is_log_plate : List PySem.Str := ["value", "entry"]
abbrev P_is_log_plate : List PySem.Str := ["value"]
noncomputable def b_is_log_plate : Sx :=
  (sSeq (sIf (tOr (tNot (tB (eF (biIsi .tuple) (aCons (eVar 0) aNil)))) (tOr (tB (eF opNe (aCons (eF biLen (aCons (eVar 0) aNil)) (aCons (eF opAdd (aCons (eC (.int 4)) (aCons (eC (.int 8)) aNil))) aNil)))) (tNot (tB (eF biAll (aCons (eLc (iSeq (eVar 0)) (gName 1) tYes (eF (cl F_is_whole [.non, .non]) (aCons (eVar 1) aNil)) [1]) aNil)))))) (sRet (eC (.bl false))) sNop)
  (sRet (eAnd (eChain opLe opLt (eC (.int 0)) (eF opIx (aCons (eVar 0) (aCons (eC (.int 1)) aNil))) (eF opIx (aCons (eVar 0) (aCons (eC (.int 2)) aNil)))) (eAnd (eF opGe (aCons (eF opIx (aCons (eVar 0) (aCons (eC (.int 0)) aNil))) (aCons (eC (.int 0)) aNil))) (eF opGe (aCons (eF opIx (aCons (eVar 0) (aCons (eC (.int 3)) aNil))) (aCons (eC (.int 0)) aNil)))))))
noncomputable def F_is_log_plate : Fn := runDef 1 2 b_is_log_plate
theorem sc_is_log_plate : FnScope N_is_log_plate P_is_log_plate (defScope s_is_log_plate) := ⟨rfl, rfl, rfl, by decide +kernel, rfl, by decide +kernel, by decide +kernel⟩
theorem ok_is_log_plate_1 (S : Sys K mg) : ∃ ds, Vals ([] : List V) ds ∧ DefOk P w K mg base 2 (He.fAd K d_is_log_plate.at_) P_is_log_plate ds 1 F_is_log_plate := by
  obtain ⟨ds_is_whole_1, hd_is_whole_1, G_is_whole_1⟩ := ok_is_whole_1 (P := P) (w := w) (base := base) S
  obtain ⟨fd, F⟩ := S.says.def_ 3 (d := d_is_log_plate) rfl
  obtain ⟨ds, hd, hB⟩ : ∃ ds, Vals ([] : List V) ds ∧ Binds K fd P_is_log_plate ds := ⟨[], .nil, F.bindsN fun _ _ _ _ _ _ us hl => match us, hl with | [_], _ => rfl⟩
  have S2 : FnScope N_is_log_plate P_is_log_plate d_is_log_plate.scope := sc_is_log_plate
  have q := def_ok (P := P) (w := w) (mg := mg) (base := base) (k := 1) (b := b_is_log_plate) F S2 hB
  refine ⟨ds, hd, q fun cdv A outer s H E c => ?_⟩
  exact (rss_cons (rs_if (rt_w (rw_or (rt_not (rt_b (re_isi .tuple (by rfl) (g_isinstance S) (by rfl) (g_tuple S) bt_tuple (re_var 0)))) (rw_or (rt_cmp (op_neD c.room.units) ok_ne (re_callB call_len_seq ok_len (by rfl) (g_len S) bt_len (ra_cons (re_var 0) ra_nil)) (re_bin op_add4 ok_add (re_globI (by rfl) (g_PARTS S)) (re_globI (by rfl) (g_WIDTH S))) rfl) (rw_or1 (rt_not (rt_b (re_callB (cr_all c.calm) ok_all (by rfl) (g_all S) bt_all (ra_cons (re_lc (own := [("entry", 1)]) c (ri_seq (re_var 0)) (blk_of rfl) (fun s0 H0 C0 cl0 fp0 => (rgo_name (c.blk s0 H0 C0 cl0 fp0).nd 1 rfl (.inl rfl) (.inr rfl) (by decide))) (fun s0 H0 C0 cl0 fp0 => rts_nil) (fun s0 H0 C0 cl0 fp0 => (re_call (G_is_whole_1.mono (by decide : 1 ≤ 1)) (c.blk s0 H0 C0 cl0 fp0) Asks.run (by rfl) (g_is_whole S) hd_is_whole_1 (fun _ _ _ => (.cons .non (.cons .non .nil))) (ra_cons (re_var 1) ra_nil)))) ra_nil)))))))) (rss_one (rs_ret re_bl)) rss_nil)
  (rss_one (rs_ret (re_and (re_chain op_le ok_le op_lt ok_lt re_int (re_ix ix_seq ok_ix (re_var 0) re_int (fun _ _ => rfl)) (re_ix ix_seq ok_ix (re_var 0) re_int (fun _ _ => rfl))) (re_and (re_cmp op_ge ok_ge (re_ix ix_seq ok_ix (re_var 0) re_int (fun _ _ => rfl)) re_int rfl) (re_one (re_cmp op_ge ok_ge (re_ix ix_seq ok_ix (re_var 0) re_int (fun _ _ => rfl)) re_int rfl)))))))
abbrev N_is_below : List PySem.Str := ["value", "many"]
abbrev P_is_below : List PySem.Str := ["value", "many"]
noncomputable def b_is_below : Sx :=
  (sRet (eF (cl F_is_whole []) (aCons (eVar 0) (aCons (eC (.int 0)) (aCons (eF opSub (aCons (eVar 1) (aCons (eC (.int 1)) aNil))) aNil)))))
noncomputable def F_is_below : Fn := runDef 2 2 b_is_below
theorem sc_is_below : FnScope N_is_below P_is_below (defScope s_is_below) := ⟨rfl, rfl, rfl, by decide +kernel, rfl, by decide +kernel, by decide +kernel⟩
theorem ok_is_below_2 (S : Sys K mg) : ∃ ds, Vals ([] : List V) ds ∧ DefOk P w K mg base 2 (He.fAd K d_is_below.at_) P_is_below ds 2 F_is_below := by
  obtain ⟨ds_is_whole_3, hd_is_whole_3, G_is_whole_3⟩ := ok_is_whole_3 (P := P) (w := w) (base := base) S
  obtain ⟨fd, F⟩ := S.says.def_ 7 (d := d_is_below) rfl
  obtain ⟨ds, hd, hB⟩ : ∃ ds, Vals ([] : List V) ds ∧ Binds K fd P_is_below ds := ⟨[], .nil, F.bindsN fun _ _ _ _ _ _ us hl => match us, hl with | [_, _], _ => rfl⟩
  have S2 : FnScope N_is_below P_is_below d_is_below.scope := sc_is_below
  have q := def_ok (P := P) (w := w) (mg := mg) (base := base) (k := 1) (b := b_is_below) F S2 hB
  refine ⟨ds, hd, q fun cdv A outer s H E c => ?_⟩
  exact (rss_one (rs_ret (re_call (G_is_whole_3.mono (by decide : 1 ≤ 1)) c Asks.run (by rfl) (g_is_whole S) hd_is_whole_3 (fun _ _ _ => .nil) (ra_cons (re_var 0) (ra_cons re_int (ra_cons (re_bin op_sub ok_sub (re_var 1) re_int) ra_nil))))))
abbrev N_Disk_now : List PySem.Str := ["self", "plate", "some", "one", "value"]
abbrev P_Disk_now : List PySem.Str := ["self", "plate"]
noncomputable def b_Disk_now : Sx :=
  (sSeq (sIf (tNot (tB (eF (cl F_is_below []) (aCons (eVar 1) (aCons (eF biLen (aCons (eF (fFld [2] 0) (aCons (eVar 0) aNil)) aNil)) aNil))))) sBad sNop)
  (sSeq (sAsg (eLc (iSeq (eF (fFld [2] 1) (aCons (eVar 0) aNil))) (gTup 2 (gCons (gName 3) (gCons (gName 4) gNil))) (tB (eF opEq (aCons (eVar 3) (aCons (eVar 1) aNil)))) (eVar 4) [3, 4]) (gName 2))
  (sRet (eIf (tB (eF opNe (aCons (eVar 2) (aCons (eF mkLst aNil) aNil)))) (eF opIx (aCons (eVar 2) (aCons (eF opNeg (aCons (eC (.int 1)) aNil)) aNil))) (eF opIx (aCons (eF (fFld [2] 0) (aCons (eVar 0) aNil)) (aCons (eVar 1) aNil)))))))
noncomputable def F_Disk_now : Fn := runDef 2 5 b_Disk_now
theorem sc_Disk_now : FnScope N_Disk_now P_Disk_now (defScope s_Disk_now) := ⟨rfl, rfl, rfl, by decide +kernel, rfl, by decide +kernel, by decide +kernel⟩
theorem ok_Disk_now_2 (S : Sys K mg) : ∃ ds, Vals ([] : List V) ds ∧ DefOk P w K mg base 3 (He.fAd K d_Disk_now.at_) P_Disk_now ds 2 F_Disk_now := by
  obtain ⟨ds_is_below_2, hd_is_below_2, G_is_below_2⟩ := ok_is_below_2 (P := P) (w := w) (base := base) S
  obtain ⟨fd, F⟩ := S.says.def_ 20 (d := d_Disk_now) rfl
  obtain ⟨ds, hd, hB⟩ : ∃ ds, Vals ([] : List V) ds ∧ Binds K fd P_Disk_now ds := ⟨[], .nil, F.bindsN fun _ _ _ _ _ _ us hl => match us, hl with | [_, _], _ => rfl⟩
  have S2 : FnScope N_Disk_now P_Disk_now d_Disk_now.scope := sc_Disk_now
  have q := def_ok (P := P) (w := w) (mg := mg) (base := base) (k := 2) (b := b_Disk_now) F S2 hB
  refine ⟨ds, hd, q fun cdv A outer s H E c => ?_⟩
  exact (rss_cons (rs_if (rt_not (rt_b (re_call (G_is_below_2.mono (by decide : 2 ≤ 2)) c Asks.run (by rfl) (g_is_below S) hd_is_below_2 (fun _ _ _ => .nil) (ra_cons (re_var 1) (ra_cons (re_callB call_len_seq ok_len (by rfl) (g_len S) bt_len (ra_cons (re_fld (at_settled S) (re_var 0)) ra_nil)) ra_nil))))) (rss_one rs_never) rss_nil)
  (rss_cons (rs_setLc (own := [("one", 3), ("value", 4)]) c 2 (ri_seq (re_fld (at_loose S) (re_var 0))) (blk_of rfl) (fun s0 H0 C0 cl0 fp0 => (rgo_tup (c.blk s0 H0 C0 cl0 fp0).calm (rgos_cons (rgo_name (c.blk s0 H0 C0 cl0 fp0).nd 3 rfl (.inl rfl) (.inr rfl) (by decide)) (rgos_cons (rgo_name (c.blk s0 H0 C0 cl0 fp0).nd 4 rfl (.inl rfl) (.inr rfl) (by decide)) rgos_nil rfl) rfl) rfl rfl)) (fun s0 H0 C0 cl0 fp0 => (rts_one (rt_cmp (op_eqD (c.blk s0 H0 C0 cl0 fp0).room.units) ok_eq (re_var 3) (re_var 1) rfl))) (fun s0 H0 C0 cl0 fp0 => (re_var 4)) rfl rfl (sw_true rfl rfl rfl (by decide +kernel)))
  (rss_one (rs_ret (re_ifExp (rt_cmp (op_neD c.room.units) ok_ne (re_var 2) (re_lst ra_nil) rfl) (re_ix ix_seq ok_ix (re_var 2) (re_un un_neg ok_neg re_int) (fun _ _ => rfl)) (re_ix ix_seq ok_ix (re_fld (at_settled S) (re_var 0)) (re_var 1) (fun _ _ => rfl)))))))
abbrev N_whole_group : List PySem.Str := ["disk", "slots", "slot", "group", "first", "found", "at", "value"]
abbrev P_whole_group : List PySem.Str := ["disk", "slots", "slot", "group"]
noncomputable def b_whole_group : Sx :=
  (sSeq (sAsg (eM 2 (cl F_Disk_now []) (eVar 0) (aCons (eF (cl F_slot_plate []) (aCons (eVar 1) (aCons (eVar 2) aNil))) aNil)) (gName 4))
  (sSeq (sIf (tOr (tNot (tB (eF (cl F_is_log_plate []) (aCons (eVar 4) aNil)))) (tOr (tB (eF opNe (aCons (eF opIx (aCons (eVar 4) (aCons (eC (.int 0)) aNil))) (aCons (eVar 3) aNil)))) (tOr (tB (eF opNe (aCons (eF opIx (aCons (eVar 4) (aCons (eC (.int 1)) aNil))) (aCons (eC (.int 0)) aNil)))) (tB (eF opGt (aCons (eF opIx (aCons (eVar 4) (aCons (eC (.int 2)) aNil))) (aCons (eVar 1) aNil))))))) (sRet (eC .non)) sNop)
  (sSeq (sAsg (eF mkLst aNil) (gName 5))
  (sSeq (sFor (iRng1 (aCons (eF opIx (aCons (eVar 4) (aCons (eC (.int 2)) aNil))) aNil)) (gName 6)
  (sSeq (sAsg (eM 2 (cl F_Disk_now []) (eVar 0) (aCons (eF (cl F_slot_plate []) (aCons (eVar 1) (aCons (eF opAdd (aCons (eVar 2) (aCons (eVar 6) aNil))) aNil))) aNil)) (gName 7))
  (sSeq (sIf (tOr (tNot (tB (eF (cl F_is_log_plate []) (aCons (eVar 7) aNil)))) (tB (eF opNe (aCons (eSl (eVar 7) pNone (pSome (eC (.int 3)))) (aCons (eF mkTup (aCons (eVar 3) (aCons (eVar 6) (aCons (eF opIx (aCons (eVar 4) (aCons (eC (.int 2)) aNil))) aNil)))) aNil))))) (sRet (eC .non)) sNop)
  (sDrop (eBM .list mAppend (eVar 5) (aCons (eF mkTup (aCons (eF opIx (aCons (eVar 7) (aCons (eC (.int 3)) aNil))) (aCons (eSl (eVar 7) (pSome (eC (.int 4))) pNone) aNil))) aNil))))))
  (sRet (eF biTuple (aCons (eVar 5) aNil)))))))
noncomputable def F_whole_group : Fn := runDef 4 8 b_whole_group
theorem sc_whole_group : FnScope N_whole_group P_whole_group (defScope s_whole_group) := ⟨rfl, rfl, rfl, by decide +kernel, rfl, by decide +kernel, by decide +kernel⟩
theorem ok_whole_group_4 (S : Sys K mg) : ∃ ds, Vals ([] : List V) ds ∧ DefOk P w K mg base 4 (He.fAd K d_whole_group.at_) P_whole_group ds 4 F_whole_group := by
  obtain ⟨ds_Disk_now_2, hd_Disk_now_2, G_Disk_now_2⟩ := ok_Disk_now_2 (P := P) (w := w) (base := base) S
  obtain ⟨ds_slot_plate_2, hd_slot_plate_2, G_slot_plate_2⟩ := ok_slot_plate_2 (P := P) (w := w) (base := base) S
  obtain ⟨ds_is_log_plate_1, hd_is_log_plate_1, G_is_log_plate_1⟩ := ok_is_log_plate_1 (P := P) (w := w) (base := base) S
  obtain ⟨fd, F⟩ := S.says.def_ 4 (d := d_whole_group) rfl
  obtain ⟨ds, hd, hB⟩ : ∃ ds, Vals ([] : List V) ds ∧ Binds K fd P_whole_group ds := ⟨[], .nil, F.bindsN fun _ _ _ _ _ _ us hl => match us, hl with | [_, _, _, _], _ => rfl⟩
  have S2 : FnScope N_whole_group P_whole_group d_whole_group.scope := sc_whole_group
  have q := def_ok (P := P) (w := w) (mg := mg) (base := base) (k := 3) (b := b_whole_group) F S2 hB
  refine ⟨ds, hd, q fun cdv A outer s H E c => ?_⟩
  exact (rss_cons (rs_set c 4 (re_meth (G_Disk_now_2.mono (by decide : 3 ≤ 3)) c Asks.run (cl_Disk S) (mt_Disk_now S) (by decide +kernel) hd_Disk_now_2 (fun _ _ _ => .nil) (re_var 0) (ra_cons (re_call (G_slot_plate_2.mono (by decide : 1 ≤ 3)) c Asks.run (by rfl) (g_slot_plate S) hd_slot_plate_2 (fun _ _ _ => .nil) (ra_cons (re_var 1) (ra_cons (re_var 2) ra_nil))) ra_nil)))
  (rss_cons (rs_if (rt_w (rw_or (rt_not (rt_b (re_call (G_is_log_plate_1.mono (by decide : 2 ≤ 3)) c Asks.run (by rfl) (g_is_log_plate S) hd_is_log_plate_1 (fun _ _ _ => .nil) (ra_cons (re_var 4) ra_nil)))) (rw_or (rt_cmp (op_neD c.room.units) ok_ne (re_ix ix_seq ok_ix (re_var 4) re_int (fun _ _ => rfl)) (re_var 3) rfl) (rw_or (rt_cmp (op_neD c.room.units) ok_ne (re_ix ix_seq ok_ix (re_var 4) re_int (fun _ _ => rfl)) re_int rfl) (rw_or1 (rt_cmp op_gt ok_gt (re_ix ix_seq ok_ix (re_var 4) re_int (fun _ _ => rfl)) (re_var 1) rfl)))))) (rss_one (rs_ret re_non)) rss_nil)
  (rss_cons (rs_set c 5 (re_lst ra_nil))
  (rss_cons (rs_for c (ri_rng1 (by rfl) (g_range S) (ra_cons (re_ix ix_seq ok_ix (re_var 4) re_int (fun _ _ => rfl)) ra_nil)) (rg_name c 6)
  (rss_cons (rs_set c 7 (re_meth (G_Disk_now_2.mono (by decide : 3 ≤ 3)) c Asks.run (cl_Disk S) (mt_Disk_now S) (by decide +kernel) hd_Disk_now_2 (fun _ _ _ => .nil) (re_var 0) (ra_cons (re_call (G_slot_plate_2.mono (by decide : 1 ≤ 3)) c Asks.run (by rfl) (g_slot_plate S) hd_slot_plate_2 (fun _ _ _ => .nil) (ra_cons (re_var 1) (ra_cons (re_bin op_add4 ok_add (re_var 2) (re_var 6)) ra_nil))) ra_nil)))
  (rss_cons (rs_if (rt_w (rw_or (rt_not (rt_b (re_call (G_is_log_plate_1.mono (by decide : 2 ≤ 3)) c Asks.run (by rfl) (g_is_log_plate S) hd_is_log_plate_1 (fun _ _ _ => .nil) (ra_cons (re_var 7) ra_nil)))) (rw_or1 (rt_cmp (op_neD c.room.units) ok_ne (re_sl (re_var 7) rp_none (rp_some re_int)) (re_tup (ra_cons (re_var 3) (ra_cons (re_var 6) (ra_cons (re_ix ix_seq ok_ix (re_var 4) re_int (fun _ _ => rfl)) ra_nil)))) rfl)))) (rss_one (rs_ret re_non)) rss_nil)
  (rss_one (rs_expr (re_bm (t := .list) PySem.F.plainAttrs_list PySem.F.slot_list_append PySem.F.type_list_append mt_append ok_append (re_var 5) (ra_cons (re_tup (ra_cons (re_ix ix_seq ok_ix (re_var 7) re_int (fun _ _ => rfl)) (ra_cons (re_sl (re_var 7) (rp_some (re_globI (by rfl) (g_PARTS S))) rp_none) ra_nil))) ra_nil)))))))
  (rss_one (rs_ret (re_callTy call_tuple_of ok_tuple (by rfl) (g_tuple S) bt_tuple (ra_cons (re_var 5) ra_nil))))))))
abbrev N_read_groups : List PySem.Str := ["disk", "slots", "head", "number", "group", "slot", "found", "used", "changes"]
abbrev P_read_groups : List PySem.Str := ["disk", "slots", "head"]
noncomputable def b_read_groups : Sx :=
  (sSeq (sAsg (eVar 2) (gTup 3 (gCons (gName 3) (gCons (gName 4) (gCons (gName 5) gNil)))))
  (sSeq (sPar 6 7 (aCons (eF mkLst aNil) (aCons (eC (.int 0)) aNil)))
  (sSeq (sAsg (eF (cl F_whole_group []) (aCons (eVar 0) (aCons (eVar 1) (aCons (eVar 5) (aCons (eVar 4) aNil))))) (gName 8))
  (sSeq (sWhile (tAnd (tB (eF opNis (aCons (eVar 8) (aCons (eC .non) aNil)))) (tB (eF opLe (aCons (eF opAdd (aCons (eVar 7) (aCons (eF biLen (aCons (eVar 8) aNil)) aNil))) (aCons (eVar 1) aNil)))))
  (sSeq (sDrop (eBM .list mAppend (eVar 6) (aCons (eF mkTup (aCons (eVar 4) (aCons (eVar 5) (aCons (eVar 8) aNil)))) aNil)))
  (sSeq (sAug 7 (eF biLen (aCons (eVar 8) aNil)) opAddI)
  (sSeq (sPar 4 5 (aCons (eF opAdd (aCons (eVar 4) (aCons (eC (.int 1)) aNil))) (aCons (eF opAdd (aCons (eVar 5) (aCons (eF biLen (aCons (eVar 8) aNil)) aNil))) aNil)))
  (sAsg (eF (cl F_whole_group []) (aCons (eVar 0) (aCons (eVar 1) (aCons (eVar 5) (aCons (eVar 4) aNil))))) (gName 8))))))
  (sRet (eF biTuple (aCons (eVar 6) aNil)))))))
noncomputable def F_read_groups : Fn := runDef 3 9 b_read_groups
theorem sc_read_groups : FnScope N_read_groups P_read_groups (defScope s_read_groups) := ⟨rfl, rfl, rfl, by decide +kernel, rfl, by decide +kernel, by decide +kernel⟩
theorem ok_read_groups_3 (S : Sys K mg) : ∃ ds, Vals ([] : List V) ds ∧ DefOk P w K mg base 5 (He.fAd K d_read_groups.at_) P_read_groups ds 3 F_read_groups := by
  obtain ⟨ds_whole_group_4, hd_whole_group_4, G_whole_group_4⟩ := ok_whole_group_4 (P := P) (w := w) (base := base) S
  obtain ⟨fd, F⟩ := S.says.def_ 5 (d := d_read_groups) rfl
  obtain ⟨ds, hd, hB⟩ : ∃ ds, Vals ([] : List V) ds ∧ Binds K fd P_read_groups ds := ⟨[], .nil, F.bindsN fun _ _ _ _ _ _ us hl => match us, hl with | [_, _, _], _ => rfl⟩
  have S2 : FnScope N_read_groups P_read_groups d_read_groups.scope := sc_read_groups
  have q := def_ok (P := P) (w := w) (mg := mg) (base := base) (k := 4) (b := b_read_groups) F S2 hB
  refine ⟨ds, hd, q fun cdv A outer s H E c => ?_⟩
  exact (rss_cons (rs_asg (re_var 2) (rg_tup c (rgs_cons (rg_name c 3) (rgs_cons (rg_name c 4) (rgs_cons (rg_name c 5) rgs_nil)))))
  (rss_cons (rs_par c 6 7 (ra_cons (re_lst ra_nil) (ra_cons re_int ra_nil)))
  (rss_cons (rs_set c 8 (re_call (G_whole_group_4.mono (by decide : 4 ≤ 4)) c Asks.run (by rfl) (g_whole_group S) hd_whole_group_4 (fun _ _ _ => .nil) (ra_cons (re_var 0) (ra_cons (re_var 1) (ra_cons (re_var 5) (ra_cons (re_var 4) ra_nil))))))
  (rss_cons (rs_while c (rt_w (rw_and (rt_cmp op_notN ok_nis (re_var 8) re_non rfl) (rw_and1 (rt_cmp op_le ok_le (re_bin op_add4 ok_add (re_var 7) (re_callB call_len_seq ok_len (by rfl) (g_len S) bt_len (ra_cons (re_var 8) ra_nil))) (re_var 1) rfl))))
  (rss_cons (rs_expr (re_bm (t := .list) PySem.F.plainAttrs_list PySem.F.slot_list_append PySem.F.type_list_append mt_append ok_append (re_var 6) (ra_cons (re_tup (ra_cons (re_var 4) (ra_cons (re_var 5) (ra_cons (re_var 8) ra_nil)))) ra_nil)))
  (rss_cons (rs_aug c 7 ip_add ok_ipadd (re_callB call_len_seq ok_len (by rfl) (g_len S) bt_len (ra_cons (re_var 8) ra_nil)))
  (rss_cons (rs_par c 4 5 (ra_cons (re_bin op_add4 ok_add (re_var 4) re_int) (ra_cons (re_bin op_add4 ok_add (re_var 5) (re_callB call_len_seq ok_len (by rfl) (g_len S) bt_len (ra_cons (re_var 8) ra_nil))) ra_nil)))
  (rss_one (rs_set c 8 (re_call (G_whole_group_4.mono (by decide : 4 ≤ 4)) c Asks.run (by rfl) (g_whole_group S) hd_whole_group_4 (fun _ _ _ => .nil) (ra_cons (re_var 0) (ra_cons (re_var 1) (ra_cons (re_var 5) (ra_cons (re_var 4) ra_nil)))))))))))
  (rss_one (rs_ret (re_callTy call_tuple_of ok_tuple (by rfl) (g_tuple S) bt_tuple (ra_cons (re_var 6) ra_nil))))))))
abbrev N_last_seen : List PySem.Str := ["disk", "slots", "found", "slot", "value"]
abbrev P_last_seen : List PySem.Str := ["disk", "slots"]
noncomputable def b_last_seen : Sx :=
  (sSeq (sAsg (eLc (iRng1 (aCons (eVar 1) aNil)) (gName 3) tYes (eM 2 (cl F_Disk_now []) (eVar 0) (aCons (eF (cl F_slot_plate []) (aCons (eVar 1) (aCons (eVar 3) aNil))) aNil)) [3]) (gName 2))
  (sRet (eF biMax (aCons (eF mkLst (aCons (eF opNeg (aCons (eC (.int 1)) aNil)) (aStar (eLc (iSeq (eVar 2)) (gName 4) (tB (eF (cl F_is_log_plate []) (aCons (eVar 4) aNil))) (eF opIx (aCons (eVar 4) (aCons (eC (.int 0)) aNil))) [4]) aNil))) aNil))))
noncomputable def F_last_seen : Fn := runDef 2 5 b_last_seen
theorem sc_last_seen : FnScope N_last_seen P_last_seen (defScope s_last_seen) := ⟨rfl, rfl, rfl, by decide +kernel, rfl, by decide +kernel, by decide +kernel⟩
theorem ok_last_seen_2 (S : Sys K mg) : ∃ ds, Vals ([] : List V) ds ∧ DefOk P w K mg base 4 (He.fAd K d_last_seen.at_) P_last_seen ds 2 F_last_seen := by
  obtain ⟨ds_Disk_now_2, hd_Disk_now_2, G_Disk_now_2⟩ := ok_Disk_now_2 (P := P) (w := w) (base := base) S
  obtain ⟨ds_slot_plate_2, hd_slot_plate_2, G_slot_plate_2⟩ := ok_slot_plate_2 (P := P) (w := w) (base := base) S
  obtain ⟨ds_is_log_plate_1, hd_is_log_plate_1, G_is_log_plate_1⟩ := ok_is_log_plate_1 (P := P) (w := w) (base := base) S
  obtain ⟨fd, F⟩ := S.says.def_ 6 (d := d_last_seen) rfl
  obtain ⟨ds, hd, hB⟩ : ∃ ds, Vals ([] : List V) ds ∧ Binds K fd P_last_seen ds := ⟨[], .nil, F.bindsN fun _ _ _ _ _ _ us hl => match us, hl with | [_, _], _ => rfl⟩
  have S2 : FnScope N_last_seen P_last_seen d_last_seen.scope := sc_last_seen
  have q := def_ok (P := P) (w := w) (mg := mg) (base := base) (k := 3) (b := b_last_seen) F S2 hB
  refine ⟨ds, hd, q fun cdv A outer s H E c => ?_⟩
  exact (rss_cons (rs_setLc (own := [("slot", 3)]) c 2 (ri_rng1 (by rfl) (g_range S) (ra_cons (re_var 1) ra_nil)) (blk_of rfl) (fun s0 H0 C0 cl0 fp0 => (rgo_name (c.blk s0 H0 C0 cl0 fp0).nd 3 rfl (.inl rfl) (.inr rfl) (by decide))) (fun s0 H0 C0 cl0 fp0 => rts_nil) (fun s0 H0 C0 cl0 fp0 => (re_meth (G_Disk_now_2.mono (by decide : 3 ≤ 3)) (c.blk s0 H0 C0 cl0 fp0) Asks.run (cl_Disk S) (mt_Disk_now S) (by decide +kernel) hd_Disk_now_2 (fun _ _ _ => .nil) (re_var 0) (ra_cons (re_call (G_slot_plate_2.mono (by decide : 1 ≤ 3)) (c.blk s0 H0 C0 cl0 fp0) Asks.run (by rfl) (g_slot_plate S) hd_slot_plate_2 (fun _ _ _ => .nil) (ra_cons (re_var 1) (ra_cons (re_var 3) ra_nil))) ra_nil))) rfl rfl (sw_true rfl rfl rfl (by decide +kernel)))
  (rss_one (rs_ret (re_callB (cr_max c.calm) ok_max (by rfl) (g_max S) bt_max (ra_cons (re_lst (ra_cons (re_un un_neg ok_neg re_int) (ra_star (re_lc (own := [("value", 4)]) c (ri_seq (re_var 2)) (blk_of rfl) (fun s0 H0 C0 cl0 fp0 => (rgo_name (c.blk s0 H0 C0 cl0 fp0).nd 4 rfl (.inl rfl) (.inr rfl) (by decide))) (fun s0 H0 C0 cl0 fp0 => (rts_one (rt_b (re_call (G_is_log_plate_1.mono (by decide : 2 ≤ 3)) (c.blk s0 H0 C0 cl0 fp0) Asks.run (by rfl) (g_is_log_plate S) hd_is_log_plate_1 (fun _ _ _ => .nil) (ra_cons (re_var 4) ra_nil))))) (fun s0 H0 C0 cl0 fp0 => (re_ix ix_seq ok_ix (re_var 4) re_int (fun _ _ => rfl)))) ra_nil))) ra_nil)))))
abbrev N_after_barrier : List PySem.Str := ["settled", "loose", "found", "plate", "value"]
abbrev P_after_barrier : List PySem.Str := ["settled", "loose"]
noncomputable def b_after_barrier : Sx :=
  (sSeq (sAsg (eF biList (aCons (eVar 0) aNil)) (gName 2))
  (sSeq (sFor (iSeq (eVar 1)) (gTup 2 (gCons (gName 3) (gCons (gName 4) gNil)))
  (sAsg (eVar 4) (gSub (eVar 2) (eVar 3) stIx)))
  (sRet (eF biTuple (aCons (eVar 2) aNil)))))
noncomputable def F_after_barrier : Fn := runDef 2 5 b_after_barrier
theorem sc_after_barrier : FnScope N_after_barrier P_after_barrier (defScope s_after_barrier) := ⟨rfl, rfl, rfl, by decide +kernel, rfl, by decide +kernel, by decide +kernel⟩
theorem ok_after_barrier_2 (S : Sys K mg) : ∃ ds, Vals ([] : List V) ds ∧ DefOk P w K mg base 1 (He.fAd K d_after_barrier.at_) P_after_barrier ds 2 F_after_barrier := by
  obtain ⟨fd, F⟩ := S.says.def_ 8 (d := d_after_barrier) rfl
  obtain ⟨ds, hd, hB⟩ : ∃ ds, Vals ([] : List V) ds ∧ Binds K fd P_after_barrier ds := ⟨[], .nil, F.bindsN fun _ _ _ _ _ _ us hl => match us, hl with | [_, _], _ => rfl⟩
  have S2 : FnScope N_after_barrier P_after_barrier d_after_barrier.scope := sc_after_barrier
  have q := def_ok (P := P) (w := w) (mg := mg) (base := base) (k := 0) (b := b_after_barrier) F S2 hB
  refine ⟨ds, hd, q fun cdv A outer s H E c => ?_⟩
  exact (rss_cons (rs_set c 2 (re_callTy call_list_of ok_list (by rfl) (g_list S) bt_list (ra_cons (re_var 0) ra_nil)))
  (rss_cons (rs_for c (ri_seq (re_var 1)) (rg_tup c (rgs_cons (rg_name c 3) (rgs_cons (rg_name c 4) rgs_nil)))
  (rss_one (rs_asg (re_var 4) (rg_sub set_list ok_set (re_var 2) (re_var 3)))))
  (rss_one (rs_ret (re_callTy call_tuple_of ok_tuple (by rfl) (g_tuple S) bt_tuple (ra_cons (re_var 2) ra_nil))))))
abbrev N_L_number : List PySem.Str := ["_law_script", "_law_index", "_law_cell", "_law_blend"]
abbrev P_L_number : List PySem.Str := ["_law_script", "_law_index"]
noncomputable def b_L_number : Sx :=
  (sSeq (sIf (tB (eF opEq (aCons (eVar 0) (aCons (eF mkLst aNil) aNil)))) (sRet (eF biInt (aCons (eF opMod (aCons (eF opAdd (aCons (eF opMul (aCons (eVar 1) (aCons (eC (.int 48271)) aNil))) (aCons (eC (.int 12345)) aNil))) (aCons (eC (.int 2147483647)) aNil))) aNil))) sNop)
  (sSeq (sAsg (eF opIx (aCons (eVar 0) (aCons (eF opMod (aCons (eVar 1) (aCons (eF biLen (aCons (eVar 0) aNil)) aNil))) aNil))) (gName 2))
  (sSeq (sIf (tB (eF opGe (aCons (eF biAbs (aCons (eVar 2) aNil)) (aCons (eF opPow (aCons (eC (.int 10)) (aCons (eC (.int 60)) aNil))) aNil)))) (sAsg (eF opMod (aCons (eVar 2) (aCons (eF opPow (aCons (eC (.int 10)) (aCons (eC (.int 18)) aNil))) aNil))) (gName 2)) sNop)
  (sSeq (sAsg (eF opMod (aCons (eF opAdd (aCons (eF opMul (aCons (eF opAdd (aCons (eVar 2) (aCons (eF opMul (aCons (eC (.int 977)) (aCons (eVar 1) aNil))) aNil))) (aCons (eC (.int 48271)) aNil))) (aCons (eF opMul (aCons (eC (.int 31)) (aCons (eF biLen (aCons (eVar 0) aNil)) aNil))) aNil))) (aCons (eC (.int 2147483647)) aNil))) (gName 3))
  (sRet (eF biInt (aCons (eF opMod (aCons (eF opAdd (aCons (eF opMul (aCons (eF opMod (aCons (eF opMul (aCons (eVar 3) (aCons (eC (.int 69621)) aNil))) (aCons (eC (.int 2147483629)) aNil))) (aCons (eC (.int 16807)) aNil))) (aCons (eVar 1) aNil))) (aCons (eC (.int 2147483587)) aNil))) aNil)))))))
noncomputable def F_L_number : Fn := runDef 2 4 b_L_number
theorem sc_L_number : FnScope N_L_number P_L_number (defScope s_L_number) := ⟨rfl, rfl, rfl, by decide +kernel, rfl, by decide +kernel, by decide +kernel⟩
theorem ok_L_number_2 (S : Sys K mg) : ∃ ds, Vals ([] : List V) ds ∧ DefOk P w K mg base 1 (He.fAd K d_L_number.at_) P_L_number ds 2 F_L_number := by
  obtain ⟨fd, F⟩ := S.says.def_ 9 (d := d_L_number) rfl
  obtain ⟨ds, hd, hB⟩ : ∃ ds, Vals ([] : List V) ds ∧ Binds K fd P_L_number ds := ⟨[], .nil, F.bindsN fun _ _ _ _ _ _ us hl => match us, hl with | [_, _], _ => rfl⟩
  have S2 : FnScope N_L_number P_L_number d_L_number.scope := sc_L_number
  have q := def_ok (P := P) (w := w) (mg := mg) (base := base) (k := 0) (b := b_L_number) F S2 hB
  refine ⟨ds, hd, q fun cdv A outer s H E c => ?_⟩
  exact (rss_cons (rs_if (rt_cmp (op_eqD c.room.units) ok_eq (re_var 0) (re_lst ra_nil) rfl) (rss_one (rs_ret (re_callTy call_int1 ok_int (by rfl) (g_int S) bt_int (ra_cons (re_bin op_modN ok_mod (re_bin op_add4 ok_add (re_bin op_mul3 ok_mul (re_var 1) re_int) re_int) re_int) ra_nil)))) rss_nil)
  (rss_cons (rs_set c 2 (re_ix ix_seq ok_ix (re_var 0) (re_bin op_modN ok_mod (re_var 1) (re_callB call_len_seq ok_len (by rfl) (g_len S) bt_len (ra_cons (re_var 0) ra_nil))) (fun _ _ => rfl)))
  (rss_cons (rs_if (rt_cmp op_ge ok_ge (re_callB call_abs ok_abs (by rfl) (g_abs S) bt_abs (ra_cons (re_var 2) ra_nil)) (re_bin op_pow ok_pow re_int re_int) rfl) (rss_one (rs_set c 2 (re_bin op_modN ok_mod (re_var 2) (re_bin op_pow ok_pow re_int re_int)))) rss_nil)
  (rss_cons (rs_set c 3 (re_bin op_modN ok_mod (re_bin op_add4 ok_add (re_bin op_mul3 ok_mul (re_bin op_add4 ok_add (re_var 2) (re_bin op_mul3 ok_mul re_int (re_var 1))) re_int) (re_bin op_mul3 ok_mul re_int (re_callB call_len_seq ok_len (by rfl) (g_len S) bt_len (ra_cons (re_var 0) ra_nil)))) re_int))
  (rss_one (rs_ret (re_callTy call_int1 ok_int (by rfl) (g_int S) bt_int (ra_cons (re_bin op_modN ok_mod (re_bin op_add4 ok_add (re_bin op_mul3 ok_mul (re_bin op_modN ok_mod (re_bin op_mul3 ok_mul (re_var 3) re_int) re_int) re_int) (re_var 1)) re_int) ra_nil))))))))
abbrev N_L_take : List PySem.Str := ["_law_draw", "_law_many"]
abbrev P_L_take : List PySem.Str := ["_law_draw", "_law_many"]
noncomputable def b_L_take : Sx :=
  (sSeq (sAugS (eVar 0) (eC (.int 1)) (eC (.int 1)) opIxL opAddI stIx)
  (sRet (eF opMod (aCons (eF biInt (aCons (eF (cl F_L_number []) (aCons (eF opIx (aCons (eVar 0) (aCons (eC (.int 0)) aNil))) (aCons (eF biInt (aCons (eF opIx (aCons (eVar 0) (aCons (eC (.int 1)) aNil))) aNil)) aNil))) aNil)) (aCons (eVar 1) aNil)))))
noncomputable def F_L_take : Fn := runDef 2 2 b_L_take
theorem sc_L_take : FnScope N_L_take P_L_take (defScope s_L_take) := ⟨rfl, rfl, rfl, by decide +kernel, rfl, by decide +kernel, by decide +kernel⟩
theorem ok_L_take_2 (S : Sys K mg) : ∃ ds, Vals ([] : List V) ds ∧ DefOk P w K mg base 2 (He.fAd K d_L_take.at_) P_L_take ds 2 F_L_take := by
  obtain ⟨ds_L_number_2, hd_L_number_2, G_L_number_2⟩ := ok_L_number_2 (P := P) (w := w) (base := base) S
  obtain ⟨fd, F⟩ := S.says.def_ 10 (d := d_L_take) rfl
  obtain ⟨ds, hd, hB⟩ : ∃ ds, Vals ([] : List V) ds ∧ Binds K fd P_L_take ds := ⟨[], .nil, F.bindsN fun _ _ _ _ _ _ us hl => match us, hl with | [_, _], _ => rfl⟩
  have S2 : FnScope N_L_take P_L_take d_L_take.scope := sc_L_take
  have q := def_ok (P := P) (w := w) (mg := mg) (base := base) (k := 1) (b := b_L_take) F S2 hB
  refine ⟨ds, hd, q fun cdv A outer s H E c => ?_⟩
  exact (rss_cons (rs_augS get_list ok_ixL ip_add ok_ipadd set_list ok_set (re_var 0) re_int re_int)
  (rss_one (rs_ret (re_bin op_modN ok_mod (re_callTy call_int1 ok_int (by rfl) (g_int S) bt_int (ra_cons (re_call (G_L_number_2.mono (by decide : 1 ≤ 1)) c Asks.run (by rfl) (g__law_number S) hd_L_number_2 (fun _ _ _ => .nil) (ra_cons (re_ix ix_seq ok_ix (re_var 0) re_int (fun _ _ => rfl)) (ra_cons (re_callTy call_int1 ok_int (by rfl) (g_int S) bt_int (ra_cons (re_ix ix_seq ok_ix (re_var 0) re_int (fun _ _ => rfl)) ra_nil)) ra_nil))) ra_nil)) (re_var 1)))))
abbrev N_L_pick : List PySem.Str := ["_law_draw", "_law_items"]
abbrev P_L_pick : List PySem.Str := ["_law_draw", "_law_items"]
noncomputable def b_L_pick : Sx :=
  (sRet (eF opIx (aCons (eVar 1) (aCons (eF (cl F_L_take []) (aCons (eVar 0) (aCons (eF biLen (aCons (eVar 1) aNil)) aNil))) aNil))))
noncomputable def F_L_pick : Fn := runDef 2 2 b_L_pick
theorem sc_L_pick : FnScope N_L_pick P_L_pick (defScope s_L_pick) := ⟨rfl, rfl, rfl, by decide +kernel, rfl, by decide +kernel, by decide +kernel⟩
theorem ok_L_pick_2 (S : Sys K mg) : ∃ ds, Vals ([] : List V) ds ∧ DefOk P w K mg base 3 (He.fAd K d_L_pick.at_) P_L_pick ds 2 F_L_pick := by
  obtain ⟨ds_L_take_2, hd_L_take_2, G_L_take_2⟩ := ok_L_take_2 (P := P) (w := w) (base := base) S
  obtain ⟨fd, F⟩ := S.says.def_ 11 (d := d_L_pick) rfl
  obtain ⟨ds, hd, hB⟩ : ∃ ds, Vals ([] : List V) ds ∧ Binds K fd P_L_pick ds := ⟨[], .nil, F.bindsN fun _ _ _ _ _ _ us hl => match us, hl with | [_, _], _ => rfl⟩
  have S2 : FnScope N_L_pick P_L_pick d_L_pick.scope := sc_L_pick
  have q := def_ok (P := P) (w := w) (mg := mg) (base := base) (k := 2) (b := b_L_pick) F S2 hB
  refine ⟨ds, hd, q fun cdv A outer s H E c => ?_⟩
  exact (rss_one (rs_ret (re_ix ix_seq ok_ix (re_var 1) (re_call (G_L_take_2.mono (by decide : 2 ≤ 2)) c Asks.run (by rfl) (g__law_take S) hd_L_take_2 (fun _ _ _ => .nil) (ra_cons (re_var 0) (ra_cons (re_callB call_len_seq ok_len (by rfl) (g_len S) bt_len (ra_cons (re_var 1) ra_nil)) ra_nil))) (fun _ _ => rfl))))
abbrev N_L_changes : List PySem.Str := ["_law_draw", "_law_most", "_law_plates", "_law_plate", "_law_at"]
abbrev P_L_changes : List PySem.Str := ["_law_draw", "_law_most"]
noncomputable def b_L_changes : Sx :=
  (sSeq (sAsg (eSl (eLc (iRng1 (aCons (eC (.int 6)) aNil)) (gName 3) (tB (eF opEq (aCons (eF (cl F_L_take []) (aCons (eVar 0) (aCons (eC (.int 2)) aNil))) (aCons (eC (.int 0)) aNil)))) (eVar 3) [3]) pNone (pSome (eVar 1))) (gName 2))
  (sRet (eF biTuple (aCons (eLc (iSeq (eVar 2)) (gName 3) (tB (eC (.bl true))) (eF mkTup (aCons (eVar 3) (aCons (eF biTuple (aCons (eLc (iRng1 (aCons (eC (.int 8)) aNil)) (gName 4) tYes (eF (cl F_L_take []) (aCons (eVar 0) (aCons (eC (.int 9)) aNil))) [4]) aNil)) aNil))) [3]) aNil))))
noncomputable def F_L_changes : Fn := runDef 2 5 b_L_changes
theorem sc_L_changes : FnScope N_L_changes P_L_changes (defScope s_L_changes) := ⟨rfl, rfl, rfl, by decide +kernel, rfl, by decide +kernel, by decide +kernel⟩
theorem ok_L_changes_2 (S : Sys K mg) : ∃ ds, Vals ([] : List V) ds ∧ DefOk P w K mg base 3 (He.fAd K d_L_changes.at_) P_L_changes ds 2 F_L_changes := by
  obtain ⟨ds_L_take_2, hd_L_take_2, G_L_take_2⟩ := ok_L_take_2 (P := P) (w := w) (base := base) S
  obtain ⟨fd, F⟩ := S.says.def_ 12 (d := d_L_changes) rfl
  obtain ⟨ds, hd, hB⟩ : ∃ ds, Vals ([] : List V) ds ∧ Binds K fd P_L_changes ds := ⟨[], .nil, F.bindsN fun _ _ _ _ _ _ us hl => match us, hl with | [_, _], _ => rfl⟩
  have S2 : FnScope N_L_changes P_L_changes d_L_changes.scope := sc_L_changes
  have q := def_ok (P := P) (w := w) (mg := mg) (base := base) (k := 2) (b := b_L_changes) F S2 hB
  refine ⟨ds, hd, q fun cdv A outer s H E c => ?_⟩
  exact (rss_cons (rs_set c 2 (re_sl (re_lc (own := [("_law_plate", 3)]) c (ri_rng1 (by rfl) (g_range S) (ra_cons re_int ra_nil)) (blk_of rfl) (fun s0 H0 C0 cl0 fp0 => (rgo_name (c.blk s0 H0 C0 cl0 fp0).nd 3 rfl (.inl rfl) (.inr rfl) (by decide))) (fun s0 H0 C0 cl0 fp0 => (rts_one (rt_cmp (op_eqD (c.blk s0 H0 C0 cl0 fp0).room.units) ok_eq (re_call (G_L_take_2.mono (by decide : 2 ≤ 2)) (c.blk s0 H0 C0 cl0 fp0) Asks.run (by rfl) (g__law_take S) hd_L_take_2 (fun _ _ _ => .nil) (ra_cons (re_var 0) (ra_cons re_int ra_nil))) re_int rfl))) (fun s0 H0 C0 cl0 fp0 => (re_var 3))) rp_none (rp_some (re_var 1))))
  (rss_one (rs_ret (re_callTy call_tuple_of ok_tuple (by rfl) (g_tuple S) bt_tuple (ra_cons (re_lc (own := [("_law_plate", 3)]) c (ri_seq (re_var 2)) (blk_of rfl) (fun s0 H0 C0 cl0 fp0 => (rgo_name (c.blk s0 H0 C0 cl0 fp0).nd 3 rfl (.inl rfl) (.inr rfl) (by decide))) (fun s0 H0 C0 cl0 fp0 => (rts_one (rt_b re_bl))) (fun s0 H0 C0 cl0 fp0 => (re_tup (ra_cons (re_var 3) (ra_cons (re_callTy call_tuple_of ok_tuple (by rfl) (g_tuple S) bt_tuple (ra_cons (re_lc (own := [("_law_at", 4)]) (c.blk s0 H0 C0 cl0 fp0) (ri_rng1 (by rfl) (g_range S) (ra_cons re_int ra_nil)) (blk_of rfl) (fun s1 H1 C1 cl1 fp1 => (rgo_name ((c.blk s0 H0 C0 cl0 fp0).blk s1 H1 C1 cl1 fp1).nd 4 rfl (.inl rfl) (.inr rfl) (by decide))) (fun s1 H1 C1 cl1 fp1 => rts_nil) (fun s1 H1 C1 cl1 fp1 => (re_call (G_L_take_2.mono (by decide : 2 ≤ 2)) ((c.blk s0 H0 C0 cl0 fp0).blk s1 H1 C1 cl1 fp1) Asks.run (by rfl) (g__law_take S) hd_L_take_2 (fun _ _ _ => .nil) (ra_cons (re_var 0) (ra_cons re_int ra_nil))))) ra_nil)) ra_nil))))) ra_nil)))))
abbrev N_L_is_log : List PySem.Str := ["_law_value", "_law_entry"]
abbrev P_L_is_log : List PySem.Str := ["_law_value"]
noncomputable def b_L_is_log : Sx :=
  (sSeq (sIf (tOr (tNot (tB (eF (biIsi .tuple) (aCons (eVar 0) aNil)))) (tB (eF opNe (aCons (eF biLen (aCons (eVar 0) aNil)) (aCons (eC (.int 12)) aNil))))) (sRet (eC (.bl false))) sNop)
  (sSeq (sIf (tNot (tB (eF biAll (aCons (eLc (iSeq (eVar 0)) (gName 1) tYes (eAnd (eF (biIsi .int) (aCons (eVar 1) aNil)) (eNot (eF (biIsi .bool) (aCons (eVar 1) aNil)))) [1]) aNil)))) (sRet (eC (.bl false))) sNop)
  (sRet (eAnd (eF opGe (aCons (eF opIx (aCons (eVar 0) (aCons (eC (.int 0)) aNil))) (aCons (eC (.int 0)) aNil))) (eAnd (eChain opLe opLt (eC (.int 0)) (eF opIx (aCons (eVar 0) (aCons (eC (.int 1)) aNil))) (eF opIx (aCons (eVar 0) (aCons (eC (.int 2)) aNil)))) (eF opGe (aCons (eF opIx (aCons (eVar 0) (aCons (eC (.int 3)) aNil))) (aCons (eC (.int 0)) aNil))))))))
noncomputable def F_L_is_log : Fn := runDef 1 2 b_L_is_log
theorem sc_L_is_log : FnScope N_L_is_log P_L_is_log (defScope s_L_is_log) := ⟨rfl, rfl, rfl, by decide +kernel, rfl, by decide +kernel, by decide +kernel⟩
theorem ok_L_is_log_1 (S : Sys K mg) : ∃ ds, Vals ([] : List V) ds ∧ DefOk P w K mg base 1 (He.fAd K d_L_is_log.at_) P_L_is_log ds 1 F_L_is_log := by
  obtain ⟨fd, F⟩ := S.says.def_ 13 (d := d_L_is_log) rfl
  obtain ⟨ds, hd, hB⟩ : ∃ ds, Vals ([] : List V) ds ∧ Binds K fd P_L_is_log ds := ⟨[], .nil, F.bindsN fun _ _ _ _ _ _ us hl => match us, hl with | [_], _ => rfl⟩
  have S2 : FnScope N_L_is_log P_L_is_log d_L_is_log.scope := sc_L_is_log
  have q := def_ok (P := P) (w := w) (mg := mg) (base := base) (k := 0) (b := b_L_is_log) F S2 hB
  refine ⟨ds, hd, q fun cdv A outer s H E c => ?_⟩
  exact (rss_cons (rs_if (rt_w (rw_or (rt_not (rt_b (re_isi .tuple (by rfl) (g_isinstance S) (by rfl) (g_tuple S) bt_tuple (re_var 0)))) (rw_or1 (rt_cmp (op_neD c.room.units) ok_ne (re_callB call_len_seq ok_len (by rfl) (g_len S) bt_len (ra_cons (re_var 0) ra_nil)) re_int rfl)))) (rss_one (rs_ret re_bl)) rss_nil)
  (rss_cons (rs_if (rt_not (rt_b (re_callB (cr_all c.calm) ok_all (by rfl) (g_all S) bt_all (ra_cons (re_lc (own := [("_law_entry", 1)]) c (ri_seq (re_var 0)) (blk_of rfl) (fun s0 H0 C0 cl0 fp0 => (rgo_name (c.blk s0 H0 C0 cl0 fp0).nd 1 rfl (.inl rfl) (.inr rfl) (by decide))) (fun s0 H0 C0 cl0 fp0 => rts_nil) (fun s0 H0 C0 cl0 fp0 => (re_and (re_isi .int (by rfl) (g_isinstance S) (by rfl) (g_int S) bt_int (re_var 1)) (re_one (re_not (re_isi .bool (by rfl) (g_isinstance S) (by rfl) (g_bool S) bt_bool (re_var 1))))))) ra_nil)))) (rss_one (rs_ret re_bl)) rss_nil)
  (rss_one (rs_ret (re_and (re_cmp op_ge ok_ge (re_ix ix_seq ok_ix (re_var 0) re_int (fun _ _ => rfl)) re_int rfl) (re_and (re_chain op_le ok_le op_lt ok_lt re_int (re_ix ix_seq ok_ix (re_var 0) re_int (fun _ _ => rfl)) (re_ix ix_seq ok_ix (re_var 0) re_int (fun _ _ => rfl))) (re_one (re_cmp op_ge ok_ge (re_ix ix_seq ok_ix (re_var 0) re_int (fun _ _ => rfl)) re_int rfl))))))))
abbrev N_L_group : List PySem.Str := ["_law_row", "_law_slots", "_law_slot", "_law_group_here", "_law_first", "_law_found", "_law_at", "_law_value"]
abbrev P_L_group : List PySem.Str := ["_law_row", "_law_slots", "_law_slot", "_law_group_here"]
noncomputable def b_L_group : Sx :=
  (sSeq (sAsg (eF opIx (aCons (eVar 0) (aCons (eF opMod (aCons (eF biInt (aCons (eVar 2) aNil)) (aCons (eVar 1) aNil))) aNil))) (gName 4))
  (sSeq (sIf (tOr (tNot (tB (eF (cl F_L_is_log []) (aCons (eVar 4) aNil)))) (tOr (tB (eF opNe (aCons (eF opIx (aCons (eVar 4) (aCons (eC (.int 0)) aNil))) (aCons (eVar 3) aNil)))) (tOr (tB (eF opNe (aCons (eF opIx (aCons (eVar 4) (aCons (eC (.int 1)) aNil))) (aCons (eC (.int 0)) aNil)))) (tB (eF opGt (aCons (eF opIx (aCons (eVar 4) (aCons (eC (.int 2)) aNil))) (aCons (eVar 1) aNil))))))) (sRet (eC .non)) sNop)
  (sSeq (sAsg (eF mkLst aNil) (gName 5))
  (sSeq (sFor (iRng1 (aCons (eF opIx (aCons (eVar 4) (aCons (eC (.int 2)) aNil))) aNil)) (gName 6)
  (sSeq (sAsg (eF opIx (aCons (eVar 0) (aCons (eF opMod (aCons (eF biInt (aCons (eF opAdd (aCons (eVar 2) (aCons (eVar 6) aNil))) aNil)) (aCons (eVar 1) aNil))) aNil))) (gName 7))
  (sSeq (sIf (tOr (tNot (tB (eF (cl F_L_is_log []) (aCons (eVar 7) aNil)))) (tB (eF opNe (aCons (eF biList (aCons (eSl (eVar 7) pNone (pSome (eC (.int 3)))) aNil)) (aCons (eF mkLst (aCons (eVar 3) (aCons (eVar 6) (aCons (eF opIx (aCons (eVar 4) (aCons (eC (.int 2)) aNil))) aNil)))) aNil))))) (sRet (eC .non)) sNop)
  (sDrop (eBM .list mAppend (eVar 5) (aCons (eF mkTup (aCons (eF opIx (aCons (eVar 7) (aCons (eC (.int 3)) aNil))) (aCons (eSl (eVar 7) (pSome (eC (.int 4))) pNone) aNil))) aNil))))))
  (sRet (eF biTuple (aCons (eVar 5) aNil)))))))
noncomputable def F_L_group : Fn := runDef 4 8 b_L_group
theorem sc_L_group : FnScope N_L_group P_L_group (defScope s_L_group) := ⟨rfl, rfl, rfl, by decide +kernel, rfl, by decide +kernel, by decide +kernel⟩
theorem ok_L_group_4 (S : Sys K mg) : ∃ ds, Vals ([] : List V) ds ∧ DefOk P w K mg base 2 (He.fAd K d_L_group.at_) P_L_group ds 4 F_L_group := by
  obtain ⟨ds_L_is_log_1, hd_L_is_log_1, G_L_is_log_1⟩ := ok_L_is_log_1 (P := P) (w := w) (base := base) S
  obtain ⟨fd, F⟩ := S.says.def_ 14 (d := d_L_group) rfl
  obtain ⟨ds, hd, hB⟩ : ∃ ds, Vals ([] : List V) ds ∧ Binds K fd P_L_group ds := ⟨[], .nil, F.bindsN fun _ _ _ _ _ _ us hl => match us, hl with | [_, _, _, _], _ => rfl⟩
  have S2 : FnScope N_L_group P_L_group d_L_group.scope := sc_L_group
  have q := def_ok (P := P) (w := w) (mg := mg) (base := base) (k := 1) (b := b_L_group) F S2 hB
  refine ⟨ds, hd, q fun cdv A outer s H E c => ?_⟩
  exact (rss_cons (rs_set c 4 (re_ix ix_seq ok_ix (re_var 0) (re_bin op_modN ok_mod (re_callTy call_int1 ok_int (by rfl) (g_int S) bt_int (ra_cons (re_var 2) ra_nil)) (re_var 1)) (fun _ _ => rfl)))
  (rss_cons (rs_if (rt_w (rw_or (rt_not (rt_b (re_call (G_L_is_log_1.mono (by decide : 1 ≤ 1)) c Asks.run (by rfl) (g__law_is_log S) hd_L_is_log_1 (fun _ _ _ => .nil) (ra_cons (re_var 4) ra_nil)))) (rw_or (rt_cmp (op_neD c.room.units) ok_ne (re_ix ix_seq ok_ix (re_var 4) re_int (fun _ _ => rfl)) (re_var 3) rfl) (rw_or (rt_cmp (op_neD c.room.units) ok_ne (re_ix ix_seq ok_ix (re_var 4) re_int (fun _ _ => rfl)) re_int rfl) (rw_or1 (rt_cmp op_gt ok_gt (re_ix ix_seq ok_ix (re_var 4) re_int (fun _ _ => rfl)) (re_var 1) rfl)))))) (rss_one (rs_ret re_non)) rss_nil)
  (rss_cons (rs_set c 5 (re_lst ra_nil))
  (rss_cons (rs_for c (ri_rng1 (by rfl) (g_range S) (ra_cons (re_ix ix_seq ok_ix (re_var 4) re_int (fun _ _ => rfl)) ra_nil)) (rg_name c 6)
  (rss_cons (rs_set c 7 (re_ix ix_seq ok_ix (re_var 0) (re_bin op_modN ok_mod (re_callTy call_int1 ok_int (by rfl) (g_int S) bt_int (ra_cons (re_bin op_add4 ok_add (re_var 2) (re_var 6)) ra_nil)) (re_var 1)) (fun _ _ => rfl)))
  (rss_cons (rs_if (rt_w (rw_or (rt_not (rt_b (re_call (G_L_is_log_1.mono (by decide : 1 ≤ 1)) c Asks.run (by rfl) (g__law_is_log S) hd_L_is_log_1 (fun _ _ _ => .nil) (ra_cons (re_var 7) ra_nil)))) (rw_or1 (rt_cmp (op_neD c.room.units) ok_ne (re_callTy call_list_of ok_list (by rfl) (g_list S) bt_list (ra_cons (re_sl (re_var 7) rp_none (rp_some re_int)) ra_nil)) (re_lst (ra_cons (re_var 3) (ra_cons (re_var 6) (ra_cons (re_ix ix_seq ok_ix (re_var 4) re_int (fun _ _ => rfl)) ra_nil)))) rfl)))) (rss_one (rs_ret re_non)) rss_nil)
  (rss_one (rs_expr (re_bm (t := .list) PySem.F.plainAttrs_list PySem.F.slot_list_append PySem.F.type_list_append mt_append ok_append (re_var 5) (ra_cons (re_tup (ra_cons (re_ix ix_seq ok_ix (re_var 7) re_int (fun _ _ => rfl)) (ra_cons (re_sl (re_var 7) (rp_some re_int) rp_none) ra_nil))) ra_nil)))))))
  (rss_one (rs_ret (re_callTy call_tuple_of ok_tuple (by rfl) (g_tuple S) bt_tuple (ra_cons (re_var 5) ra_nil))))))))
abbrev N_L_groups : List PySem.Str := ["_law_row", "_law_slots", "_law_head", "_law_group_here", "_law_slot", "_law_found", "_law_used", "_law_changes_here"]
abbrev P_L_groups : List PySem.Str := ["_law_row", "_law_slots", "_law_head"]
noncomputable def b_L_groups : Sx :=
  (sSeq (sAsg (eF mkTup (aCons (eF opIx (aCons (eVar 2) (aCons (eC (.int 1)) aNil))) (aCons (eF opIx (aCons (eVar 2) (aCons (eC (.int 2)) aNil))) (aCons (eF mkLst aNil) (aCons (eC (.int 0)) aNil))))) (gTup 4 (gCons (gName 3) (gCons (gName 4) (gCons (gName 5) (gCons (gName 6) gNil))))))
  (sWhile (tB (eC (.bl true)))
  (sSeq (sAsg (eF (cl F_L_group []) (aCons (eVar 0) (aCons (eVar 1) (aCons (eVar 4) (aCons (eVar 3) aNil))))) (gName 7))
  (sSeq (sIf (tOr (tB (eF opIs (aCons (eVar 7) (aCons (eC .non) aNil)))) (tB (eF opGt (aCons (eF opAdd (aCons (eVar 6) (aCons (eF biLen (aCons (eVar 7) aNil)) aNil))) (aCons (eVar 1) aNil))))) (sRet (eF biTuple (aCons (eVar 5) aNil))) sNop)
  (sSeq (sDrop (eBM .list mAppend (eVar 5) (aCons (eF mkTup (aCons (eVar 3) (aCons (eVar 4) (aCons (eVar 7) aNil)))) aNil)))
  (sPar3 3 4 6 (aCons (eF opAdd (aCons (eVar 3) (aCons (eC (.int 1)) aNil))) (aCons (eF opAdd (aCons (eVar 4) (aCons (eF biLen (aCons (eVar 7) aNil)) aNil))) (aCons (eF opAdd (aCons (eVar 6) (aCons (eF biLen (aCons (eVar 7) aNil)) aNil))) aNil)))))))))
noncomputable def F_L_groups : Fn := runDef 3 8 b_L_groups
theorem sc_L_groups : FnScope N_L_groups P_L_groups (defScope s_L_groups) := ⟨rfl, rfl, rfl, by decide +kernel, rfl, by decide +kernel, by decide +kernel⟩
theorem ok_L_groups_3 (S : Sys K mg) : ∃ ds, Vals ([] : List V) ds ∧ DefOk P w K mg base 3 (He.fAd K d_L_groups.at_) P_L_groups ds 3 F_L_groups := by
  obtain ⟨ds_L_group_4, hd_L_group_4, G_L_group_4⟩ := ok_L_group_4 (P := P) (w := w) (base := base) S
  obtain ⟨fd, F⟩ := S.says.def_ 15 (d := d_L_groups) rfl
  obtain ⟨ds, hd, hB⟩ : ∃ ds, Vals ([] : List V) ds ∧ Binds K fd P_L_groups ds := ⟨[], .nil, F.bindsN fun _ _ _ _ _ _ us hl => match us, hl with | [_, _, _], _ => rfl⟩
  have S2 : FnScope N_L_groups P_L_groups d_L_groups.scope := sc_L_groups
  have q := def_ok (P := P) (w := w) (mg := mg) (base := base) (k := 2) (b := b_L_groups) F S2 hB
  refine ⟨ds, hd, q fun cdv A outer s H E c => ?_⟩
  exact (rss_cons (rs_asg (re_tup (ra_cons (re_ix ix_seq ok_ix (re_var 2) re_int (fun _ _ => rfl)) (ra_cons (re_ix ix_seq ok_ix (re_var 2) re_int (fun _ _ => rfl)) (ra_cons (re_lst ra_nil) (ra_cons re_int ra_nil))))) (rg_tup c (rgs_cons (rg_name c 3) (rgs_cons (rg_name c 4) (rgs_cons (rg_name c 5) (rgs_cons (rg_name c 6) rgs_nil))))))
  (rss_one (rs_while c (rt_b re_bl)
  (rss_cons (rs_set c 7 (re_call (G_L_group_4.mono (by decide : 2 ≤ 2)) c Asks.run (by rfl) (g__law_group S) hd_L_group_4 (fun _ _ _ => .nil) (ra_cons (re_var 0) (ra_cons (re_var 1) (ra_cons (re_var 4) (ra_cons (re_var 3) ra_nil))))))
  (rss_cons (rs_if (rt_w (rw_or (rt_cmp op_isN ok_is (re_var 7) re_non rfl) (rw_or1 (rt_cmp op_gt ok_gt (re_bin op_add4 ok_add (re_var 6) (re_callB call_len_seq ok_len (by rfl) (g_len S) bt_len (ra_cons (re_var 7) ra_nil))) (re_var 1) rfl)))) (rss_one (rs_ret (re_callTy call_tuple_of ok_tuple (by rfl) (g_tuple S) bt_tuple (ra_cons (re_var 5) ra_nil)))) rss_nil)
  (rss_cons (rs_expr (re_bm (t := .list) PySem.F.plainAttrs_list PySem.F.slot_list_append PySem.F.type_list_append mt_append ok_append (re_var 5) (ra_cons (re_tup (ra_cons (re_var 3) (ra_cons (re_var 4) (ra_cons (re_var 7) ra_nil)))) ra_nil)))
  (rss_one (rs_par3 c 3 4 6 (ra_cons (re_bin op_add4 ok_add (re_var 3) re_int) (ra_cons (re_bin op_add4 ok_add (re_var 4) (re_callB call_len_seq ok_len (by rfl) (g_len S) bt_len (ra_cons (re_var 7) ra_nil))) (ra_cons (re_bin op_add4 ok_add (re_var 6) (re_callB call_len_seq ok_len (by rfl) (g_len S) bt_len (ra_cons (re_var 7) ra_nil))) ra_nil)))))))))))
abbrev N_Disk_init : List PySem.Str := ["self", "many"]
abbrev P_Disk_init : List PySem.Str := ["self", "many"]
noncomputable def b_Disk_init : Sx :=
  (sSeq (sFld [2] 0 (eVar 0) (eF opMul (aCons (eF mkTup (aCons (eF mkTup aNil) aNil)) (aCons (eVar 1) aNil))))
  (sFld [2] 1 (eVar 0) (eF mkTup aNil)))
noncomputable def F_Disk_init : Fn := runDef 2 2 b_Disk_init
theorem sc_Disk_init : FnScope N_Disk_init P_Disk_init (defScope s_Disk_init) := ⟨rfl, rfl, rfl, by decide +kernel, rfl, by decide +kernel, by decide +kernel⟩
theorem ok_Disk_init_2 (S : Sys K mg) : ∃ ds, Vals ([] : List V) ds ∧ DefOk P w K mg base 1 (He.fAd K d_Disk_init.at_) P_Disk_init ds 2 F_Disk_init := by
  obtain ⟨fd, F⟩ := S.says.def_ 17 (d := d_Disk_init) rfl
  obtain ⟨ds, hd, hB⟩ : ∃ ds, Vals ([] : List V) ds ∧ Binds K fd P_Disk_init ds := ⟨[], .nil, F.bindsN fun _ _ _ _ _ _ us hl => match us, hl with | [_, _], _ => rfl⟩
  have S2 : FnScope N_Disk_init P_Disk_init d_Disk_init.scope := sc_Disk_init
  have q := def_ok (P := P) (w := w) (mg := mg) (base := base) (k := 0) (b := b_Disk_init) F S2 hB
  refine ⟨ds, hd, q fun cdv A outer s H E c => ?_⟩
  exact (rss_cons (rs_fld (at_settled S) (re_var 0) (re_bin op_mul3 ok_mul (re_tup (ra_cons (re_tup ra_nil) ra_nil)) (re_var 1)))
  (rss_one (rs_fld (at_loose S) (re_var 0) (re_tup ra_nil))))
abbrev N_Disk_write : List PySem.Str := ["self", "plate", "value"]
abbrev P_Disk_write : List PySem.Str := ["self", "plate", "value"]
noncomputable def b_Disk_write : Sx :=
  (sSeq (sIf (tNot (tB (eF (cl F_is_below []) (aCons (eVar 1) (aCons (eF biLen (aCons (eF (fFld [2] 0) (aCons (eVar 0) aNil)) aNil)) aNil))))) sBad sNop)
  (sFld [2] 1 (eVar 0) (eF mkTup (aStar (eF (fFld [2] 1) (aCons (eVar 0) aNil)) (aCons (eF mkTup (aCons (eVar 1) (aCons (eVar 2) aNil))) aNil)))))
noncomputable def F_Disk_write : Fn := runDef 3 3 b_Disk_write
theorem sc_Disk_write : FnScope N_Disk_write P_Disk_write (defScope s_Disk_write) := ⟨rfl, rfl, rfl, by decide +kernel, rfl, by decide +kernel, by decide +kernel⟩
theorem ok_Disk_write_3 (S : Sys K mg) : ∃ ds, Vals ([] : List V) ds ∧ DefOk P w K mg base 3 (He.fAd K d_Disk_write.at_) P_Disk_write ds 3 F_Disk_write := by
  obtain ⟨ds_is_below_2, hd_is_below_2, G_is_below_2⟩ := ok_is_below_2 (P := P) (w := w) (base := base) S
  obtain ⟨fd, F⟩ := S.says.def_ 18 (d := d_Disk_write) rfl
  obtain ⟨ds, hd, hB⟩ : ∃ ds, Vals ([] : List V) ds ∧ Binds K fd P_Disk_write ds := ⟨[], .nil, F.bindsN fun _ _ _ _ _ _ us hl => match us, hl with | [_, _, _], _ => rfl⟩
  have S2 : FnScope N_Disk_write P_Disk_write d_Disk_write.scope := sc_Disk_write
  have q := def_ok (P := P) (w := w) (mg := mg) (base := base) (k := 2) (b := b_Disk_write) F S2 hB
  refine ⟨ds, hd, q fun cdv A outer s H E c => ?_⟩
  exact (rss_cons (rs_if (rt_not (rt_b (re_call (G_is_below_2.mono (by decide : 2 ≤ 2)) c Asks.run (by rfl) (g_is_below S) hd_is_below_2 (fun _ _ _ => .nil) (ra_cons (re_var 1) (ra_cons (re_callB call_len_seq ok_len (by rfl) (g_len S) bt_len (ra_cons (re_fld (at_settled S) (re_var 0)) ra_nil)) ra_nil))))) (rss_one rs_never) rss_nil)
  (rss_one (rs_fld (at_loose S) (re_var 0) (re_tup (ra_star (re_fld (at_loose S) (re_var 0)) (ra_cons (re_tup (ra_cons (re_var 1) (ra_cons (re_var 2) ra_nil))) ra_nil))))))
noncomputable def st_law_0 : Sx :=
  (sGc (sAsg (eF mkLst (aCons (eVar 0) (aCons (eC (.int 0)) aNil))) (gName 1)))
noncomputable def st_law_1 : Sx :=
  (sGc (sAsg (eF (cl F_L_pick []) (aCons (eVar 1) (aCons (eF mkLst (aCons (eC (.int 1)) (aCons (eC (.int 3)) (aCons (eC (.int 5)) (aCons (eC (.int 8)) aNil))))) aNil))) (gName 2)))
noncomputable def st_law_2 : Sx :=
  (sGc (sAsg (eF mkTup (aCons (eF opMul (aCons (eF mkLst (aCons (eF mkTup aNil) aNil)) (aCons (eVar 2) aNil))) (aCons (eF (cl F_L_take []) (aCons (eVar 1) (aCons (eC (.int 20)) aNil))) (aCons (eF (cl F_L_take []) (aCons (eVar 1) (aCons (eC (.int 3)) aNil))) aNil)))) (gTup 3 (gCons (gName 3) (gCons (gName 4) (gCons (gName 5) gNil))))))
noncomputable def st_law_3 : Sx :=
  (sGc (sAsg (eF mkTup (aCons (eC (.int 0)) (aCons (eVar 5) (aCons (eVar 4) aNil)))) (gName 6)))
noncomputable def bd_law_4 : Sx :=
  (sGc (sFg [8, 9, 10, 11, 12, 7] (sSeq (sGc (sAsg (eF (cl F_L_changes []) (aCons (eVar 1) (aCons (eVar 2) aNil))) (gName 8)))
  (sIf (tB (eF opNe (aCons (eVar 8) (aCons (eF mkTup aNil) aNil)))) (sSeq (sGc (sAsg (eF (cl F_log_rows []) (aCons (eVar 5) (aCons (eVar 8) aNil))) (gName 9)))
  (sSeq (sGc (sAsg (eLc (iEnum (aCons (eVar 8) aNil)) (gTup 2 (gCons (gName 11) (gCons (gName 16) gNil))) tYes (eF opAdd (aCons (eF mkTup (aCons (eVar 5) (aCons (eVar 11) (aCons (eF biLen (aCons (eVar 8) aNil)) (aCons (eF opIx (aCons (eVar 16) (aCons (eC (.int 0)) aNil))) aNil))))) (aCons (eF opIx (aCons (eVar 16) (aCons (eC (.int 1)) aNil))) aNil))) [11, 16]) (gName 10)))
  (sSeq (sIf (tB (eF opNe (aCons (eLc (iSeq (eVar 9)) (gName 17) tYes (eF biTuple (aCons (eVar 17) aNil)) [17]) (aCons (eVar 10) aNil)))) (sRet (eC (.bl false))) sNop)
  (sSeq (sFor (iEnum (aCons (eVar 10) aNil)) (gTup 2 (gCons (gName 11) (gCons (gName 12) gNil)))
  (sGc (sFg [11, 12] (sGc (sAsg (eVar 12) (gSub (eVar 3) (eF opMod (aCons (eF biInt (aCons (eF opAdd (aCons (eVar 4) (aCons (eVar 11) aNil))) aNil)) (aCons (eVar 2) aNil))) stIx))))))
  (sGc (sAsg (eF mkTup (aCons (eF opAdd (aCons (eVar 5) (aCons (eC (.int 1)) aNil))) (aCons (eF opAdd (aCons (eVar 4) (aCons (eF biLen (aCons (eVar 8) aNil)) aNil))) aNil))) (gTup 2 (gCons (gName 5) (gCons (gName 4) gNil))))))))) sNop))))
noncomputable def st_law_4 : Sx :=
  (sFor (iRng1 (aCons (eF (cl F_L_pick []) (aCons (eVar 1) (aCons (eF mkLst (aCons (eC (.int 1)) (aCons (eC (.int 3)) (aCons (eC (.int 5)) aNil)))) aNil))) aNil)) (gName 7)
  bd_law_4)
noncomputable def bd_law_5 : Sx :=
  (sSeq (sAsg (eF (cl F_L_take []) (aCons (eVar 1) (aCons (eVar 2) aNil))) (gName 11))
  (sSeq (sAsg (eIf (tAnd (tB (eF opNe (aCons (eF opIx (aCons (eVar 3) (aCons (eVar 11) aNil))) (aCons (eF mkTup aNil) aNil)))) (tB (eF opNis (aCons (eF opIx (aCons (eVar 3) (aCons (eVar 11) aNil))) (aCons (eC .non) aNil))))) (eF biList (aCons (eF opIx (aCons (eVar 3) (aCons (eVar 11) aNil))) aNil)) (eF opMul (aCons (eF mkLst (aCons (eC (.int 0)) aNil)) (aCons (eC (.int 12)) aNil)))) (gName 12))
  (sSeq (sAsg (eF (cl F_L_pick []) (aCons (eVar 1) (aCons (eF mkLst (aCons (eC (.int 0)) (aCons (eC (.int 1)) (aCons (eC (.int 2)) (aCons (eC (.int 3)) (aCons (eF opNeg (aCons (eC (.int 1)) aNil)) (aCons (eF opNeg (aCons (eC (.int 1)) aNil)) (aCons (eC (.bl true)) (aCons (eC (.str "2")) aNil))))))))) aNil))) (gSub (eVar 12) (eF (cl F_L_take []) (aCons (eVar 1) (aCons (eC (.int 4)) aNil))) stIx))
  (sAsg (eF (cl F_L_pick []) (aCons (eVar 1) (aCons (eF mkLst (aCons (eF biTuple (aCons (eVar 12) aNil)) (aCons (eF biTuple (aCons (eVar 12) aNil)) (aCons (eC .non) (aCons (eF mkTup aNil) (aCons (eF biTuple (aCons (eSl (eVar 12) (pSome (eC (.int 1))) pNone) aNil)) (aCons (eVar 12) aNil))))))) aNil))) (gSub (eVar 3) (eVar 11) stIx)))))
noncomputable def st_law_5 : Sx :=
  (sFor (iRng1 (aCons (eF (cl F_L_pick []) (aCons (eVar 1) (aCons (eF mkLst (aCons (eC (.int 0)) (aCons (eC (.int 1)) (aCons (eC (.int 3)) (aCons (eC (.int 5)) aNil))))) aNil))) aNil)) (gName 7)
  bd_law_5)
noncomputable def st_law_6 : Sx :=
  (sAsg (eF (mkIns 2 (cl F_Disk_init [])) (aCons (eF opAdd (aCons (eC (.int 2)) (aCons (eVar 2) aNil))) aNil)) (gName 13))
noncomputable def bd_law_7 : Sx :=
  (sSeq (sDrop (eM 2 (cl F_Disk_write []) (eVar 13) (aCons (eF (cl F_slot_plate []) (aCons (eVar 2) (aCons (eF opAdd (aCons (eVar 11) (aCons (eF opMul (aCons (eVar 2) (aCons (eF (cl F_L_take []) (aCons (eVar 1) (aCons (eC (.int 3)) aNil))) aNil))) aNil))) aNil))) (aCons (eVar 12) aNil))))
  (sIf (tB (eF opNe (aCons (eF (cl F_is_log_plate []) (aCons (eVar 12) aNil)) (aCons (eF (cl F_L_is_log []) (aCons (eVar 12) aNil)) aNil)))) (sRet (eC (.bl false))) sNop))
noncomputable def st_law_7 : Sx :=
  (sFor (iEnum (aCons (eVar 3) aNil)) (gTup 2 (gCons (gName 11) (gCons (gName 12) gNil)))
  bd_law_7)
noncomputable def st_law_8 : Sx :=
  (sAsg (eLc (iSeq (eVar 3)) (gName 12) (tB (eF (cl F_L_is_log []) (aCons (eVar 12) aNil))) (eF opIx (aCons (eVar 12) (aCons (eC (.int 0)) aNil))) [12]) (gName 14))
noncomputable def st_law_9 : Sx :=
  (sIf (tOr (tB (eF opNe (aCons (eF (cl F_last_seen []) (aCons (eVar 13) (aCons (eVar 2) aNil))) (aCons (eF biMax (aCons (eF opAdd (aCons (eVar 14) (aCons (eF mkLst (aCons (eF opNeg (aCons (eC (.int 1)) aNil)) aNil)) aNil))) aNil)) aNil)))) (tB (eF opNe (aCons (eF (cl F_read_groups []) (aCons (eVar 13) (aCons (eVar 2) (aCons (eVar 6) aNil)))) (aCons (eF (cl F_L_groups []) (aCons (eVar 3) (aCons (eVar 2) (aCons (eVar 6) aNil)))) aNil))))) (sRet (eC (.bl false))) sNop)
noncomputable def bd_law_10 : Sx :=
  (sSeq (sPar 11 15 (aCons (eF (cl F_L_take []) (aCons (eVar 1) (aCons (eF opMul (aCons (eC (.int 2)) (aCons (eVar 2) aNil))) aNil))) (aCons (eF (cl F_L_take []) (aCons (eVar 1) (aCons (eF opAdd (aCons (eVar 5) (aCons (eC (.int 1)) aNil))) aNil))) aNil)))
  (sIf (tB (eF opNe (aCons (eF (cl F_whole_group []) (aCons (eVar 13) (aCons (eVar 2) (aCons (eVar 11) (aCons (eVar 15) aNil))))) (aCons (eF (cl F_L_group []) (aCons (eVar 3) (aCons (eVar 2) (aCons (eVar 11) (aCons (eVar 15) aNil))))) aNil)))) (sRet (eC (.bl false))) sNop))
noncomputable def st_law_10 : Sx :=
  (sFor (iRng1 (aCons (eC (.int 6)) aNil)) (gName 7)
  bd_law_10)
noncomputable def st_law_11 : Sx :=
  (sRet (eF opEq (aCons (eLc (iRng1 (aCons (eF opMul (aCons (eC (.int 3)) (aCons (eVar 2) aNil))) aNil)) (gName 11) tYes (eF (cl F_slot_plate []) (aCons (eVar 2) (aCons (eVar 11) aNil))) [11]) (aCons (eLc (iRng1 (aCons (eF opMul (aCons (eC (.int 3)) (aCons (eVar 2) aNil))) aNil)) (gName 11) tYes (eF opAdd (aCons (eC (.int 2)) (aCons (eF opMod (aCons (eF biInt (aCons (eVar 11) aNil)) (aCons (eVar 2) aNil))) aNil))) [11]) aNil))))
abbrev N_law : List PySem.Str := ["_law_script", "_law_draw", "_law_slots", "_law_row", "_law_slot", "_law_group_here", "_law_head", "_law_turn", "_law_changes_here", "_law_rows", "_law_due", "_law_at", "_law_value", "_law_disk", "_law_seen", "_law_number_here", "_law_pair", "_law_one"]
abbrev P_law : List PySem.Str := ["_law_script"]
noncomputable def b_law : Sx :=
  (sSeq st_law_0
  (sSeq st_law_1
  (sSeq st_law_2
  (sSeq st_law_3
  (sSeq st_law_4
  (sSeq st_law_5
  (sSeq st_law_6
  (sSeq st_law_7
  (sSeq st_law_8
  (sSeq st_law_9
  (sSeq st_law_10
  st_law_11)))))))))))
noncomputable def F_law : Fn := runDef 1 18 b_law
theorem sc_law : FnScope N_law P_law (defScope s_law) := ⟨rfl, rfl, rfl, by decide +kernel, rfl, by decide +kernel, by decide +kernel⟩
theorem ok_law_F (S : Sys K mg) {fd : FuncData} (F : FunD K d_law.name d_law.qual d_law.params d_law.body d_law.scope (d_law.dvs K) (d_law.kws K) (He.fAd K d_law.at_) fd) : FnOk P w K mg base (L2.CX P w) 6 (He.fAd K d_law.at_) fd P_law (spD K 1 F_law) := by
  obtain ⟨ds_L_pick_2, hd_L_pick_2, G_L_pick_2⟩ := ok_L_pick_2 (P := P) (w := w) (base := base) S
  obtain ⟨ds_Disk_init_2, hd_Disk_init_2, G_Disk_init_2⟩ := ok_Disk_init_2 (P := P) (w := w) (base := base) S
  obtain ⟨ds_L_take_2, hd_L_take_2, G_L_take_2⟩ := ok_L_take_2 (P := P) (w := w) (base := base) S
  obtain ⟨ds_L_changes_2, hd_L_changes_2, G_L_changes_2⟩ := ok_L_changes_2 (P := P) (w := w) (base := base) S
  obtain ⟨ds_Disk_write_3, hd_Disk_write_3, G_Disk_write_3⟩ := ok_Disk_write_3 (P := P) (w := w) (base := base) S
  obtain ⟨ds_log_rows_2, hd_log_rows_2, G_log_rows_2⟩ := ok_log_rows_2 (P := P) (w := w) (base := base) S
  obtain ⟨ds_slot_plate_2, hd_slot_plate_2, G_slot_plate_2⟩ := ok_slot_plate_2 (P := P) (w := w) (base := base) S
  obtain ⟨ds_is_log_plate_1, hd_is_log_plate_1, G_is_log_plate_1⟩ := ok_is_log_plate_1 (P := P) (w := w) (base := base) S
  obtain ⟨ds_L_is_log_1, hd_L_is_log_1, G_L_is_log_1⟩ := ok_L_is_log_1 (P := P) (w := w) (base := base) S
  obtain ⟨ds_last_seen_2, hd_last_seen_2, G_last_seen_2⟩ := ok_last_seen_2 (P := P) (w := w) (base := base) S
  obtain ⟨ds_read_groups_3, hd_read_groups_3, G_read_groups_3⟩ := ok_read_groups_3 (P := P) (w := w) (base := base) S
  obtain ⟨ds_L_groups_3, hd_L_groups_3, G_L_groups_3⟩ := ok_L_groups_3 (P := P) (w := w) (base := base) S
  obtain ⟨ds_whole_group_4, hd_whole_group_4, G_whole_group_4⟩ := ok_whole_group_4 (P := P) (w := w) (base := base) S
  obtain ⟨ds_L_group_4, hd_L_group_4, G_L_group_4⟩ := ok_L_group_4 (P := P) (w := w) (base := base) S
  have S2 : FnScope N_law P_law d_law.scope := sc_law
  have q := def_okF (P := P) (w := w) (mg := mg) (base := base) (k := 5) (b := b_law) F S2
  refine q fun cdv A outer s H E c => ?_
  exact (rss_cons (rs_gc (rs_set c 1 (re_lst (ra_cons (re_var 0) (ra_cons re_int ra_nil)))))
  (rss_cons (rs_gc (rs_set c 2 (re_call (G_L_pick_2.mono (by decide : 3 ≤ 5)) c Asks.run (by rfl) (g__law_pick S) hd_L_pick_2 (fun _ _ _ => .nil) (ra_cons (re_var 1) (ra_cons (re_lst (ra_cons re_int (ra_cons re_int (ra_cons re_int (ra_cons re_int ra_nil))))) ra_nil)))))
  (rss_cons (rs_gc (rs_asg (re_tup (ra_cons (re_bin op_mul3 ok_mul (re_lst (ra_cons (re_tup ra_nil) ra_nil)) (re_var 2)) (ra_cons (re_call (G_L_take_2.mono (by decide : 2 ≤ 5)) c Asks.run (by rfl) (g__law_take S) hd_L_take_2 (fun _ _ _ => .nil) (ra_cons (re_var 1) (ra_cons re_int ra_nil))) (ra_cons (re_call (G_L_take_2.mono (by decide : 2 ≤ 5)) c Asks.run (by rfl) (g__law_take S) hd_L_take_2 (fun _ _ _ => .nil) (ra_cons (re_var 1) (ra_cons re_int ra_nil))) ra_nil)))) (rg_tup c (rgs_cons (rg_name c 3) (rgs_cons (rg_name c 4) (rgs_cons (rg_name c 5) rgs_nil))))))
  (rss_cons (rs_gc (rs_set c 6 (re_tup (ra_cons re_int (ra_cons (re_var 5) (ra_cons (re_var 4) ra_nil))))))
  (rss_cons (rs_for c (ri_rng1 (by rfl) (g_range S) (ra_cons (re_call (G_L_pick_2.mono (by decide : 3 ≤ 5)) c Asks.run (by rfl) (g__law_pick S) hd_L_pick_2 (fun _ _ _ => .nil) (ra_cons (re_var 1) (ra_cons (re_lst (ra_cons re_int (ra_cons re_int (ra_cons re_int ra_nil)))) ra_nil))) ra_nil)) (rg_name c 7)
  (rss_gc (rss_fg (is := [8, 9, 10, 11, 12, 7]) (rss_cons (rs_gc (rs_set c 8 (re_call (G_L_changes_2.mono (by decide : 3 ≤ 5)) c Asks.run (by rfl) (g__law_changes S) hd_L_changes_2 (fun _ _ _ => .nil) (ra_cons (re_var 1) (ra_cons (re_var 2) ra_nil)))))
  (rss_one (rs_if (rt_cmp (op_neD c.room.units) ok_ne (re_var 8) (re_tup ra_nil) rfl) (rss_cons (rs_gc (rs_set c 9 (re_call (G_log_rows_2.mono (by decide : 1 ≤ 5)) c Asks.run (by rfl) (g_log_rows S) hd_log_rows_2 (fun _ _ _ => .nil) (ra_cons (re_var 5) (ra_cons (re_var 8) ra_nil)))))
  (rss_cons (rs_gc (rs_setLc (own := [("_law_at", 11), ("_law_pair", 16)]) c 10 (ri_enum (by rfl) (g_enumerate S) (ra_cons (re_var 8) ra_nil)) (blk_of rfl) (fun s0 H0 C0 cl0 fp0 => (rgo_tup (c.blk s0 H0 C0 cl0 fp0).calm (rgos_cons (rgo_name (c.blk s0 H0 C0 cl0 fp0).nd 11 rfl (.inl rfl) (.inr rfl) (by decide)) (rgos_cons (rgo_name (c.blk s0 H0 C0 cl0 fp0).nd 16 rfl (.inl rfl) (.inr rfl) (by decide)) rgos_nil rfl) rfl) rfl rfl)) (fun s0 H0 C0 cl0 fp0 => rts_nil) (fun s0 H0 C0 cl0 fp0 => (re_bin op_add4 ok_add (re_tup (ra_cons (re_var 5) (ra_cons (re_var 11) (ra_cons (re_callB call_len_seq ok_len (by rfl) (g_len S) bt_len (ra_cons (re_var 8) ra_nil)) (ra_cons (re_ix ix_seq ok_ix (re_var 16) re_int (fun _ _ => rfl)) ra_nil))))) (re_ix ix_seq ok_ix (re_var 16) re_int (fun _ _ => rfl)))) rfl rfl (sw_true rfl rfl rfl (by decide +kernel))))
  (rss_cons (rs_if (rt_cmp (op_neD c.room.units) ok_ne (re_lc (own := [("_law_one", 17)]) c (ri_seq (re_var 9)) (blk_of rfl) (fun s0 H0 C0 cl0 fp0 => (rgo_name (c.blk s0 H0 C0 cl0 fp0).nd 17 rfl (.inl rfl) (.inr rfl) (by decide))) (fun s0 H0 C0 cl0 fp0 => rts_nil) (fun s0 H0 C0 cl0 fp0 => (re_callTy call_tuple_of ok_tuple (by rfl) (g_tuple S) bt_tuple (ra_cons (re_var 17) ra_nil)))) (re_var 10) rfl) (rss_one (rs_ret re_bl)) rss_nil)
  (rss_cons (rs_for c (ri_enum (by rfl) (g_enumerate S) (ra_cons (re_var 10) ra_nil)) (rg_tup c (rgs_cons (rg_name c 11) (rgs_cons (rg_name c 12) rgs_nil)))
  (rss_gc (rss_fg (is := [11, 12]) (rss_one (rs_gc (rs_asg (re_var 12) (rg_sub set_list ok_set (re_var 3) (re_bin op_modN ok_mod (re_callTy call_int1 ok_int (by rfl) (g_int S) bt_int (ra_cons (re_bin op_add4 ok_add (re_var 4) (re_var 11)) ra_nil)) (re_var 2)))))))))
  (rss_one (rs_gc (rs_asg (re_tup (ra_cons (re_bin op_add4 ok_add (re_var 5) re_int) (ra_cons (re_bin op_add4 ok_add (re_var 4) (re_callB call_len_seq ok_len (by rfl) (g_len S) bt_len (ra_cons (re_var 8) ra_nil))) ra_nil))) (rg_tup c (rgs_cons (rg_name c 5) (rgs_cons (rg_name c 4) rgs_nil)))))))))) rss_nil))))))
  (rss_cons (rs_for c (ri_rng1 (by rfl) (g_range S) (ra_cons (re_call (G_L_pick_2.mono (by decide : 3 ≤ 5)) c Asks.run (by rfl) (g__law_pick S) hd_L_pick_2 (fun _ _ _ => .nil) (ra_cons (re_var 1) (ra_cons (re_lst (ra_cons re_int (ra_cons re_int (ra_cons re_int (ra_cons re_int ra_nil))))) ra_nil))) ra_nil)) (rg_name c 7)
  (rss_cons (rs_set c 11 (re_call (G_L_take_2.mono (by decide : 2 ≤ 5)) c Asks.run (by rfl) (g__law_take S) hd_L_take_2 (fun _ _ _ => .nil) (ra_cons (re_var 1) (ra_cons (re_var 2) ra_nil))))
  (rss_cons (rs_set c 12 (re_ifExp (rt_w (rw_and (rt_cmp (op_neD c.room.units) ok_ne (re_ix ix_seq ok_ix (re_var 3) (re_var 11) (fun _ _ => rfl)) (re_tup ra_nil) rfl) (rw_and1 (rt_cmp op_notN ok_nis (re_ix ix_seq ok_ix (re_var 3) (re_var 11) (fun _ _ => rfl)) re_non rfl)))) (re_callTy call_list_of ok_list (by rfl) (g_list S) bt_list (ra_cons (re_ix ix_seq ok_ix (re_var 3) (re_var 11) (fun _ _ => rfl)) ra_nil)) (re_bin op_mul3 ok_mul (re_lst (ra_cons re_int ra_nil)) re_int)))
  (rss_cons (rs_asg (re_call (G_L_pick_2.mono (by decide : 3 ≤ 5)) c Asks.run (by rfl) (g__law_pick S) hd_L_pick_2 (fun _ _ _ => .nil) (ra_cons (re_var 1) (ra_cons (re_lst (ra_cons re_int (ra_cons re_int (ra_cons re_int (ra_cons re_int (ra_cons (re_un un_neg ok_neg re_int) (ra_cons (re_un un_neg ok_neg re_int) (ra_cons re_bl (ra_cons re_str ra_nil))))))))) ra_nil))) (rg_sub set_list ok_set (re_var 12) (re_call (G_L_take_2.mono (by decide : 2 ≤ 5)) c Asks.run (by rfl) (g__law_take S) hd_L_take_2 (fun _ _ _ => .nil) (ra_cons (re_var 1) (ra_cons re_int ra_nil)))))
  (rss_one (rs_asg (re_call (G_L_pick_2.mono (by decide : 3 ≤ 5)) c Asks.run (by rfl) (g__law_pick S) hd_L_pick_2 (fun _ _ _ => .nil) (ra_cons (re_var 1) (ra_cons (re_lst (ra_cons (re_callTy call_tuple_of ok_tuple (by rfl) (g_tuple S) bt_tuple (ra_cons (re_var 12) ra_nil)) (ra_cons (re_callTy call_tuple_of ok_tuple (by rfl) (g_tuple S) bt_tuple (ra_cons (re_var 12) ra_nil)) (ra_cons re_non (ra_cons (re_tup ra_nil) (ra_cons (re_callTy call_tuple_of ok_tuple (by rfl) (g_tuple S) bt_tuple (ra_cons (re_sl (re_var 12) (rp_some re_int) rp_none) ra_nil)) (ra_cons (re_var 12) ra_nil))))))) ra_nil))) (rg_sub set_list ok_set (re_var 3) (re_var 11))))))))
  (rss_cons (rs_set c 13 (re_make (mk_Disk S) (G_Disk_init_2.mono (by decide : 1 ≤ 4)) c Asks.run (by rfl) (g_Disk S) hd_Disk_init_2 (fun _ _ _ => .nil) (ra_cons (re_bin op_add4 ok_add re_int (re_var 2)) ra_nil)))
  (rss_cons (rs_for c (ri_enum (by rfl) (g_enumerate S) (ra_cons (re_var 3) ra_nil)) (rg_tup c (rgs_cons (rg_name c 11) (rgs_cons (rg_name c 12) rgs_nil)))
  (rss_cons (rs_expr (re_meth (G_Disk_write_3.mono (by decide : 3 ≤ 5)) c Asks.run (cl_Disk S) (mt_Disk_write S) (by decide +kernel) hd_Disk_write_3 (fun _ _ _ => .nil) (re_var 13) (ra_cons (re_call (G_slot_plate_2.mono (by decide : 1 ≤ 5)) c Asks.run (by rfl) (g_slot_plate S) hd_slot_plate_2 (fun _ _ _ => .nil) (ra_cons (re_var 2) (ra_cons (re_bin op_add4 ok_add (re_var 11) (re_bin op_mul3 ok_mul (re_var 2) (re_call (G_L_take_2.mono (by decide : 2 ≤ 5)) c Asks.run (by rfl) (g__law_take S) hd_L_take_2 (fun _ _ _ => .nil) (ra_cons (re_var 1) (ra_cons re_int ra_nil))))) ra_nil))) (ra_cons (re_var 12) ra_nil))))
  (rss_one (rs_if (rt_cmp (op_neD c.room.units) ok_ne (re_call (G_is_log_plate_1.mono (by decide : 2 ≤ 5)) c Asks.run (by rfl) (g_is_log_plate S) hd_is_log_plate_1 (fun _ _ _ => .nil) (ra_cons (re_var 12) ra_nil)) (re_call (G_L_is_log_1.mono (by decide : 1 ≤ 5)) c Asks.run (by rfl) (g__law_is_log S) hd_L_is_log_1 (fun _ _ _ => .nil) (ra_cons (re_var 12) ra_nil)) rfl) (rss_one (rs_ret re_bl)) rss_nil))))
  (rss_cons (rs_setLc (own := [("_law_value", 12)]) c 14 (ri_seq (re_var 3)) (blk_of rfl) (fun s0 H0 C0 cl0 fp0 => (rgo_name (c.blk s0 H0 C0 cl0 fp0).nd 12 rfl (.inl rfl) (.inr rfl) (by decide))) (fun s0 H0 C0 cl0 fp0 => (rts_one (rt_b (re_call (G_L_is_log_1.mono (by decide : 1 ≤ 5)) (c.blk s0 H0 C0 cl0 fp0) Asks.run (by rfl) (g__law_is_log S) hd_L_is_log_1 (fun _ _ _ => .nil) (ra_cons (re_var 12) ra_nil))))) (fun s0 H0 C0 cl0 fp0 => (re_ix ix_seq ok_ix (re_var 12) re_int (fun _ _ => rfl))) rfl rfl (sw_true rfl rfl rfl (by decide +kernel)))
  (rss_cons (rs_if (rt_w (rw_or (rt_cmp (op_neD c.room.units) ok_ne (re_call (G_last_seen_2.mono (by decide : 4 ≤ 5)) c Asks.run (by rfl) (g_last_seen S) hd_last_seen_2 (fun _ _ _ => .nil) (ra_cons (re_var 13) (ra_cons (re_var 2) ra_nil))) (re_callB (cr_max c.calm) ok_max (by rfl) (g_max S) bt_max (ra_cons (re_bin op_add4 ok_add (re_var 14) (re_lst (ra_cons (re_un un_neg ok_neg re_int) ra_nil))) ra_nil)) rfl) (rw_or1 (rt_cmp (op_neD c.room.units) ok_ne (re_call (G_read_groups_3.mono (by decide : 5 ≤ 5)) c Asks.run (by rfl) (g_read_groups S) hd_read_groups_3 (fun _ _ _ => .nil) (ra_cons (re_var 13) (ra_cons (re_var 2) (ra_cons (re_var 6) ra_nil)))) (re_call (G_L_groups_3.mono (by decide : 3 ≤ 5)) c Asks.run (by rfl) (g__law_groups S) hd_L_groups_3 (fun _ _ _ => .nil) (ra_cons (re_var 3) (ra_cons (re_var 2) (ra_cons (re_var 6) ra_nil)))) rfl)))) (rss_one (rs_ret re_bl)) rss_nil)
  (rss_cons (rs_for c (ri_rng1 (by rfl) (g_range S) (ra_cons re_int ra_nil)) (rg_name c 7)
  (rss_cons (rs_par c 11 15 (ra_cons (re_call (G_L_take_2.mono (by decide : 2 ≤ 5)) c Asks.run (by rfl) (g__law_take S) hd_L_take_2 (fun _ _ _ => .nil) (ra_cons (re_var 1) (ra_cons (re_bin op_mul3 ok_mul re_int (re_var 2)) ra_nil))) (ra_cons (re_call (G_L_take_2.mono (by decide : 2 ≤ 5)) c Asks.run (by rfl) (g__law_take S) hd_L_take_2 (fun _ _ _ => .nil) (ra_cons (re_var 1) (ra_cons (re_bin op_add4 ok_add (re_var 5) re_int) ra_nil))) ra_nil)))
  (rss_one (rs_if (rt_cmp (op_neD c.room.units) ok_ne (re_call (G_whole_group_4.mono (by decide : 4 ≤ 5)) c Asks.run (by rfl) (g_whole_group S) hd_whole_group_4 (fun _ _ _ => .nil) (ra_cons (re_var 13) (ra_cons (re_var 2) (ra_cons (re_var 11) (ra_cons (re_var 15) ra_nil))))) (re_call (G_L_group_4.mono (by decide : 2 ≤ 5)) c Asks.run (by rfl) (g__law_group S) hd_L_group_4 (fun _ _ _ => .nil) (ra_cons (re_var 3) (ra_cons (re_var 2) (ra_cons (re_var 11) (ra_cons (re_var 15) ra_nil))))) rfl) (rss_one (rs_ret re_bl)) rss_nil))))
  (rss_one (rs_ret (re_cmp (op_eqD c.room.units) ok_eq (re_lc (own := [("_law_at", 11)]) c (ri_rng1 (by rfl) (g_range S) (ra_cons (re_bin op_mul3 ok_mul re_int (re_var 2)) ra_nil)) (blk_of rfl) (fun s0 H0 C0 cl0 fp0 => (rgo_name (c.blk s0 H0 C0 cl0 fp0).nd 11 rfl (.inl rfl) (.inr rfl) (by decide))) (fun s0 H0 C0 cl0 fp0 => rts_nil) (fun s0 H0 C0 cl0 fp0 => (re_call (G_slot_plate_2.mono (by decide : 1 ≤ 5)) (c.blk s0 H0 C0 cl0 fp0) Asks.run (by rfl) (g_slot_plate S) hd_slot_plate_2 (fun _ _ _ => .nil) (ra_cons (re_var 2) (ra_cons (re_var 11) ra_nil))))) (re_lc (own := [("_law_at", 11)]) c (ri_rng1 (by rfl) (g_range S) (ra_cons (re_bin op_mul3 ok_mul re_int (re_var 2)) ra_nil)) (blk_of rfl) (fun s0 H0 C0 cl0 fp0 => (rgo_name (c.blk s0 H0 C0 cl0 fp0).nd 11 rfl (.inl rfl) (.inr rfl) (by decide))) (fun s0 H0 C0 cl0 fp0 => rts_nil) (fun s0 H0 C0 cl0 fp0 => (re_bin op_add4 ok_add re_int (re_bin op_modN ok_mod (re_callTy call_int1 ok_int (by rfl) (g_int S) bt_int (ra_cons (re_var 11) ra_nil)) (re_var 2))))) rfl))))))))))))))
theorem lawfd (S : Sys K mg) : ∃ fd, FunD K d_law.name d_law.qual d_law.params d_law.body d_law.scope (d_law.dvs K) (d_law.kws K) (He.fAd K d_law.at_) fd := S.says.def_ 16 (d := d_law) rfl
theorem law_b {fd : FuncData} (F : FunD K d_law.name d_law.qual d_law.params d_law.body d_law.scope (d_law.dvs K) (d_law.kws K) (He.fAd K d_law.at_) fd) (s : Shared) (v : Value) : BindsTo s fd ⟨[v], []⟩ [("_law_script", v)] := FunD.bindsA (ps := ["_law_script"]) F (fun _ _ _ _ _ _ us hl => match us, hl with | [_], _ => rfl) s [v] rfl
abbrev N_Disk_barrier : List PySem.Str := ["self"]
abbrev P_Disk_barrier : List PySem.Str := ["self"]
noncomputable def b_Disk_barrier : Sx :=
  (sSeq (sFld [2] 0 (eVar 0) (eF (cl F_after_barrier []) (aCons (eF (fFld [2] 0) (aCons (eVar 0) aNil)) (aCons (eF (fFld [2] 1) (aCons (eVar 0) aNil)) aNil))))
  (sFld [2] 1 (eVar 0) (eF mkTup aNil)))
noncomputable def F_Disk_barrier : Fn := runDef 1 1 b_Disk_barrier
theorem sc_Disk_barrier : FnScope N_Disk_barrier P_Disk_barrier (defScope s_Disk_barrier) := ⟨rfl, rfl, rfl, by decide +kernel, rfl, by decide +kernel, by decide +kernel⟩
theorem ok_Disk_barrier_1 (S : Sys K mg) : ∃ ds, Vals ([] : List V) ds ∧ DefOk P w K mg base 2 (He.fAd K d_Disk_barrier.at_) P_Disk_barrier ds 1 F_Disk_barrier := by
  obtain ⟨ds_after_barrier_2, hd_after_barrier_2, G_after_barrier_2⟩ := ok_after_barrier_2 (P := P) (w := w) (base := base) S
  obtain ⟨fd, F⟩ := S.says.def_ 19 (d := d_Disk_barrier) rfl
  obtain ⟨ds, hd, hB⟩ : ∃ ds, Vals ([] : List V) ds ∧ Binds K fd P_Disk_barrier ds := ⟨[], .nil, F.bindsN fun _ _ _ _ _ _ us hl => match us, hl with | [_], _ => rfl⟩
  have S2 : FnScope N_Disk_barrier P_Disk_barrier d_Disk_barrier.scope := sc_Disk_barrier
  have q := def_ok (P := P) (w := w) (mg := mg) (base := base) (k := 1) (b := b_Disk_barrier) F S2 hB
  refine ⟨ds, hd, q fun cdv A outer s H E c => ?_⟩
  exact (rss_cons (rs_fld (at_settled S) (re_var 0) (re_call (G_after_barrier_2.mono (by decide : 1 ≤ 1)) c Asks.run (by rfl) (g_after_barrier S) hd_after_barrier_2 (fun _ _ _ => .nil) (ra_cons (re_fld (at_settled S) (re_var 0)) (ra_cons (re_fld (at_loose S) (re_var 0)) ra_nil))))
  (rss_one (rs_fld (at_loose S) (re_var 0) (re_tup ra_nil))))
end
end Lw
set_option Elab.async false
set_option linter.all false
set_option maxRecDepth 100000
set_option maxHeartbeats 4000000
/-! What every law draws with (own work). -/
namespace Lw
open PySem DL
theorem atD_of {ds : List D} {i : Int} {d : D} (h0 : 0 ≤ i) (h : ds[i.toNat]? = some d) : atD ds i = some d := by
  have hl := (List.getElem?_eq_some_iff.mp h).1
  unfold atD ixD
  rw [if_pos h0, if_pos (by omega)]
  exact h
theorem number_sat {A : AH} {i : Nat} {ns : List Int} {x : Int} (hA : A[i]? = some (.rol (ns.map D.int))) (hx : 0 ≤ x) : (F_L_number [.ref i, .int x] A).sat fun d B => (∃ v, d = .int v) ∧ B = A := by
  have hi : i < A.length := (List.getElem?_eq_some_iff.mp hA).1
  refine sat_def rfl ?_
  have e0 : seqAt (A ++ [.lst []]) i = some (ns.map D.int) := by
    simp [List.getElem?_append_left hi, hA]
  have e1 : seqAt (A ++ [.lst []]) A.length = some [] := by simp
  have q : opEq [.ref i, .ref A.length] (A ++ [.lst []]) = .ok (.bl (eqDs (ns.map D.int) [])) (A ++ [.lst []]) := opEq_lst e0 e1 (purs_ints 58 ns) (by simp)
  have g : ∀ d : D, d.bd A.length = true → gc A d (A ++ [.lst []]) = .ok d A := fun d h => gc_app _ h
  simp only [b_L_number, startE]
  simp [line, q, tooWide]
  cases ns with
  | nil =>
    simp [eqDs, PyData.eqvAll, tooWide]
    rw [g _ (by simp)]
    simp
  | cons n ns =>
    have en : eqDs ((n :: ns).map D.int) [] = false := by simp [eqDs, PyData.eqvAll]
    have hlen : (((n :: ns).length : Nat) : Int) ≠ 0 := by simp; omega
    have h1 : (A ++ [O.lst []])[i]? = some (.rol ((n :: ns).map D.int)) := by rw [List.getElem?_append_left hi]; exact hA
    obtain ⟨c, hc⟩ : ∃ c, atD ((n :: ns).map D.int) (x.fmod ((n :: ns).length : Nat)) = some (.int c) := by
      have p1 : 0 ≤ x.fmod ((n :: ns).length : Nat) := Int.fmod_nonneg_of_pos x (by simp)
      have p2 : x.fmod ((n :: ns).length : Nat) < ((n :: ns).length : Nat) := Int.fmod_lt_of_pos x (by simp)
      obtain ⟨c, hc⟩ : ∃ c, (n :: ns)[(x.fmod ((n :: ns).length : Nat)).toNat]? = some c := ⟨_, List.getElem?_eq_getElem (by omega)⟩
      exact ⟨c, atD_of p1 (by rw [List.getElem?_map, hc]; rfl)⟩
    simp only [en]
    have z1 : ¬ ((ns.length : Int) + 1 = 0) := by omega
    have hc' : atD (D.int n :: ns.map D.int) (x.fmod ((ns.length : Int) + 1)) = some (.int c) := by simpa using hc
    simp [h1, z1, hc', tooWide]
    refine ⟨fun _ => ?_, fun _ => ?_⟩
    · rw [g _ (by simp)]
      simp
    · rw [g _ (by simp)]
      simp
structure Drw (ns : List Int) (A : AH) : Prop where
  s : A[0]? = some (.rol (ns.map D.int))
  d : ∃ n : Int, 0 ≤ n ∧ A[1]? = some (.lst [.ref 0, .int n])
/-- one more number was drawn -/
def Nx1 (A B : AH) : Prop := ∃ n : Int, 0 ≤ n ∧ B = A.set 1 (.lst [.ref 0, .int n])
theorem Drw.lt {ns : List Int} {A : AH} (h : Drw ns A) : 1 < A.length := by
  obtain ⟨n, _, e⟩ := h.d
  exact (List.getElem?_eq_some_iff.mp e).1
theorem Drw.nx {ns : List Int} {A B : AH} (h : Drw ns A) (x : Nx1 A B) : Drw ns B := by
  obtain ⟨n, h0, rfl⟩ := x
  exact ⟨by rw [List.getElem?_set_ne (by decide)]; exact h.s, n, h0, List.getElem?_set_self h.lt⟩
theorem Nx1.len {A B : AH} (x : Nx1 A B) : B.length = A.length := by
  obtain ⟨n, h0, rfl⟩ := x
  simp
theorem Nx1.get {A B : AH} (x : Nx1 A B) {j : Nat} (h : j ≠ 1) : B[j]? = A[j]? := by
  obtain ⟨n, h0, rfl⟩ := x
  exact List.getElem?_set_ne (Ne.symm h)
theorem Drw.app {ns : List Int} {A : AH} (h : Drw ns A) (G : AH) : Drw ns (A ++ G) := by
  have l := h.lt
  obtain ⟨n, h0, e⟩ := h.d
  exact ⟨by rw [List.getElem?_append_left (by omega)]; exact h.s, n, h0, by rw [List.getElem?_append_left l]; exact e⟩
theorem Drw.set {ns : List Int} {A : AH} (h : Drw ns A) {j : Nat} (o : O) (hj : 2 ≤ j) : Drw ns (A.set j o) := by
  obtain ⟨n, h0, e⟩ := h.d
  exact ⟨by rw [List.getElem?_set_ne (by omega)]; exact h.s, n, h0, by rw [List.getElem?_set_ne (by omega)]; exact e⟩
theorem take_sat {ns : List Int} {A : AH} {m : Int} (h : Drw ns A) (hm : 0 < m) : (F_L_take [.ref 1, .int m] A).sat fun d B => (∃ v, d = .int v ∧ 0 ≤ v ∧ v < m) ∧ Nx1 A B := by
  obtain ⟨n, h0, e⟩ := h.d
  have l := h.lt
  refine sat_def rfl ?_
  simp only [b_L_take, startE]
  have i1 : ixD 2 1 = some 1 := by decide
  have i0 : ixD 2 0 = some 0 := by decide
  have a1 : atD [D.ref 0, D.int n] 1 = some (.int n) := rfl
  have b1 : atD [D.ref 0, D.int (n + 1)] 1 = some (.int (n + 1)) := rfl
  have b0 : atD [D.ref 0, D.int (n + 1)] 0 = some (.ref 0) := rfl
  simp [e, a1, i1, List.getElem?_set_self l, b1, b0]
  have hs : (A.set 1 (.lst [.ref 0, .int (n + 1)]))[0]? = some (.rol (ns.map D.int)) := by rw [List.getElem?_set_ne (by decide)]; exact h.s
  refine (number_sat hs (by omega)).mono fun d B ⟨⟨v, hv⟩, hB⟩ => ?_
  subst hv hB
  have mz : m ≠ 0 := by omega
  simp [mz]
  rw [gc_set (by simp) l (by simp [O.bd]; omega)]
  exact ⟨⟨_, rfl, Int.fmod_nonneg_of_pos _ hm, Int.fmod_lt_of_pos _ hm⟩, n + 1, by omega, rfl⟩
/-- a drawn item of a list -/
theorem pick_sat {ns : List Int} {A : AH} {j : Nat} {ds : List D} (h : Drw ns A) (hj : A[j]? = some (.lst ds)) (h1 : j ≠ 1) (hd : ds ≠ []) (hb : bdAll A.length ds = true) : (F_L_pick [.ref 1, .ref j] A).sat fun d B => d ∈ ds ∧ Nx1 A B := by
  refine sat_def rfl ?_
  have l := h.lt
  simp only [b_L_pick, startE]
  simp [hj]
  refine (take_sat h (by have := List.length_pos_iff.mpr hd; omega)).mono fun d B ⟨⟨v, hv, v0, v1⟩, x⟩ => ?_
  subst hv
  have hj2 : B[j]? = some (.lst ds) := (x.get h1).trans hj
  obtain ⟨d, hd⟩ : ∃ d, ds[v.toNat]? = some d := ⟨_, List.getElem?_eq_getElem (by omega)⟩
  simp [hj2, atD_of v0 hd]
  have dm : d ∈ ds := List.mem_of_getElem? hd
  obtain ⟨n, h0, rfl⟩ := x
  rw [gc_set ((bdAll_iff _ _).mp hb d dm) l (by simp [O.bd]; omega)]
  exact ⟨dm, n, h0, rfl⟩
end Lw
set_option Elab.async false
set_option linter.all false
set_option maxRecDepth 100000
set_option maxHeartbeats 4000000
/-! Log plates (own work). -/
namespace Lw
open PySem DL
def isInt : D → Bool
  | .int _ => true
  | _ => false
/-- a value that is int, bool or text -/
def scal : D → Bool
  | .int _ => true
  | .bl _ => true
  | .str x => PyData.canLay0 (.str x)
  | _ => false
def iAt (ds : List D) (k : Nat) : Int := match ds[k]? with
  | some (.int i) => i
  | _ => 0
def isLog : D → Bool
  | .tup ds => decide (ds.length = 12) && ds.all isInt && (decide (0 ≤ iAt ds 1) && decide (iAt ds 1 < iAt ds 2) && decide (0 ≤ iAt ds 0) && decide (0 ≤ iAt ds 3))
  | _ => false
/-- what stands in a row -/
def PV (A : AH) (v : D) : Prop := v = .non ∨ (∃ ds, v = .tup ds ∧ ds.all scal = true ∧ ds.length ≤ 12) ∨ ∃ i ds, v = .ref i ∧ A[i]? = some (.lst ds) ∧ ds.all scal = true ∧ ds.length ≤ 12
theorem is_whole1 (d : D) (h : scal d = true) (B : AH) : F_is_whole [d, .non, .non] B = .ok (.bl (isInt d)) B := by
  refine sat_eq (sat_def rfl ?_)
  simp only [b_is_whole, startE]
  cases d <;> simp [scal] at h <;> simp [isInt, Ty.ofI, Ty.ofB, Ty.ofS]
theorem is_below_ok (i m : Int) (B : AH) : F_is_below [.int i, .int m] B = .ok (.bl (decide (0 ≤ i) && decide (i ≤ m - 1))) B := by
  refine sat_eq (sat_def rfl ?_)
  simp [b_is_below, startE, cl]
  have : F_is_whole [.int i, .int 0, .int (m - 1)] B = .ok (.bl (decide (0 ≤ i) && decide (i ≤ m - 1))) B := by
    refine sat_eq (sat_def rfl ?_)
    simp only [b_is_whole, startE]
    by_cases h : 0 ≤ i <;> simp [Ty.ofI, Ty.ofB, h]
  simp [this]
theorem slot_plate_ok (s i : Int) (h : s ≠ 0) (B : AH) : F_slot_plate [.int s, .int i] B = .ok (.int (2 + i.fmod s)) B := by
  refine sat_eq (sat_def rfl ?_)
  simp [b_slot_plate, startE, h]
theorem int_of {d : D} (h : isInt d = true) : ∃ i, d = .int i := by
  cases d <;> simp [isInt] at h
  exact ⟨_, rfl⟩
theorem ints12 {ds : List D} (hl : ds.length = 12) (h : ds.all isInt = true) : ∃ a b c d e f g i j k l m : Int, ds = [.int a, .int b, .int c, .int d, .int e, .int f, .int g, .int i, .int j, .int k, .int l, .int m] := by
  match ds, hl with
  | [a, b, c, d, e, f, g, i, j, k, l, m], _ =>
    simp at h
    obtain ⟨ha, hb, hc, hd, he, hf, hg, hi, hj, hk, hL, hm⟩ := h
    obtain ⟨_, rfl⟩ := int_of ha
    obtain ⟨_, rfl⟩ := int_of hb
    obtain ⟨_, rfl⟩ := int_of hc
    obtain ⟨_, rfl⟩ := int_of hd
    obtain ⟨_, rfl⟩ := int_of he
    obtain ⟨_, rfl⟩ := int_of hf
    obtain ⟨_, rfl⟩ := int_of hg
    obtain ⟨_, rfl⟩ := int_of hi
    obtain ⟨_, rfl⟩ := int_of hj
    obtain ⟨_, rfl⟩ := int_of hk
    obtain ⟨_, rfl⟩ := int_of hL
    obtain ⟨_, rfl⟩ := int_of hm
    exact ⟨_, _, _, _, _, _, _, _, _, _, _, _, rfl⟩
theorem bls_map (f : D → Bool) (ds : List D) : blsOf (ds.map fun d => .bl (f d)) = some (ds.map f) := by
  unfold blsOf
  rw [List.map_map, show (D.bl? ∘ fun d => D.bl (f d)) = fun d => some (f d) from rfl, show (ds.map fun d => some (f d)) = (ds.map f).map some by rw [List.map_map]; rfl, allSome_some]
theorem all_map (f : D → Bool) (ds : List D) : (ds.map f).all id = ds.all f := by rw [List.all_map]; rfl
theorem atD12 (a b c d e f g i j k l m : D) : atD [a, b, c, d, e, f, g, i, j, k, l, m] 0 = some a ∧ atD [a, b, c, d, e, f, g, i, j, k, l, m] 1 = some b ∧ atD [a, b, c, d, e, f, g, i, j, k, l, m] 2 = some c ∧ atD [a, b, c, d, e, f, g, i, j, k, l, m] 3 = some d := ⟨rfl, rfl, rfl, rfl⟩
theorem is_log_plate_ok {A : AH} {v : D} (h : PV A v) : F_is_log_plate [v] A = .ok (.bl (isLog v)) A := by
  refine sat_eq (sat_def rfl ?_)
  simp only [b_is_log_plate, startE]
  rcases h with rfl | ⟨ds, rfl, hs, hl⟩ | ⟨i, ds, rfl, hi, hs, hl⟩
  · simp [isLog]
  · by_cases h12 : ds.length = 12
    · have q := lc_map (src := .seq ds) (g := gName 1) (e := eF (cl F_is_whole [.non, .non]) (aCons (eVar 1) aNil)) (E := [some (D.tup ds), none]) (A := A) (ds := ds) (fun d => [some (D.tup ds), some d]) (fun d => .bl (isInt d)) (by simp [line]; omega) rfl (fun _ _ => rfl) (fun d _ G => rfl)
        (fun d hd G => by simp [cl, is_whole1 d (List.all_eq_true.mp hs d hd)])
      simp [Ty.ofT, h12, q, bls_map, all_map]
      by_cases ha : ds.all isInt = true
      · obtain ⟨a, b, c, d, e, f, g, i, j, k, l, m, rfl⟩ := ints12 h12 ha
        obtain ⟨t0, t1, t2, t3⟩ := atD12 (.int a) (.int b) (.int c) (.int d) (.int e) (.int f) (.int g) (.int i) (.int j) (.int k) (.int l) (.int m)
        simp [isInt, t0, t1, t2, t3, gc_app, isLog, iAt]
        by_cases p1 : 0 ≤ b <;> by_cases p2 : b < c <;> by_cases p3 : 0 ≤ a <;> simp [p1, p2, p3, gc_app] <;> omega
      · have e2 : ds.all isInt = false := by simpa using ha
        have e3 : ¬ ∀ x ∈ ds, isInt x = true := by simpa using ha
        simp [e3, gc_app, isLog, h12, e2]
    · have e : ¬ ((ds.length : Int) = 12) := by omega
      simp [Ty.ofT, isLog, h12, e]
  · simp [isLog, hi, Ty.ofL]
theorem L_is_log_ok {A : AH} {v : D} (h : PV A v) : F_L_is_log [v] A = .ok (.bl (isLog v)) A := by
  refine sat_eq (sat_def rfl ?_)
  simp only [b_L_is_log, startE]
  rcases h with rfl | ⟨ds, rfl, hs, hl⟩ | ⟨i, ds, rfl, hi, hs, hl⟩
  · simp [isLog]
  · by_cases h12 : ds.length = 12
    · have q := lc_map (src := .seq ds) (g := gName 1) (e := eAnd (eF (biIsi .int) (aCons (eVar 1) aNil)) (eNot (eF (biIsi .bool) (aCons (eVar 1) aNil)))) (E := [some (D.tup ds), none]) (A := A) (ds := ds) (fun d => [some (D.tup ds), some d]) (fun d => .bl (isInt d)) (by simp [line]; omega) rfl (fun _ _ => rfl) (fun d _ G => rfl)
        (fun d hd G => by
          have hs := List.all_eq_true.mp hs d hd
          cases d <;> simp [scal] at hs <;> simp [isInt, Ty.ofI, Ty.ofB, Ty.ofS])
      simp [Ty.ofT, h12, q, bls_map, all_map]
      by_cases ha : ds.all isInt = true
      · obtain ⟨a, b, c, d, e, f, g, i, j, k, l, m, rfl⟩ := ints12 h12 ha
        obtain ⟨t0, t1, t2, t3⟩ := atD12 (.int a) (.int b) (.int c) (.int d) (.int e) (.int f) (.int g) (.int i) (.int j) (.int k) (.int l) (.int m)
        simp [isInt, t0, t1, t2, t3, gc_app, isLog, iAt]
        by_cases p1 : 0 ≤ b <;> by_cases p2 : b < c <;> by_cases p3 : 0 ≤ a <;> simp [p1, p2, p3, gc_app] <;> omega
      · have e2 : ds.all isInt = false := by simpa using ha
        have e3 : ¬ ∀ x ∈ ds, isInt x = true := by simpa using ha
        simp [e3, gc_app, isLog, h12, e2]
    · have e : ¬ ((ds.length : Int) = 12) := by omega
      simp [Ty.ofT, isLog, h12, e]
  · simp [isLog, hi, Ty.ofL]
end Lw
set_option Elab.async false
set_option linter.all false
set_option maxRecDepth 100000
set_option maxHeartbeats 4000000
/-! The disk (own work). -/
namespace Lw
open PySem DL
theorem scal_bd {n : Nat} {d : D} (h : scal d = true) : d.bd n = true := by cases d <;> simp [scal] at h <;> simp
theorem scals_bd {n : Nat} {ds : List D} (h : ds.all scal = true) : bdAll n ds = true := (bdAll_iff n ds).mpr fun d hd => scal_bd (List.all_eq_true.mp h d hd)
theorem scal_pur {n : Nat} {d : D} (h : scal d = true) : d.pur (n + 1) = true := by cases d <;> simp [scal] at h <;> simp [D.pur, h]
theorem scals_pur {n : Nat} {ds : List D} (h : ds.all scal = true) : purs (n + 1) ds = true := (purs_iff _ ds).mpr fun d hd => scal_pur (List.all_eq_true.mp h d hd)
theorem PV.bd {A : AH} {v : D} (h : PV A v) : v.bd A.length = true := by
  rcases h with rfl | ⟨ds, rfl, hs, _⟩ | ⟨i, ds, rfl, hi, _⟩
  · simp
  · simp [scals_bd hs]
  · simp [(List.getElem?_eq_some_iff.mp hi).1]
theorem PV.py {A : AH} {v : D} (h : PV A v) : ∃ p, toPy A 59 v = some p := by
  rcases h with rfl | ⟨ds, rfl, hs, _⟩ | ⟨i, ds, rfl, hi, hs, _⟩
  · exact ⟨_, toPy_pur (by simp)⟩
  · exact ⟨_, toPy_pur (by rw [pur_tup]; exact scals_pur hs)⟩
  · exact ⟨_, toPy_lst (by simp [hi]) (scals_pur hs)⟩
theorem PV.app {A : AH} {v : D} (h : PV A v) (G : AH) : PV (A ++ G) v := by
  rcases h with rfl | h | ⟨i, ds, rfl, hi, hs⟩
  · exact .inl rfl
  · exact .inr (.inl h)
  · exact .inr (.inr ⟨i, ds, rfl, get_left hi, hs⟩)
theorem allSome_ex {α β : Type} {f : α → Option β} : ∀ {l : List α}, (∀ a ∈ l, ∃ b, f a = some b) → ∃ r, allSome (l.map f) = some r ∧ (r = [] ↔ l = [])
  | [], _ => ⟨[], rfl, by simp⟩
  | a :: l, h => by
    obtain ⟨b, hb⟩ := h a (by simp)
    obtain ⟨r, hr, _⟩ := allSome_ex (f := f) (l := l) fun c hc => h c (List.mem_cons_of_mem _ hc)
    exact ⟨b :: r, by simp [allSome, hb, hr], by simp⟩
theorem opNe_nil {A : AH} {i j : Nat} {ds : List D} (e : seqAt A i = some ds) (f : seqAt A j = some []) (h : ∀ d ∈ ds, ∃ p, toPy A 59 d = some p) : opNe [.ref i, .ref j] A = .ok (.bl (!ds.isEmpty)) A := by
  obtain ⟨r, hr, hn⟩ := allSome_ex h
  show eqO A not (toPy A 60 _) (toPy A 60 _) = _
  have q1 : toPy A 60 (.ref i) = some (.list r) := by
    simp only [toPy, e, hr, Option.map_some]
  rw [q1, toPy_lst (ds := []) f (by simp)]
  cases ds with
  | nil => rw [hn.mpr rfl]; simp [eqO, PyData.eqv, PyData.eqvAll]
  | cons d ds => cases r with
    | nil => simp at hn
    | cons p r => simp [eqO, PyData.eqv, PyData.eqvAll]
def prD (p : Int × D) : D := .tup [.int p.1, p.2]
/-- what a disk is -/
structure Dk (A : AH) (k : Nat) (n : Nat) (prs : List (Int × D)) : Prop where
  at_ : ∃ st, A[k]? = some (.ins 2 [(0, .tup st), (1, .tup (prs.map prD))]) ∧ st.length = n ∧ ∀ m, bdAll m st = true
  pv : ∀ p ∈ prs, PV A p.2
  few : prs.length ≤ 1000
def edN (a b : D) : D → DL.Env
  | .tup [x, y] => [some a, some b, none, some x, some y]
  | _ => []
def isP (pl : Int) : D → Bool
  | .tup [.int x, _] => decide (x = pl)
  | _ => false
def snd : D → D
  | .tup [_, y] => y
  | _ => .non
theorem fm_prs (pl : Int) : ∀ prs : List (Int × D), ((prs.map prD).filter (isP pl)).map snd = (prs.filter fun p => decide (p.1 = pl)).map (·.2)
  | [] => rfl
  | p :: prs => by
    rw [List.map_cons, List.filter_cons, List.filter_cons]
    have e : isP pl (prD p) = decide (p.1 = pl) := rfl
    rw [e]
    by_cases h : p.1 = pl
    · simp [h, fm_prs pl prs]
      rfl
    · simp [h, fm_prs pl prs]
theorem now_ok {A : AH} {k n : Nat} {prs : List (Int × D)} (h : Dk A k n prs) {pl : Int} {v : D} (h0 : 0 ≤ pl) (h1 : pl < n) (hv : (prs.filter fun p => decide (p.1 = pl)).map (·.2) = [v]) : F_Disk_now [.ref k, .int pl] A = .ok v A := by
  obtain ⟨st, hk, hl, _⟩ := h.at_
  refine sat_eq (sat_def rfl ?_)
  simp only [b_Disk_now, startE]
  have q := lc_fm (src := .seq (prs.map prD)) (g := gTup 2 (gCons (gName 3) (gCons (gName 4) gNil))) (t := tB (eF opEq (aCons (eVar 3) (aCons (eVar 1) aNil)))) (e := eVar 4) (E := [some (D.ref k), some (D.int pl), none, none, none]) (A := A) (ds := prs.map prD) (edN (.ref k) (.int pl)) (isP pl) snd
    (by have := h.few; simp [line]; omega) rfl (fun _ _ => rfl)
    (fun d hd G => by
      obtain ⟨p, _, rfl⟩ := List.mem_map.mp hd
      rfl)
    (fun d hd G => by
      obtain ⟨p, _, rfl⟩ := List.mem_map.mp hd
      simp [prD, edN, isP])
    (fun d hd _ G => by
      obtain ⟨p, _, rfl⟩ := List.mem_map.mp hd
      rfl)
  rw [fm_prs, hv] at q
  have hvm : PV A v := by
    have : v ∈ (prs.filter fun p => decide (p.1 = pl)).map (·.2) := by rw [hv]; simp
    obtain ⟨p, hp, rfl⟩ := List.mem_map.mp this
    exact h.pv p (List.mem_filter.mp hp).1
  have ib : (decide (0 ≤ pl) && decide (pl ≤ (n : Int) - 1)) = true := by simp; omega
  have c : opNe [.ref A.length, .ref (A.length + 1)] (A ++ [.lst [v], .lst []]) = .ok (.bl true) (A ++ [.lst [v], .lst []]) := by
    refine opNe_nil (ds := [v]) (by simp) (by simp) fun d hd => ?_
    simp at hd
    subst hd
    exact (hvm.app _).py
  have ix : atD [v] (-1) = some v := rfl
  simp [hk, cl, is_below_ok, hl, ib, q, c, line, ix]
  have e : A ++ [O.lst [v], O.lst []] = A ++ [O.lst [v], O.lst []] := rfl
  rw [gc_app _ hvm.bd]
  simp
end Lw
set_option Elab.async false
set_option linter.all false
set_option maxRecDepth 100000
set_option maxHeartbeats 4000000
/-! Groups (own work). -/
namespace Lw
open PySem DL
def grpL (f : Int → D) (slot group m : Int) : Nat → Nat → List D → D
  | _, 0, found => .tup found
  | at_, n + 1, found => match f (slot + at_) with
    | .tup ds => if (isLog (.tup ds) && (decide (iAt ds 0 = group) && decide (iAt ds 1 = at_) && decide (iAt ds 2 = m))) = true then grpL f slot group m (at_ + 1) n (found ++ [.tup [.int (iAt ds 3), .tup (ds.drop 4)]]) else .non
    | _ => .non
def grpD (f : Int → D) (s slot group : Int) : D := match f slot with
  | .tup ds => if (isLog (.tup ds) && (decide (iAt ds 0 = group) && decide (iAt ds 1 = 0) && decide (iAt ds 2 ≤ s))) = true then grpL f slot group (iAt ds 2) 0 (iAt ds 2).toNat [] else .non
  | _ => .non
/-- a change -/
def chg (d : D) : Prop := ∃ (i : Int) (js : List Int), d = .tup [.int i, .tup (js.map D.int)]
theorem chg_bd {n : Nat} {d : D} (h : chg d) : d.bd n = true := by
  obtain ⟨i, js, rfl⟩ := h
  simp [(bdAll_iff n _).mpr]
theorem chg_pur {n : Nat} {d : D} (h : chg d) : d.pur (n + 3) = true := by
  obtain ⟨i, js, rfl⟩ := h
  simp [purs_ints]
theorem chg_nob {d : D} (h : chg d) : d.nob = true := by
  obtain ⟨i, js, rfl⟩ := h
  simp [nobs_ints]
theorem isLog_form {v : D} (h : isLog v = true) : ∃ a b c d e f g i j k l m : Int, v = .tup [.int a, .int b, .int c, .int d, .int e, .int f, .int g, .int i, .int j, .int k, .int l, .int m] ∧ 0 ≤ b ∧ b < c := by
  cases v with
  | tup ds =>
    simp only [isLog, Bool.and_eq_true, decide_eq_true_eq] at h
    obtain ⟨⟨h1, h2⟩, ⟨⟨h3, h4⟩, h5⟩, h6⟩ := h
    obtain ⟨a, b, c, d, e, f, g, i, j, k, l, m, rfl⟩ := ints12 h1 h2
    exact ⟨a, b, c, d, e, f, g, i, j, k, l, m, rfl, h3, h4⟩
  | _ => simp [isLog] at h
/-- what a group is: none, or changes -/
def grpR (d : D) : Prop := d = .non ∨ ∃ fs, d = .tup fs ∧ (∀ x ∈ fs, chg x) ∧ 1 ≤ fs.length ∧ fs.length ≤ 1000
theorem grpL_R {f : Int → D} {slot group m : Int} : ∀ (n at_ : Nat) (found : List D), (∀ x ∈ found, chg x) → grpL f slot group m at_ n found = .non ∨ ∃ fs, grpL f slot group m at_ n found = .tup fs ∧ (∀ x ∈ fs, chg x) ∧ fs.length = found.length + n
  | 0, at_, found, h => .inr ⟨found, rfl, h, rfl⟩
  | n + 1, at_, found, h => by
    unfold grpL
    cases e : f (slot + at_) with
    | tup ds =>
      simp only []
      split
      · rename_i z
        simp only [Bool.and_eq_true] at z
        obtain ⟨a, b, c, d, e', f', g, i, j, k, l, m', q, _, _⟩ := isLog_form z.1
        cases q
        rcases grpL_R (f := f) (slot := slot) (group := group) (m := m) n (at_ + 1) (found ++ [.tup [.int d, .tup [.int e', .int f', .int g, .int i, .int j, .int k, .int l, .int m']]]) (fun x hx => by
          rcases List.mem_append.mp hx with hx | hx
          · exact h x hx
          · simp at hx; subst hx; exact ⟨d, [e', f', g, i, j, k, l, m'], rfl⟩) with q | ⟨fs, q1, q2, q3⟩
        · exact .inl q
        · exact .inr ⟨fs, q1, q2, by simp at q3; omega⟩
      · exact .inl rfl
    | _ => exact .inl rfl
theorem grpD_R {f : Int → D} {s slot group : Int} (hs : s ≤ 1000) : grpR (grpD f s slot group) := by
  unfold grpD
  cases e : f slot with
  | tup ds =>
    simp only []
    split
    · rename_i z
      simp only [Bool.and_eq_true, decide_eq_true_eq] at z
      obtain ⟨a, b, c, d, e', f', g, i, j, k, l, m', q, h1, h2⟩ := isLog_form z.1
      cases q
      have hc : c ≤ s := z.2.2
      rcases grpL_R (f := f) (slot := slot) (group := group) (m := c) c.toNat 0 [] (by simp) with q | ⟨fs, q1, q2, q3⟩
      · exact .inl q
      · exact .inr ⟨fs, q1, q2, by simp at q3; omega, by simp at q3; omega⟩
    · exact .inl rfl
  | _ => exact .inl rfl
theorem grpR_bd {n : Nat} {d : D} (h : grpR d) : d.bd n = true := by
  rcases h with rfl | ⟨fs, rfl, h, _⟩
  · simp
  · simp [(bdAll_iff n fs).mpr fun x hx => chg_bd (h x hx)]
theorem grpR_pur {n : Nat} {d : D} (h : grpR d) : d.pur (n + 4) = true := by
  rcases h with rfl | ⟨fs, rfl, h, _⟩
  · simp
  · simp [(purs_iff _ fs).mpr fun x hx => chg_pur (n := n) (h x hx)]
theorem grpR_nob {d : D} (h : grpR d) : d.nob = true := by
  rcases h with rfl | ⟨fs, rfl, h, _⟩
  · simp
  · simp [(nobs_iff fs).mpr fun x hx => chg_nob (h x hx)]
theorem upto_at {n k : Nat} (h : k < n) (A : AH) : (Src.seq (upto 0 n)).at A k = .item (.int k) := by
  rw [at_seq, upto_get, if_pos h]
  simp [stepO]
theorem upto_end {n : Nat} (A : AH) : (Src.seq (upto 0 n)).at A n = .stop := by
  rw [at_seq, upto_get, if_neg (Nat.lt_irrefl n)]
  rfl
theorem upto_size {n : Nat} (A : AH) : (Src.seq (upto 0 n)).size A = n := upto_len 0 n
theorem small_of {i : Int} (h0 : 0 ≤ i) (h : i ≤ 1000000) : small62 i = true := by
  unfold small62
  simp
  omega
theorem atd12 (a b c d e f g i j k l m : Int) : cutD [D.int a, .int b, .int c, .int d, .int e, .int f, .int g, .int i, .int j, .int k, .int l, .int m] none (some 3) = [.int a, .int b, .int c] ∧ cutD [D.int a, .int b, .int c, .int d, .int e, .int f, .int g, .int i, .int j, .int k, .int l, .int m] (some 4) none = [.int e, .int f, .int g, .int i, .int j, .int k, .int l, .int m] := ⟨rfl, rfl⟩
theorem eq3 (a b c x y z : Int) : eqD (.tup [.int a, .int b, .int c]) (.tup [.int x, .int y, .int z]) = (decide (a = x) && (decide (b = y) && decide (c = z))) := by
  simp [eqD, PyData.eqv, PyData.eqvAll]
  rfl
end Lw
set_option Elab.async false
set_option linter.all false
set_option maxRecDepth 100000
set_option maxHeartbeats 4000000
/-! A whole group, by the program and by the law (own work). -/
namespace Lw
open PySem DL
theorem whole_group_ok {A : AH} {dk : Nat} {s : Int} {f : Int → D} (hs0 : 0 < s) (hs : s ≤ 1000) (hins : ∀ G, isIns 2 (A ++ G) (.ref dk) = true) (hnow : ∀ G (x : Int), F_Disk_now [.ref dk, .int (2 + x.fmod s)] (A ++ G) = .ok (f x) (A ++ G))
    (hpv : ∀ x, PV A (f x)) (slot group : Int) : F_whole_group [.ref dk, .int s, .int slot, .int group] A = .ok (grpD f s slot group) A := by
  have hsz : s ≠ 0 := by omega
  have hins0 : isIns 2 A (.ref dk) = true := by simpa using hins []
  have hnow0 : ∀ x : Int, F_Disk_now [.ref dk, .int (2 + x.fmod s)] A = .ok (f x) A := fun x => by simpa using hnow [] x
  have RR := grpD_R (f := f) (slot := slot) (group := group) hs
  refine sat_eq (sat_def rfl ?_)
  simp only [b_whole_group, startE]
  simp [cl, hins0, slot_plate_ok, hsz, hnow0, is_log_plate_ok (hpv slot)]
  refine ⟨fun hL => ?_, fun hL => ?_⟩
  · have e : grpD f s slot group = .non := by
      unfold grpD
      cases q : f slot <;> simp only []
      rw [q] at hL
      rw [if_neg (by simp [hL])]
    simp [e]
  · obtain ⟨a, b, c, d, e, f', g, i, j, k', l, m, q, hb, hbc⟩ := isLog_form hL
    obtain ⟨t0, t1, t2, t3⟩ := atD12 (.int a) (.int b) (.int c) (.int d) (.int e) (.int f') (.int g) (.int i) (.int j) (.int k') (.int l) (.int m)
    have eR : grpD f s slot group = if (decide (a = group) && decide (b = 0) && decide (c ≤ s)) = true then grpL f slot group c 0 c.toNat [] else .non := by
      unfold grpD
      rw [q] at hL ⊢
      simp [hL, iAt]
    simp [q, t0, t1, t2]
    by_cases p1 : a = group
    · by_cases p2 : b = 0
      · by_cases p3 : s < c
        · simp [p1, p2, p3, eR, show ¬ c ≤ s by omega]
        · simp [p1, p2, p3, eR, show c ≤ s by omega, line, small_of (show 0 ≤ c by omega) (by omega)]
          refine for_sat c.toNat (fun k E B => ∃ (found : List D) (G : AH) (e6 e7 : Option D), E = [some (.ref dk), some (.int s), some (.int slot), some (.int group), some (.tup [.int group, .int 0, .int c, .int d, .int e, .int f', .int g, .int i, .int j, .int k', .int l, .int m]), some (.ref A.length), e6, e7] ∧ B = A ++ (.lst found :: G) ∧
            grpL f slot group c k (c.toNat - k) found = grpL f slot group c 0 c.toNat [] ∧ (∀ x ∈ found, chg x) ∧ found.length = k) (by rw [upto_size]; exact Nat.le_refl _) ⟨[], [], none, none, rfl, rfl, rfl, by simp, rfl⟩ ?_ ?_
          · rintro k E B hk ⟨found, G, e6, e7, rfl, rfl, hR, hg, hl⟩
            refine ⟨_, upto_at hk _, tsat_of ?_⟩
            have hk1 : c.toNat - k = (c.toNat - (k + 1)) + 1 := by omega
            rw [hk1] at hR
            simp [cl, hins, slot_plate_ok, hsz, hnow, is_log_plate_ok ((hpv (slot + k)).app _)]
            refine ⟨fun hL => ?_, fun hL => ?_⟩
            · have z : grpL f slot group c k ((c.toNat - (k + 1)) + 1) found = .non := by
                unfold grpL
                cases y : f (slot + k) <;> simp only []
                rw [y] at hL
                rw [if_neg (by simp [hL])]
              rw [z] at hR
              simp [gc_app]
              exact hR
            · obtain ⟨a2, b2, c2, d2, e2, f2, g2, i2, j2, k2, l2, m2, q2, hb2, hbc2⟩ := isLog_form hL
              obtain ⟨u0, u1, u2, u3⟩ := atD12 (.int a2) (.int b2) (.int c2) (.int d2) (.int e2) (.int f2) (.int g2) (.int i2) (.int j2) (.int k2) (.int l2) (.int m2)
              obtain ⟨w1, w2⟩ := atd12 a2 b2 c2 d2 e2 f2 g2 i2 j2 k2 l2 m2
              have hL2 : isLog (.tup [.int a2, .int b2, .int c2, .int d2, .int e2, .int f2, .int g2, .int i2, .int j2, .int k2, .int l2, .int m2]) = true := by rw [← q2]; exact hL
              have z : grpL f slot group c k ((c.toNat - (k + 1)) + 1) found = if (decide (a2 = group) && (decide (b2 = k) && decide (c2 = c))) = true then grpL f slot group c (k + 1) (c.toNat - (k + 1)) (found ++ [.tup [.int d2, .tup [.int e2, .int f2, .int g2, .int i2, .int j2, .int k2, .int l2, .int m2]]]) else .non := by
                rw [grpL, q2]
                simp [hL2, iAt, and_assoc]
              have hne : opNe [.tup [.int a2, .int b2, .int c2], .tup [.int group, .int k, .int c]] (A ++ .lst found :: G) = .ok (.bl (!(decide (a2 = group) && (decide (b2 = k) && decide (c2 = c))))) (A ++ .lst found :: G) := by
                rw [opNe_pur (by simp) (by simp), eq3]
              have t2' : atD [.int group, .int 0, .int c, .int d, .int e, .int f', .int g, .int i, .int j, .int k', .int l, .int m] 2 = some (.int c) := rfl
              rw [z] at hR
              simp [q2, w1, w2, u3, line, t2', hne, get_last]
              have hlen : found.length < 16777216 := by omega
              refine ⟨fun x => ?_, fun x y w => ?_⟩
              · rw [if_neg (by simp; intro x1 x2 x3; rcases x with x | x | x <;> contradiction)] at hR
                simp [gc_app]
                exact hR
              · rw [if_pos (by simp [x, y, w])] at hR
                refine ⟨fun _ => ⟨hR, fun x hx => ?_, hl⟩, hlen⟩
                rcases hx with hx | rfl
                · exact hg x hx
                · exact ⟨d2, [e2, f2, g2, i2, j2, k2, l2, m2], rfl⟩
          · rintro E B ⟨found, G, e6, e7, rfl, rfl, hR, hg, hl⟩
            refine ⟨upto_end _, ?_⟩
            rw [Nat.sub_self] at hR
            have hb : (D.tup found).bd A.length = true := by rw [bd_tup, bdAll_iff]; exact fun x hx => chg_bd (hg x hx)
            simp [gc_app (A := A) (.lst found :: G) hb]
            exact hR
      · simp [p1, p2, eR]
    · simp [p1, eR]
end Lw
set_option Elab.async false
set_option linter.all false
set_option maxRecDepth 100000
set_option maxHeartbeats 4000000
/-! The law's own group (own work). -/
namespace Lw
open PySem DL
/-- a row's value -/
def rowAt (row : List D) (x : Int) : D := (row[(x.fmod row.length).toNat]?).getD .non
theorem rowAt_at {row : List D} (h : row ≠ []) (x : Int) : atD row (x.fmod row.length) = some (rowAt row x) := by
  have hl : 0 < row.length := List.length_pos_iff.mpr h
  have p1 : 0 ≤ x.fmod row.length := Int.fmod_nonneg_of_pos x (by omega)
  have p2 : x.fmod row.length < row.length := Int.fmod_lt_of_pos x (by omega)
  refine atD_of p1 ?_
  unfold rowAt
  rw [List.getElem?_eq_getElem (by omega)]
  rfl
theorem eq3s (a b c x y z : Int) : eqDs [.int a, .int b, .int c] [.int x, .int y, .int z] = (decide (a = x) && (decide (b = y) && decide (c = z))) := by
  simp [eqDs, PyData.eqv, PyData.eqvAll]
  rfl
theorem L_group_ok {A : AH} {rk : Nat} {row : List D} (hne : row ≠ []) (hs : row.length ≤ 1000) (hrow : A[rk]? = some (.lst row))
    (hpv : ∀ x, PV A (rowAt row x)) (slot group : Int) : F_L_group [.ref rk, .int row.length, .int slot, .int group] A = .ok (grpD (rowAt row) row.length slot group) A := by
  have hl0 : 0 < row.length := List.length_pos_iff.mpr hne
  have hsz : ¬ ((row.length : Int) = 0) := by omega
  have hl : ∀ G, (A ++ G)[rk]? = some (.lst row) := fun G => get_left hrow
  have RR := grpD_R (f := rowAt row) (s := row.length) (slot := slot) (group := group) (by omega)
  refine sat_eq (sat_def rfl ?_)
  simp only [b_L_group, startE]
  have la : row ≠ [] := hne
  simp [cl, hrow, hsz, hne, rowAt_at hne, L_is_log_ok (hpv slot)]
  refine ⟨fun hL => ?_, fun hL => ?_⟩
  · have e : grpD (rowAt row) row.length slot group = .non := by
      unfold grpD
      cases q : rowAt row slot <;> simp only []
      rw [q] at hL
      rw [if_neg (by simp [hL])]
    simp [e]
  · obtain ⟨a, b, c, d, e, f', g, i, j, k', l, m, q, hb, hbc⟩ := isLog_form hL
    obtain ⟨t0, t1, t2, t3⟩ := atD12 (.int a) (.int b) (.int c) (.int d) (.int e) (.int f') (.int g) (.int i) (.int j) (.int k') (.int l) (.int m)
    have eR : grpD (rowAt row) row.length slot group = if (decide (a = group) && decide (b = 0) && decide (c ≤ row.length)) = true then grpL (rowAt row) slot group c 0 c.toNat [] else .non := by
      unfold grpD
      rw [q] at hL ⊢
      simp [hL, iAt]
    simp [q, t0, t1, t2]
    by_cases p1 : a = group
    · by_cases p2 : b = 0
      · by_cases p3 : row.length < c
        · simp [p1, p2, p3, eR, show ¬ c ≤ row.length by omega]
        · simp [p1, p2, p3, eR, show c ≤ row.length by omega, line, small_of (show 0 ≤ c by omega) (by omega)]
          refine for_sat c.toNat (fun k E B => ∃ (found : List D) (G : AH) (e6 e7 : Option D), E = [some (.ref rk), some (.int row.length), some (.int slot), some (.int group), some (.tup [.int group, .int 0, .int c, .int d, .int e, .int f', .int g, .int i, .int j, .int k', .int l, .int m]), some (.ref A.length), e6, e7] ∧ B = A ++ (.lst found :: G) ∧
            grpL (rowAt row) slot group c k (c.toNat - k) found = grpL (rowAt row) slot group c 0 c.toNat [] ∧ (∀ x ∈ found, chg x) ∧ found.length = k) (by rw [upto_size]; exact Nat.le_refl _) ⟨[], [], none, none, rfl, rfl, rfl, by simp, rfl⟩ ?_ ?_
          · rintro k E B hk ⟨found, G, e6, e7, rfl, rfl, hR, hg, hl'⟩
            refine ⟨_, upto_at hk _, tsat_of ?_⟩
            have hk1 : c.toNat - k = (c.toNat - (k + 1)) + 1 := by omega
            rw [hk1] at hR
            simp [cl, hl, hsz, hne, rowAt_at hne, L_is_log_ok ((hpv (slot + k)).app _)]
            refine ⟨fun hL => ?_, fun hL => ?_⟩
            · have z : grpL (rowAt row) slot group c k ((c.toNat - (k + 1)) + 1) found = .non := by
                unfold grpL
                cases y : rowAt row (slot + k) <;> simp only []
                rw [y] at hL
                rw [if_neg (by simp [hL])]
              rw [z] at hR
              simp [gc_app]
              exact hR
            · obtain ⟨a2, b2, c2, d2, e2, f2, g2, i2, j2, k2, l2, m2, q2, hb2, hbc2⟩ := isLog_form hL
              obtain ⟨u0, u1, u2, u3⟩ := atD12 (.int a2) (.int b2) (.int c2) (.int d2) (.int e2) (.int f2) (.int g2) (.int i2) (.int j2) (.int k2) (.int l2) (.int m2)
              obtain ⟨w1, w2⟩ := atd12 a2 b2 c2 d2 e2 f2 g2 i2 j2 k2 l2 m2
              have hL2 : isLog (.tup [.int a2, .int b2, .int c2, .int d2, .int e2, .int f2, .int g2, .int i2, .int j2, .int k2, .int l2, .int m2]) = true := by rw [← q2]; exact hL
              have z : grpL (rowAt row) slot group c k ((c.toNat - (k + 1)) + 1) found = if (decide (a2 = group) && (decide (b2 = k) && decide (c2 = c))) = true then grpL (rowAt row) slot group c (k + 1) (c.toNat - (k + 1)) (found ++ [.tup [.int d2, .tup [.int e2, .int f2, .int g2, .int i2, .int j2, .int k2, .int l2, .int m2]]]) else .non := by
                rw [grpL, q2]
                simp [hL2, iAt, and_assoc]
              have t2' : atD [.int group, .int 0, .int c, .int d, .int e, .int f', .int g, .int i, .int j, .int k', .int l, .int m] 2 = some (.int c) := rfl
              rw [z] at hR
              have s1 : ∀ (x y : O), (A ++ O.lst found :: (G ++ [x, y]))[A.length + (G.length + 1)]? = some x := fun x y => by
                rw [List.getElem?_append_right (by omega), show A.length + (G.length + 1) - A.length = G.length + 1 by omega, List.getElem?_cons_succ, List.getElem?_append_right (Nat.le_refl _), Nat.sub_self]
                rfl
              have s2 : ∀ (x y : O), (A ++ O.lst found :: (G ++ [x, y]))[A.length + (G.length + 1 + 1)]? = some y := fun x y => by
                rw [List.getElem?_append_right (by omega), show A.length + (G.length + 1 + 1) - A.length = G.length + 1 + 1 by omega, List.getElem?_cons_succ, List.getElem?_append_right (by omega), show G.length + 1 - G.length = 1 by omega]
                rfl
              have hnq : opNe [.ref (A.length + (G.length + 1)), .ref (A.length + (G.length + 1 + 1))] (A ++ O.lst found :: (G ++ [O.lst [.int a2, .int b2, .int c2], O.lst [.int group, .int k, .int c]])) = .ok (.bl (!(decide (a2 = group) && (decide (b2 = k) && decide (c2 = c))))) (A ++ O.lst found :: (G ++ [O.lst [.int a2, .int b2, .int c2], O.lst [.int group, .int k, .int c]])) := by
                rw [opNe_lst (xs := [.int a2, .int b2, .int c2]) (ys := [.int group, .int k, .int c]) (by simp [s1]) (by simp [s2]) (by simp) (by simp), eq3s]
              simp [q2, w1, w2, u3, line, t2', get_last, hnq]
              have hlen : found.length < 16777216 := by omega
              refine ⟨fun x => ?_, fun x y w => ?_⟩
              · rw [if_neg (by simp; intro x1 x2 x3; rcases x with x | x | x <;> contradiction)] at hR
                simp [gc_app]
                exact hR
              · rw [if_pos (by simp [x, y, w])] at hR
                refine ⟨fun _ => ⟨hR, fun x hx => ?_, hl'⟩, hlen⟩
                rcases hx with hx | rfl
                · exact hg x hx
                · exact ⟨d2, [e2, f2, g2, i2, j2, k2, l2, m2], rfl⟩
          · rintro E B ⟨found, G, e6, e7, rfl, rfl, hR, hg, hl⟩
            refine ⟨upto_end _, ?_⟩
            rw [Nat.sub_self] at hR
            have hb : (D.tup found).bd A.length = true := by rw [bd_tup, bdAll_iff]; exact fun x hx => chg_bd (hg x hx)
            simp [gc_app (A := A) (.lst found :: G) hb]
            exact hR
      · simp [p1, p2, eR]
    · simp [p1, eR]
end Lw
set_option Elab.async false
set_option linter.all false
set_option maxRecDepth 100000
set_option maxHeartbeats 4000000
/-! Rows of groups (own work). -/
namespace Lw
open PySem DL
structure DkS (A : AH) (dk : Nat) (s : Int) (f : Int → D) : Prop where
  ins : ∀ G, isIns 2 (A ++ G) (.ref dk) = true
  now : ∀ G (x : Int), F_Disk_now [.ref dk, .int (2 + x.fmod s)] (A ++ G) = .ok (f x) (A ++ G)
  pv : ∀ x, PV A (f x)
theorem DkS.app {A : AH} {dk : Nat} {s : Int} {f : Int → D} (h : DkS A dk s f) (G : AH) : DkS (A ++ G) dk s f :=
  ⟨fun G' => by rw [List.append_assoc]; exact h.ins _, fun G' x => by rw [List.append_assoc]; exact h.now _ x, fun x => (h.pv x).app G⟩
def grps (f : Int → D) (s : Int) : Nat → Int → Int → Int → List D → D
  | 0, _, _, _, _ => .non
  | n + 1, group, slot, used, found => match grpD f s slot group with
    | .tup fs => if used + fs.length ≤ s then grps f s n (group + 1) (slot + fs.length) (used + fs.length) (found ++ [.tup [.int group, .int slot, .tup fs]]) else .tup found
    | _ => .tup found
def gch (d : D) : Prop := ∃ (g sl : Int) (fs : List D), d = .tup [.int g, .int sl, .tup fs] ∧ ∀ x ∈ fs, chg x
theorem gch_bd {n : Nat} {d : D} (h : gch d) : d.bd n = true := by
  obtain ⟨i, j, fs, rfl, h⟩ := h
  simp [(bdAll_iff n fs).mpr fun x hx => chg_bd (h x hx)]
theorem gch_pur {n : Nat} {d : D} (h : gch d) : d.pur (n + 5) = true := by
  obtain ⟨i, j, fs, rfl, h⟩ := h
  simp [(purs_iff _ fs).mpr fun x hx => chg_pur (n := n) (h x hx)]
theorem grps_G {f : Int → D} {s : Int} (hs : s ≤ 1000) : ∀ (n : Nat) (group slot used : Int) (found : List D), (∀ x ∈ found, gch x) → grps f s n group slot used found = .non ∨ ∃ fs, grps f s n group slot used found = .tup fs ∧ ∀ x ∈ fs, gch x
  | 0, _, _, _, _, _ => .inl rfl
  | n + 1, group, slot, used, found, h => by
    unfold grps
    rcases grpD_R (f := f) (slot := slot) (group := group) hs with e | ⟨fs, e, h1, _⟩
    · rw [e]
      exact .inr ⟨found, rfl, h⟩
    · rw [e]
      simp only []
      split
      · exact grps_G hs n _ _ _ _ fun x hx => by
          rcases List.mem_append.mp hx with hx | hx
          · exact h x hx
          · simp at hx
            subst hx
            exact ⟨group, slot, fs, rfl, h1⟩
      · exact .inr ⟨found, rfl, h⟩
theorem read_groups_ok {A : AH} {dk : Nat} {s : Int} {f : Int → D} (hs0 : 0 < s) (hs : s ≤ 1000) (K : DkS A dk s f) (n0 group0 slot0 : Int) : F_read_groups [.ref dk, .int s, .tup [.int n0, .int group0, .int slot0]] A = .ok (grps f s (s.toNat + 1) group0 slot0 0 []) A := by
  have wg : ∀ (G : AH) (slot group : Int), F_whole_group [.ref dk, .int s, .int slot, .int group] (A ++ G) = .ok (grpD f s slot group) (A ++ G) := fun G slot group =>
    whole_group_ok hs0 hs (K.app G).ins (K.app G).now (K.app G).pv slot group
  refine sat_eq (sat_def rfl ?_)
  simp only [b_read_groups, startE]
  simp [cl, line, wg]
  refine while_sat (s.toNat + 1) (fun m E B => ∃ (found : List D) (G : AH) (group slot used : Int), E = [some (.ref dk), some (.int s), some (.tup [.int n0, .int group0, .int slot0]), some (.int n0), some (.int group), some (.int slot), some (.ref A.length), some (.int used), some (grpD f s slot group)] ∧ B = A ++ (.lst found :: G) ∧
    grps f s m group slot used found = grps f s (s.toNat + 1) group0 slot0 0 [] ∧ (∀ x ∈ found, gch x) ∧ 0 ≤ used ∧ used ≤ s ∧ s < used + m ∧ found.length ≤ used) (by simp [fuel]; omega) ⟨[], [], group0, slot0, 0, rfl, rfl, rfl, by simp, by omega, by omega, by omega, by simp⟩ ?_
  rintro m E B ⟨found, G, group, slot, used, rfl, rfl, hR, hg, h0, h1, h2, h3⟩
  obtain ⟨j, rfl⟩ : ∃ j, m = j + 1 := ⟨m - 1, by omega⟩
  have hb : (D.tup found).bd A.length = true := by rw [bd_tup, bdAll_iff]; exact fun x hx => gch_bd (hg x hx)
  rcases grpD_R (f := f) (slot := slot) (group := group) hs with e | ⟨fs, e, k1, k2, k3⟩
  · rw [grps, e] at hR
    simp [e, get_last, gc_app (A := A) (.lst found :: G) hb]
    exact hR
  · rw [grps, e] at hR
    simp only [] at hR
    by_cases x : used + fs.length ≤ s
    · rw [if_pos x] at hR
      have hlen : found.length < 16777216 := by omega
      simp [e, get_last, x]
      refine tsat_of ?_
      simp [e, get_last, line, hlen, set_last, cl, wg]
      refine ⟨_, G, _, _, _, ⟨rfl, rfl, rfl, rfl⟩, ⟨rfl, rfl⟩, hR, fun y hy => ?_, by omega, x, by omega, by simp; omega⟩
      rcases List.mem_append.mp hy with hy | hy
      · exact hg y hy
      · simp at hy
        subst hy
        exact ⟨group, slot, fs, rfl, k1⟩
    · rw [if_neg x] at hR
      simp [e, get_last, x, gc_app (A := A) (.lst found :: G) hb]
      exact hR
theorem L_groups_ok {A : AH} {rk : Nat} {row : List D} (hne : row ≠ []) (hs : row.length ≤ 1000) (hrow : A[rk]? = some (.lst row)) (hpv : ∀ x, PV A (rowAt row x)) (n0 group0 slot0 : Int) :
    F_L_groups [.ref rk, .int row.length, .tup [.int n0, .int group0, .int slot0]] A = .ok (grps (rowAt row) row.length (row.length + 1) group0 slot0 0 []) A := by
  have wg : ∀ (G : AH) (slot group : Int), F_L_group [.ref rk, .int row.length, .int slot, .int group] (A ++ G) = .ok (grpD (rowAt row) row.length slot group) (A ++ G) := fun G slot group =>
    L_group_ok hne hs (get_left hrow) (fun x => (hpv x).app G) slot group
  have t1 : atD [.int n0, .int group0, .int slot0] 1 = some (.int group0) := rfl
  have t2 : atD [.int n0, .int group0, .int slot0] 2 = some (.int slot0) := rfl
  refine sat_eq (sat_def rfl ?_)
  simp only [b_L_groups, startE]
  simp [cl, line, t1, t2]
  refine while_sat (row.length + 1) (fun m E B => ∃ (found : List D) (G : AH) (group slot used : Int) (e7 : Option D), E = [some (.ref rk), some (.int row.length), some (.tup [.int n0, .int group0, .int slot0]), some (.int group), some (.int slot), some (.ref A.length), some (.int used), e7] ∧ B = A ++ (.lst found :: G) ∧
    grps (rowAt row) row.length m group slot used found = grps (rowAt row) row.length (row.length + 1) group0 slot0 0 [] ∧ (∀ x ∈ found, gch x) ∧ 0 ≤ used ∧ used ≤ row.length ∧ row.length < used + m ∧ found.length ≤ used) (by simp [fuel]; omega) ⟨[], [], group0, slot0, 0, none, rfl, rfl, rfl, by simp, by omega, by omega, by omega, by simp⟩ ?_
  rintro m E B ⟨found, G, group, slot, used, e7, rfl, rfl, hR, hg, h0, h1, h2, h3⟩
  obtain ⟨j, rfl⟩ : ∃ j, m = j + 1 := ⟨m - 1, by omega⟩
  have hb : (D.tup found).bd A.length = true := by rw [bd_tup, bdAll_iff]; exact fun x hx => gch_bd (hg x hx)
  simp
  refine tsat_of ?_
  rcases grpD_R (f := rowAt row) (s := row.length) (slot := slot) (group := group) (by omega) with e | ⟨fs, e, k1, k2, k3⟩
  · rw [grps, e] at hR
    simp [cl, wg, e, get_last, gc_app (A := A) (.lst found :: G) hb]
    exact hR
  · rw [grps, e] at hR
    simp only [] at hR
    by_cases x : used + fs.length ≤ row.length
    · rw [if_pos x] at hR
      have hlen : found.length < 16777216 := by omega
      simp [cl, wg, e, get_last, line, hlen, set_last, show ¬ ((row.length : Int) < used + fs.length) by omega]
      refine ⟨_, G, _, _, _, ⟨rfl, rfl, rfl⟩, ⟨rfl, rfl⟩, hR, fun y hy => ?_, by omega, x, by omega, by simp; omega⟩
      rcases List.mem_append.mp hy with hy | hy
      · exact hg y hy
      · simp at hy
        subst hy
        exact ⟨group, slot, fs, rfl, k1⟩
    · rw [if_neg x] at hR
      simp [cl, wg, e, get_last, show ((row.length : Int) < used + fs.length) by omega, gc_app (A := A) (.lst found :: G) hb]
      exact hR
end Lw
set_option Elab.async false
set_option linter.all false
set_option maxRecDepth 100000
set_option maxHeartbeats 4000000
/-! The greatest group seen (own work). -/
namespace Lw
open PySem DL
def i0D : D → Int
  | .tup ds => iAt ds 0
  | _ => 0
def seenI (row : List D) : List Int := (row.filter isLog).map i0D
theorem maxI_eq {a b : Int} {xs ys : List Int} (h1 : ∀ z, (z = a ∨ z ∈ xs) ↔ (z = b ∨ z ∈ ys)) : maxI a xs = maxI b ys := by
  have p := maxI_ge a xs
  have q := maxI_ge b ys
  have r1 : maxI a xs ≤ maxI b ys := by
    rcases (h1 _).mp (maxI_mem a xs) with e | e
    · rw [e]; exact q.1
    · exact q.2 _ e
  have r2 : maxI b ys ≤ maxI a xs := by
    rcases (h1 _).mpr (maxI_mem b ys) with e | e
    · rw [e]; exact p.1
    · exact p.2 _ e
  omega
theorem ints_map (f : D → Int) (ds : List D) : intsOf (ds.map fun d => .int (f d)) = some (ds.map f) := by
  unfold intsOf
  rw [List.map_map, show (D.int? ∘ fun d => D.int (f d)) = fun d => some (f d) from rfl, show (ds.map fun d => some (f d)) = (ds.map f).map some by rw [List.map_map]; rfl, allSome_some]
theorem log_ix {v : D} (h : isLog v = true) (A : AH) : opIx [v, .int 0] A = .ok (.int (i0D v)) A := by
  obtain ⟨a, b, c, d, e, f', g, i, j, k', l, m, rfl, _, _⟩ := isLog_form h
  rfl
def valI (f : Int → D) : D → D
  | .int x => f x
  | _ => .non
theorem upto_row2 {row : List D} : (upto 0 row.length).map (valI (rowAt row)) = row := by
  apply List.ext_getElem?
  intro i
  rw [List.getElem?_map, upto_get]
  by_cases h : i < row.length
  · rw [if_pos h]
    have hl : (0 : Int) < row.length := by omega
    have e : ((0 + (i : Int)).fmod row.length).toNat = i := by
      rw [Int.zero_add, Int.fmod_eq_of_lt (by omega) (by omega)]
      omega
    show some (rowAt row (0 + i)) = row[i]?
    unfold rowAt
    rw [e, List.getElem?_eq_getElem h]
    rfl
  · rw [if_neg h, List.getElem?_eq_none (by omega)]
    rfl
theorem mem_upto {n : Nat} {d : D} (h : d ∈ upto 0 n) : ∃ x : Int, d = .int x := by
  unfold upto at h
  obtain ⟨i, _, rfl⟩ := List.mem_map.mp h
  exact ⟨_, rfl⟩
theorem last_seen_ok {A : AH} {dk : Nat} {row : List D} (s : Int) (es : s = row.length) (hs0 : row ≠ []) (hs : row.length ≤ 1000) (K : DkS A dk s (rowAt row)) (hpv : ∀ v ∈ row, PV A v) : F_last_seen [.ref dk, .int s] A = .ok (.int (maxI (-1) (seenI row))) A := by
  have hl0 : 0 < row.length := List.length_pos_iff.mpr hs0
  have hsz : ¬ (s = 0) := by omega
  generalize hR : D.int (maxI (-1) (seenI row)) = R
  refine sat_eq (sat_def rfl ?_)
  simp only [b_last_seen, startE]
  have hsn : s.toNat = row.length := by omega
  have q1 := lc_map (src := .seq (upto 0 s.toNat)) (g := gName 3) (e := eM 2 (cl F_Disk_now []) (eVar 0) (aCons (eF (cl F_slot_plate []) (aCons (eVar 1) (aCons (eVar 3) aNil))) aNil)) (E := [some (D.ref dk), some (D.int s), none, none, none]) (A := A) (ds := upto 0 s.toNat)
    (fun d => [some (D.ref dk), some (D.int s), none, some d, none]) (valI (rowAt row)) (by rw [upto_len]; simp [line]; omega) rfl (fun _ _ => rfl) (fun d _ G => rfl)
    (fun d hd G => by
      obtain ⟨x, rfl⟩ := mem_upto hd
      simp [cl, K.ins, slot_plate_ok, hsz, K.now, valI])
  rw [show (upto 0 s.toNat).map (valI (rowAt row)) = row by rw [hsn, upto_row2]] at q1
  have h2 : (A ++ [O.lst row])[A.length]? = some (.lst row) := by simp
  have q2 := lc_fm (src := .lst A.length) (g := gName 4) (t := tB (eF (cl F_is_log_plate []) (aCons (eVar 4) aNil))) (e := eF opIx (aCons (eVar 4) (aCons (eC (.int 0)) aNil))) (E := [some (D.ref dk), some (D.int s), some (D.ref A.length), none, none]) (A := A ++ [O.lst row]) (ds := row)
    (fun d => [some (D.ref dk), some (D.int s), some (D.ref A.length), none, some d]) isLog (fun d => .int (i0D d)) (by simp [line]; omega) (by rw [size_lst (ds := row)]; simp) (fun G k => by rw [at_lst (ds := row)]; simp) (fun d _ G => rfl)
    (fun d hd G => by simp [cl, is_log_plate_ok ((hpv d hd).app (O.lst row :: G))])
    (fun d hd hp G => by simp [log_ix hp])
  have i3 : intsOf (.int (-1) :: (row.filter isLog).map fun d => .int (i0D d)) = some (-1 :: seenI row) := by
    have := ints_map i0D (row.filter isLog)
    unfold intsOf at this ⊢
    rw [List.map_cons]
    show allSome (some (-1) :: _) = _
    simp only [allSome]
    rw [this]
    rfl
  have hfl : (row.filter isLog).length ≤ row.length := List.length_filter_le _ _
  simp [hsz, small_of (show (0 : Int) ≤ s by omega) (by omega), q1, q2, line, i3]
  refine ⟨?_, by omega⟩
  intro _
  subst hR
  rw [gc_app _ (by simp)]
  simp
end Lw
set_option Elab.async false
set_option linter.all false
set_option maxRecDepth 100000
set_option maxHeartbeats 4000000
/-! Drawn changes, rows of the log (own work). -/
namespace Lw
open PySem DL
theorem Nx1.refl {ns : List Int} {A : AH} (h : Drw ns A) : Nx1 A A := by
  obtain ⟨n, h0, e⟩ := h.d
  refine ⟨n, h0, ?_⟩
  apply List.ext_getElem?
  intro i
  by_cases z : 1 = i
  · subst z
    rw [List.getElem?_set_self h.lt, e]
  · rw [List.getElem?_set_ne z]
theorem Nx1.trans {A B C : AH} (x : Nx1 A B) (y : Nx1 B C) : Nx1 A C := by
  obtain ⟨n, h0, rfl⟩ := x
  obtain ⟨m, h1, rfl⟩ := y
  exact ⟨m, h1, by rw [List.set_set]⟩
theorem Nx1.split {A G B : AH} (l : 1 < A.length) (x : Nx1 (A ++ G) B) : ∃ A', B = A' ++ G ∧ Nx1 A A' := by
  obtain ⟨n, h0, rfl⟩ := x
  exact ⟨_, by rw [List.set_append_left _ _ l], n, h0, rfl⟩
theorem set_at {A A' G : AH} {o o' : O} (h : A'.length = A.length) : (A' ++ o :: G).set A.length o' = A' ++ o' :: G := by
  rw [← h]
  exact set_last
theorem get_at {A A' G : AH} {o : O} (h : A'.length = A.length) : (A' ++ o :: G)[A.length]? = some o := by
  rw [← h]
  exact get_last
theorem Nx1.okPre {A B : AH} (x : Nx1 A B) (l : 1 < A.length) : okPre A B := by
  obtain ⟨n, h0, rfl⟩ := x
  exact okPre_set l (by simp [O.bd]; omega)
theorem gc_nx1 {A B : AH} {d : D} (x : Nx1 A B) (l : 1 < A.length) (G : AH) (hd : d.bd A.length = true) : gc A d (B ++ G) = .ok d B := by
  have e : (B ++ G).take A.length = B := by rw [← x.len, List.take_left]
  rw [gc_val hd (by rw [e]; exact x.okPre l), e]
def I8 (A : AH) (p : Nat → Prop) (B : AH) : Prop := ∃ (A' : AH) (js : List Int), Nx1 A A' ∧ B = A' ++ [.lst (js.map D.int)] ∧ p js.length
/-- eight drawn numbers -/
theorem eight_sat {ns : List Int} {A : AH} {E : DL.Env} (h : Drw ns A) (hE : E[0]? = some (some (.ref 1))) :
    (kLc (gName 4) tYes (eF (cl F_L_take []) (aCons (eVar 0) (aCons (eC (.int 9)) aNil))) E (.seq (upto 0 8)) A).sat fun d B => d = .ref A.length ∧ ∃ (A' : AH) (js : List Int), Nx1 A A' ∧ B = A' ++ [.lst (js.map D.int)] ∧ js.length = 8 := by
  refine lc_sat 8 (fun k B => I8 A (fun l => l = k) B) (by rw [upto_size]; exact Nat.le_refl _) ⟨A, [], .refl h, rfl, rfl⟩ ?_ ?_
  · rintro k B hk ⟨A', js, x, rfl, hl⟩
    refine ⟨_, _, _, upto_at hk _, rfl, ?_⟩
    have e0 : (E.set 4 (some (.int k)))[0]? = some (some (.ref 1)) := by rw [List.getElem?_set_ne (by decide)]; exact hE
    simp [e0, cl]
    refine (take_sat ((h.nx x).app _) (by decide)).mono fun d C ⟨⟨v, hv, _⟩, y⟩ => ?_
    obtain ⟨A2, rfl, x2⟩ := y.split (h.nx x).lt
    subst hv
    refine ⟨js.map D.int, get_at (x.trans x2).len, by simp [line]; omega, A2, js ++ [v], x.trans x2, ?_, by simp [hl]⟩
    rw [set_at (x.trans x2).len]
    simp
  · rintro B ⟨A', js, x, rfl, hl⟩
    exact ⟨upto_end _, rfl, A', js, x, rfl, hl⟩
def chg8 (d : D) : Prop := ∃ (i : Int) (js : List Int), d = .tup [.int i, .tup (js.map D.int)] ∧ js.length = 8
theorem chg8_chg {d : D} (h : chg8 d) : chg d := by
  obtain ⟨i, js, rfl, _⟩ := h
  exact ⟨i, js, rfl⟩
def I9 (A : AH) (o1 o2 : O) (k : Nat) (B : AH) : Prop := ∃ (A2 : AH) (acc : List D) (G : AH), Nx1 A A2 ∧ B = A2 ++ (o1 :: o2 :: .lst acc :: G) ∧ (∀ d ∈ acc, chg8 d) ∧ acc.length = k
theorem changes_sat {ns : List Int} {A : AH} {most : Int} (h : Drw ns A) (h0 : 0 ≤ most) : (F_L_changes [.ref 1, .int most] A).sat fun d B => (∃ fs : List D, d = .tup fs ∧ (∀ x ∈ fs, chg8 x) ∧ fs.length ≤ 6) ∧ Nx1 A B := by
  refine sat_def rfl ?_
  simp only [b_L_changes, startE]
  simp [small62]
  refine (lc_sat (E := [some (D.ref 1), some (D.int most), none, none, none]) 6 (fun k B => I8 A (fun l => l ≤ k) B) (by rw [upto_size]; exact Nat.le_refl _) ⟨A, [], .refl h, rfl, by simp⟩ ?_ ?_ : Res.sat _ (fun d B => d = .ref A.length ∧ ∃ (A' : AH) (js : List Int), Nx1 A A' ∧ B = A' ++ [.lst (js.map D.int)] ∧ js.length ≤ 6)).mono ?_
  · rintro k B hk ⟨A', js, x, rfl, hl⟩
    refine ⟨_, _, _, upto_at hk _, rfl, ?_⟩
    simp [cl]
    refine (take_sat ((h.nx x).app _) (by decide)).mono fun d C ⟨⟨v, hv, _⟩, y⟩ => ?_
    obtain ⟨A2, rfl, x2⟩ := y.split (h.nx x).lt
    subst hv
    simp
    by_cases z : v = 0
    · rw [if_pos z]
      refine ⟨js.map D.int, get_at (x.trans x2).len, by simp [line]; omega, A2, js ++ [(k : Int)], x.trans x2, ?_, by simp; omega⟩
      rw [set_at (x.trans x2).len]
      simp
    · rw [if_neg z]
      exact ⟨A2, js, x.trans x2, rfl, by omega⟩
  · rintro B ⟨A', js, x, rfl, hl⟩
    exact ⟨upto_end _, rfl, A', js, x, rfl, hl⟩
  · rintro d B ⟨rfl, A', js, x, rfl, hl⟩
    have hD := h.nx x
    simp [get_at x.len]
    obtain ⟨ks, hk, hkl⟩ : ∃ ks : List Int, cutD (js.map D.int) none (some most) = ks.map D.int ∧ ks.length ≤ 6 := ⟨(js.drop (sIxD js.length 0 none)).take (sIxD js.length js.length (some most) - sIxD js.length 0 none), by simp [cutD, List.map_drop, List.map_take], by rw [List.length_take, List.length_drop]; omega⟩
    rw [hk]
    have hlA : ∀ (A2 : AH) (o1 o2 : O) (G : AH), A2.length = A'.length → (A2 ++ o1 :: o2 :: G)[A'.length + 1]? = some o2 := fun A2 o1 o2 G e => by
      rw [List.getElem?_append_right (by omega), e, show A'.length + 1 - A'.length = 1 by omega]
      rfl
    have hlB : ∀ (A2 : AH) (o1 o2 o3 : O) (G : AH), A2.length = A'.length → (A2 ++ o1 :: o2 :: o3 :: G)[A'.length + 2]? = some o3 := fun A2 o1 o2 o3 G e => by
      rw [List.getElem?_append_right (by omega), e, show A'.length + 2 - A'.length = 2 by omega]
      rfl
    have hlS : ∀ (A2 : AH) (o1 o2 o3 o : O) (G : AH), A2.length = A'.length → (A2 ++ o1 :: o2 :: o3 :: G).set (A'.length + 2) o = A2 ++ o1 :: o2 :: o :: G := fun A2 o1 o2 o3 o G e => by
      rw [List.set_append_right _ _ (by omega), e, show A'.length + 2 - A'.length = 2 by omega]
      rfl
    have hL : (A' ++ [O.lst (js.map D.int), O.lst (ks.map D.int)]).length = A'.length + 2 := by simp
    refine (lc_sat (P := fun d B => d = .ref (A'.length + 2) ∧ I9 A' (.lst (js.map D.int)) (.lst (ks.map D.int)) ks.length B) ks.length (fun k B => I9 A' (.lst (js.map D.int)) (.lst (ks.map D.int)) k B) ?_ ⟨A', [], [], .refl hD, by simp, by simp, rfl⟩ ?_ ?_).mono ?_
    · rw [size_lst (ds := ks.map D.int) (by rw [hlA A' _ _ [] rfl]; rfl)]
      simp
    · rintro k B hk ⟨A2, acc, G, x2, rfl, hacc, hla⟩
      obtain ⟨i, hi⟩ : ∃ i, ks[k]? = some i := ⟨_, List.getElem?_eq_getElem hk⟩
      refine ⟨.int i, _, _, by rw [at_lst (ds := ks.map D.int) (by rw [hlA A2 _ _ _ x2.len]; rfl), List.getElem?_map, hi]; rfl, rfl, ?_⟩
      simp [small62]
      refine (eight_sat ((hD.nx x2).app _) rfl).mono ?_
      rintro d C ⟨rfl, A3, js8, y, rfl, h8⟩
      obtain ⟨A4, rfl, x4⟩ := y.split (hD.nx x2).lt
      have e1 : (A4 ++ O.lst (js.map D.int) :: O.lst (ks.map D.int) :: O.lst acc :: (G ++ [O.lst (js8.map D.int)]))[A2.length + (G.length + 1 + 1 + 1)]? = some (.lst (js8.map D.int)) := by
        rw [List.getElem?_append_right (by rw [x4.len]; omega), x4.len, show A2.length + (G.length + 1 + 1 + 1) - A2.length = G.length + 3 by omega, List.getElem?_cons_succ, List.getElem?_cons_succ, List.getElem?_cons_succ, List.getElem?_append_right (Nat.le_refl _), Nat.sub_self]
        rfl
      simp [e1]
      refine ⟨fun _ => ⟨acc, hlB A4 _ _ _ _ (x2.trans x4).len, by simp [line]; omega, ?_⟩, by simp [line]⟩
      rw [hlS A4 _ _ _ _ _ (x2.trans x4).len]
      refine ⟨A4, _, _, x2.trans x4, rfl, fun d hd => ?_, by simp [hla]⟩
      rcases List.mem_append.mp hd with hd | hd
      · exact hacc d hd
      · simp at hd
        subst hd
        exact ⟨i, js8, rfl, h8⟩
    · rintro B ⟨A2, acc, G, x2, rfl, hacc, hla⟩
      refine ⟨?_, by rw [hL], A2, acc, G, x2, rfl, hacc, hla⟩
      rw [at_lst (ds := ks.map D.int) (by rw [hlA A2 _ _ _ x2.len]; rfl), List.getElem?_eq_none (by simp)]
      rfl
    · rintro d B ⟨rfl, A2, acc, G, x2, rfl, hacc, hla⟩
      simp [hlB A2 _ _ _ _ x2.len]
      rw [gc_nx1 (x.trans x2) h.lt _ (by rw [bd_tup, bdAll_iff]; exact fun d hd => chg_bd (chg8_chg (hacc d hd)))]
      exact ⟨⟨acc, rfl, hacc, by omega⟩, x.trans x2⟩
end Lw
set_option Elab.async false
set_option linter.all false
set_option maxRecDepth 100000
set_option maxHeartbeats 4000000
/-! The log's rows, the disk's deeds (own work). -/
namespace Lw
open PySem DL
def edR (g : D) (c : D) (m : D) : D → DL.Env
  | .tup [a, .tup [p, cs]] => [some g, some c, some m, some a, some p, some cs]
  | _ => []
def rowD (g m : Int) : D → D
  | .tup [a, .tup [p, .tup cs]] => .tup (.int g :: a :: .int m :: p :: cs)
  | _ => .non
theorem mem_enumD {d : D} : ∀ {ds : List D} {k : Nat}, d ∈ enumD k ds → ∃ (i : Nat) (e : D), d = .tup [.int i, e] ∧ e ∈ ds
  | [], _, h => by cases h
  | c :: ds, k, h => by
    unfold enumD at h
    rcases List.mem_cons.mp h with rfl | h
    · exact ⟨k, c, rfl, by simp⟩
    · obtain ⟨i, e, h1, h2⟩ := mem_enumD h
      exact ⟨i, e, h1, List.mem_cons_of_mem _ h2⟩
theorem log_rows_ok {A : AH} {g : Int} {fs : List D} (h : ∀ x ∈ fs, chg8 x) (hl : fs.length ≤ 6) : F_log_rows [.int g, .tup fs] A = .ok (.ref A.length) (A ++ [.lst ((enumD 0 fs).map (rowD g fs.length))]) := by
  generalize hR : D.ref A.length = R
  refine sat_eq (sat_def rfl ?_)
  subst hR
  simp only [b_log_rows, startE]
  have q := lc_map (src := .seq (enumD 0 fs)) (g := gTup 2 (gCons (gName 3) (gCons (gTup 2 (gCons (gName 4) (gCons (gName 5) gNil))) gNil))) (e := eF mkTup (aCons (eVar 0) (aCons (eVar 3) (aCons (eVar 2) (aCons (eVar 4) (aStar (eVar 5) aNil))))))
    (E := [some (D.int g), some (D.tup fs), some (D.int fs.length), none, none, none]) (A := A) (ds := enumD 0 fs) (edR (.int g) (.tup fs) (.int fs.length)) (rowD g fs.length) (by rw [enumD_len]; simp [line]; omega) rfl (fun _ _ => rfl)
    (fun d hd G => by
      obtain ⟨i, e, rfl, he⟩ := mem_enumD hd
      obtain ⟨p, js, rfl, hj⟩ := h e he
      rfl)
    (fun d hd G => by
      obtain ⟨i, e, rfl, he⟩ := mem_enumD hd
      obtain ⟨p, js, rfl, hj⟩ := h e he
      simp [edR, rowD, line, hj])
  simp [q]
  have := gc_new (A := A) (G := [.lst ((enumD 0 fs).map (rowD g fs.length))]) (j := 0) (o := .lst ((enumD 0 fs).map (rowD g fs.length))) rfl rfl (by
    simp only [O.bd]
    rw [bdAll_iff]
    intro d hd
    obtain ⟨c, hc, rfl⟩ := List.mem_map.mp hd
    obtain ⟨i, e, rfl, he⟩ := mem_enumD hc
    obtain ⟨p, js, rfl, hj⟩ := h e he
    simp [rowD, (bdAll_iff _ _).mpr])
  rw [Nat.add_zero] at this
  rw [this]
  simp
theorem init_ok {A : AH} {n : Int} (h0 : 2 ≤ n) (h1 : n ≤ 1000) : F_Disk_init [.ref A.length, .int n] (A ++ [.ins 2 []]) = .ok .non (A ++ [.ins 2 [(0, .tup (rep n [.tup []])), (1, .tup [])]]) := by
  refine sat_eq (sat_def rfl ?_)
  simp only [b_Disk_init, startE]
  have e : opMul [.tup [.tup []], .int n] (A ++ [.ins 2 []]) = .ok (.tup (rep n [.tup []])) (A ++ [.ins 2 []]) := by
    rw [ev_mulT, if_pos ⟨by simp, h0, h1, by simp⟩]
  simp [line, e]
  have z : ∀ o : O, A ++ [o] = (A ++ [O.ins 2 []]).set A.length o := fun o => set_last.symm
  have hb : (O.ins 2 [(0, .tup (rep n [.tup []])), (1, .tup [])]).bd (A ++ [O.ins 2 []]).length = true := by
    simp only [O.bd, List.all_cons, List.all_nil, bd_tup, bdAll_nil, Bool.and_true]
    rw [bdAll_iff]
    intro d hd
    unfold rep at hd
    obtain ⟨l, h1, h2⟩ := List.mem_flatten.mp hd
    rw [(List.mem_replicate.mp h1).2] at h2
    rw [List.mem_singleton.mp h2]
    simp
  have := gc_set (A := A ++ [O.ins 2 []]) (d := .non) (i := A.length) (by simp) (by simp) hb
  rw [← z] at this
  rw [this]
  simp
theorem rep_len (n : Int) (xs : List D) : (rep n xs).length = n.toNat * xs.length := by
  unfold rep
  simp
theorem new_disk {A : AH} {n : Int} (h0 : 2 ≤ n) (h1 : n ≤ 1000) : mkIns 2 (cl F_Disk_init []) [.int n] A = .ok (.ref A.length) (A ++ [.ins 2 [(0, .tup (rep n [.tup []])), (1, .tup [])]]) := by
  simp [cl, init_ok h0 h1]
theorem PV.other {A B : AH} {k : Nat} {v : D} (h : PV A v) (hk : ∀ ds, A[k]? ≠ some (.lst ds)) (hB : ∀ j, j ≠ k → B[j]? = A[j]?) : PV B v := by
  rcases h with rfl | h | ⟨i, ds, rfl, hi, hs⟩
  · exact .inl rfl
  · exact .inr (.inl h)
  · refine .inr (.inr ⟨i, ds, rfl, ?_, hs⟩)
    rw [hB i fun e => hk ds (e ▸ hi)]
    exact hi
theorem write_ok {A : AH} {k n : Nat} {prs : List (Int × D)} (h : Dk A k n prs) (hf : prs.length < 900) {pl : Int} {v : D} (h0 : 0 ≤ pl) (h1 : pl < n) (hv : PV A v) :
    ∃ B, F_Disk_write [.ref k, .int pl, v] A = .ok .non B ∧ B.length = A.length ∧ (∀ j, j ≠ k → B[j]? = A[j]?) ∧ Dk B k n (prs ++ [(pl, v)]) := by
  obtain ⟨st, hk, hl, hbd⟩ := h.at_
  have hkl := (List.getElem?_eq_some_iff.mp hk).1
  have hB : ∀ j, j ≠ k → (A.set k (.ins 2 [(0, .tup st), (1, .tup ((prs ++ [(pl, v)]).map prD))]))[j]? = A[j]? := fun j hj => List.getElem?_set_ne (Ne.symm hj)
  refine ⟨A.set k (.ins 2 [(0, .tup st), (1, .tup ((prs ++ [(pl, v)]).map prD))]), ?_, by simp, hB, ?_⟩
  · generalize hR : A.set k (.ins 2 [(0, .tup st), (1, .tup ((prs ++ [(pl, v)]).map prD))]) = R
    refine sat_eq (sat_def rfl ?_)
    subst hR
    simp only [b_Disk_write, startE]
    have ib : (decide (0 ≤ pl) && decide (pl ≤ (n : Int) - 1)) = true := by simp; omega
    simp [hk, cl, is_below_ok, hl, ib, line, show prs.length + 1 ≤ 16777216 by omega]
    have hb2 : bdAll A.length (prs.map prD ++ [D.tup [D.int pl, v]]) = true := by
      rw [bdAll_iff]
      intro d hd
      rcases List.mem_append.mp hd with hd | hd
      · obtain ⟨p, hp, rfl⟩ := List.mem_map.mp hd
        simp [prD, (h.pv p hp).bd]
      · simp at hd
        subst hd
        simp [hv.bd]
    rw [gc_set (by simp) hkl (by simp only [O.bd, List.all_cons, List.all_nil, bd_tup, hbd, hb2, Bool.and_true])]
    simp [prD]
  · refine ⟨⟨st, List.getElem?_set_self hkl, hl, hbd⟩, fun p hp => ?_, by simp; omega⟩
    have hne : ∀ ds, A[k]? ≠ some (.lst ds) := fun ds e => by rw [hk] at e; cases e
    rcases List.mem_append.mp hp with hp | hp
    · exact (h.pv p hp).other hne hB
    · simp at hp
      subst hp
      exact hv.other hne hB
end Lw
set_option Elab.async false
set_option linter.all false
set_option maxRecDepth 100000
set_option maxHeartbeats 4000000
/-! The law (own work). -/
namespace Lw
open PySem DL
theorem gcE_nx1 {A B : AH} {E : DL.Env} (x : Nx1 A B) (l : 1 < A.length) (G : AH) (h : envBd A.length E = true) : gcE A E (B ++ G) = B := by
  have e : (B ++ G).take A.length = B := by rw [← x.len, List.take_left]
  rw [gcE_ok' h (by rw [e]; exact x.okPre l), e]
abbrev EV (s slot grp : Int) (hd : D) (e7 e8 e9 e10 e11 e12 e13 e14 e15 : Option D) : DL.Env := [some (.ref 0), some (.ref 1), some (.int s), some (.ref 3), some (.int slot), some (.int grp), some hd, e7, e8, e9, e10, e11, e12, e13, e14, e15, none, none]
/-- what stands in the row at first -/
def rv (v : D) : Prop := v = .tup [] ∨ ∃ js : List Int, v = .tup (js.map D.int) ∧ js.length = 12
def L1 (ns : List Int) (l : Nat) (s g0 sl0 : Int) (E : DL.Env) (A : AH) : Prop := ∃ (slot grp : Int) (row : List D), 0 ≤ slot ∧ 0 ≤ grp ∧ E = EV s slot grp (.tup [.int 0, .int g0, .int sl0]) none none none none none none none none none ∧ A.length = l ∧ Drw ns A ∧ A[3]? = some (.lst row) ∧ (row.length : Int) = s ∧ ∀ v ∈ row, rv v
def P0 (ns : List Int) (E : DL.Env) (A : AH) : Prop := E = [some (.ref 0), some (.ref 1), none, none, none, none, none, none, none, none, none, none, none, none, none, none, none, none] ∧ A.length = 2 ∧ Drw ns A
def P1 (ns : List Int) (s : Int) (E : DL.Env) (A : AH) : Prop := (s = 1 ∨ s = 3 ∨ s = 5 ∨ s = 8) ∧ E = [some (.ref 0), some (.ref 1), some (.int s), none, none, none, none, none, none, none, none, none, none, none, none, none, none, none] ∧ A.length = 2 ∧ Drw ns A
theorem s0 {ns : List Int} {R : D → AH → Prop} : (st_law_0 (startE 18 [.ref 0]) [.rol (ns.map D.int)]).sat (P0 ns) R := by
  simp [st_law_0, startE, line]
  rw [gcE_keep (by simp)]
  exact ⟨rfl, rfl, rfl, 0, Int.le_refl _, rfl⟩
theorem s1 {ns : List Int} {E : DL.Env} {A : AH} {R : D → AH → Prop} (h : P0 ns E A) : (st_law_1 E A).sat (fun E A => ∃ s, P1 ns s E A) R := by
  obtain ⟨rfl, hl, hD⟩ := h
  simp [st_law_1, line, cl, hl]
  have hj : (A ++ [O.lst [.int 1, .int 3, .int 5, .int 8]])[2]? = some (.lst [.int 1, .int 3, .int 5, .int 8]) := by
    rw [List.getElem?_append_right (by omega), hl]
    rfl
  refine (pick_sat (hD.app _) hj (by decide) (by simp) (by simp)).mono fun d B ⟨hd, x⟩ => ?_
  obtain ⟨A', rfl, y⟩ := x.split hD.lt
  have : ∃ s : Int, d = .int s ∧ (s = 1 ∨ s = 3 ∨ s = 5 ∨ s = 8) := by
    simp at hd
    rcases hd with rfl | rfl | rfl | rfl <;> exact ⟨_, rfl, by decide⟩
  obtain ⟨s, rfl, hs⟩ := this
  rw [gcE_nx1 y hD.lt _ (by simp [hl])]
  exact ⟨s, hs, rfl, y.len.trans hl, hD.nx y⟩
theorem s23 {ns : List Int} {s : Int} {E : DL.Env} {A : AH} {R : D → AH → Prop} (h : P1 ns s E A) : (st_law_2 E A).sat (fun E A => (st_law_3 E A).sat (fun E A => ∃ g0 sl0, L1 ns 4 s g0 sl0 E A) R) R := by
  obtain ⟨hs, rfl, hl, hD⟩ := h
  have hs1 : 1 ≤ s ∧ s ≤ 8 := by omega
  have hrep : rep s [.tup []] = List.replicate s.toNat (.tup []) := by
    unfold rep
    rw [List.flatten_replicate_singleton]
  have ha : ∀ G, (A ++ O.lst [.tup []] :: G)[2]? = some (.lst [.tup []]) := fun G => by
    rw [List.getElem?_append_right (by omega), hl]
    rfl
  simp [st_law_2, line, cl, hl, ha, hrep, show -9223372036854775808 ≤ s by omega, show s < 9223372036854775808 by omega]
  refine ⟨fun _ => ?_, by omega⟩
  refine (take_sat (hD.app _) (by decide)).mono ?_
  rintro d B ⟨⟨v, rfl, hv0, _⟩, x⟩
  obtain ⟨A1, rfl, x1⟩ := x.split hD.lt
  refine (take_sat ((hD.nx x1).app _) (by decide)).mono ?_
  rintro d B ⟨⟨u, rfl, hu0, _⟩, x⟩
  obtain ⟨A2, rfl, x2⟩ := x.split (hD.nx x1).lt
  have l2 : A2.length = 2 := x2.len.trans (x1.len.trans hl)
  rw [gcE_keep (by simp [hl])]
  simp [st_law_3, line]
  refine ⟨u, v, v, u, List.replicate s.toNat (.tup []), hv0, hu0, rfl, by simp [l2], ((hD.nx x1).nx x2).app _, ?_, by simp; omega, fun w hw => .inl (List.mem_replicate.mp hw).2⟩
  rw [List.getElem?_append_right (by omega), l2]
  rfl
theorem gcE_nx1' {A B : AH} {E : DL.Env} (x : Nx1 A B) (l : 1 < A.length) (h : envBd A.length E = true) : gcE A E B = B := by
  have := gcE_nx1 x l [] h
  rwa [List.append_nil] at this
theorem chg8s_pur {fs : List D} (h : ∀ x ∈ fs, chg8 x) : (D.tup fs).pur 60 = true := by
  rw [pur_tup, purs_iff]
  exact fun x hx => chg_pur (chg8_chg (h x hx))
theorem chg8s_bd {fs : List D} (n : Nat) (h : ∀ x ∈ fs, chg8 x) : bdAll n fs = true := (bdAll_iff _ _).mpr fun x hx => chg_bd (chg8_chg (h x hx))
def edD (E0 : List (Option D)) : D → DL.Env
  | .tup [a, p] => (E0.set 11 (some a)).set 16 (some p)
  | _ => []
def edO (E0 : List (Option D)) (d : D) : DL.Env := E0.set 17 (some d)
theorem rows_form {fs : List D} {g m : Int} (h : ∀ x ∈ fs, chg8 x) : ∀ d ∈ (enumD 0 fs).map (rowD g m), ∃ js : List Int, d = .tup (js.map D.int) ∧ js.length = 12 := by
  intro d hd
  obtain ⟨c, hc, rfl⟩ := List.mem_map.mp hd
  obtain ⟨i, e, rfl, he⟩ := mem_enumD hc
  obtain ⟨p, js, rfl, hj⟩ := h e he
  exact ⟨g :: i :: m :: p :: js, rfl, by simp [hj]⟩
theorem rows_pur {fs : List D} {g m : Int} (h : ∀ x ∈ fs, chg8 x) : purs 59 ((enumD 0 fs).map (rowD g m)) = true := by
  rw [purs_iff]
  intro d hd
  obtain ⟨js, rfl, _⟩ := rows_form h d hd
  rw [pur_tup]
  exact purs_ints _ js
def I4 (ns : List Int) (s : Int) (A : AH) (E1 : DL.Env) (rows : List D) (k : Nat) (E : DL.Env) (A' : AH) : Prop := ∃ row' : List D, E = E1 ∧ A'.length = 8 ∧ Drw ns A' ∧ A'[3]? = some (.lst row') ∧ (row'.length : Int) = s ∧ (∀ v ∈ row', rv v) ∧ A'[6]? = some (.lst rows) ∧ A'[2]? = A[2]? ∧ A'[4]? = A[4]?
theorem b4 {ns : List Int} {s g0 sl0 slot grp : Int} {row : List D} {e7 : D} {A : AH} {R : D → AH → Prop} (hs : 1 ≤ s ∧ s ≤ 8) (h0 : 0 ≤ slot) (hg : 0 ≤ grp) (hl : A.length = 5) (hD : Drw ns A) (hrow : A[3]? = some (.lst row)) (hrl : (row.length : Int) = s) (hrv : ∀ v ∈ row, rv v) (h7 : e7.bd 5 = true) :
    (bd_law_4 (EV s slot grp (.tup [.int 0, .int g0, .int sl0]) (some e7) none none none none none none none none) A).sat (L1 ns 5 s g0 sl0) R := by
  simp [bd_law_4, cl]
  refine (changes_sat hD (by omega)).mono ?_
  rintro d B ⟨⟨fs, rfl, hfs, hfl⟩, x⟩
  rw [gcE_nx1' x hD.lt (by simp [hl, h7, chg8s_bd _ hfs])]
  have hDB := hD.nx x
  have hlB := x.len.trans hl
  have hrB := (x.get (j := 3) (by decide)).trans hrow
  simp [line, opNe_pur (chg8s_pur hfs)]
  by_cases hfe : fs = []
  · subst hfe
    simp
    rw [gcE_nx1' x hD.lt (by simp [hl])]
    exact ⟨slot, grp, row, h0, hg, rfl, hlB, hDB, hrB, hrl, hrv⟩
  · have e1 : eqD (.tup fs) (.tup []) = false := by
      cases fs with
      | nil => exact absurd rfl hfe
      | cons a b => simp [eqD, PyData.eqv, PyData.eqvAll]
    simp [e1, log_rows_ok hfs hfl]
    rw [gcE_keep (by simp [hlB, hl])]
    generalize hrows : (enumD 0 fs).map (rowD grp fs.length) = rows
    have hrf : ∀ d ∈ rows, ∃ js : List Int, d = .tup (js.map D.int) ∧ js.length = 12 := by rw [← hrows]; exact rows_form hfs
    have hrp : purs 59 rows = true := by rw [← hrows]; exact rows_pur hfs
    have hrn : rows.length ≤ 6 := by rw [← hrows, List.length_map, enumD_len]; exact hfl
    let E0 : DL.Env := [some (.ref 0), some (.ref 1), some (.int s), some (.ref 3), some (.int slot), some (.int grp), some (.tup [.int 0, .int g0, .int sl0]), some e7, some (.tup fs), some (.ref B.length), none, none, none, none, none, none, none, none]
    have q := lc_map (src := .seq (enumD 0 fs)) (g := gTup 2 (gCons (gName 11) (gCons (gName 16) gNil))) (e := eF opAdd (aCons (eF mkTup (aCons (eVar 5) (aCons (eVar 11) (aCons (eF biLen (aCons (eVar 8) aNil)) (aCons (eF opIx (aCons (eVar 16) (aCons (eC (.int 0)) aNil))) aNil))))) (aCons (eF opIx (aCons (eVar 16) (aCons (eC (.int 1)) aNil))) aNil)))
      (E := E0) (A := B ++ [O.lst rows]) (ds := enumD 0 fs) (edD E0) (rowD grp fs.length) (by rw [enumD_len]; simp [line]; omega) rfl (fun _ _ => rfl)
      (fun d hd G => by
        obtain ⟨i, e, rfl, he⟩ := mem_enumD hd
        rfl)
      (fun d hd G => by
        obtain ⟨i, e, rfl, he⟩ := mem_enumD hd
        obtain ⟨p, js, rfl, hj⟩ := hfs e he
        have a0 : atD [.int p, .tup (js.map D.int)] 0 = some (.int p) := rfl
        have a1 : atD [.int p, .tup (js.map D.int)] 1 = some (.tup (js.map D.int)) := rfl
        simp [edD, E0, rowD, line, a0, a1, hj])
    rw [hrows] at q
    simp only [E0] at q
    rw [q]
    simp [hlB]
    rw [gcE_keep (by simp [hlB])]
    have g4 : ∀ (o : O) (G : AH), (B ++ o :: G)[5]? = some o := fun o G => by
      rw [List.getElem?_append_right (by omega), hlB]
      rfl
    have g5 : ∀ (o u : O) (G : AH), (B ++ o :: u :: G)[6]? = some u := fun o u G => by
      rw [List.getElem?_append_right (by omega), hlB]
      rfl
    let E1 : DL.Env := [some (.ref 0), some (.ref 1), some (.int s), some (.ref 3), some (.int slot), some (.int grp), some (.tup [.int 0, .int g0, .int sl0]), some e7, some (.tup fs), some (.ref 5), some (.ref 6), none, none, none, none, none, none, none]
    have q2 := lc_map (src := .lst 5) (g := gName 17) (e := eF biTuple (aCons (eVar 17) aNil)) (E := E1) (A := B ++ [O.lst rows, O.lst rows]) (ds := rows) (edO E1) id (by simp [line]; omega) (by rw [size_lst (ds := rows) (by rw [g4]; rfl)]) (fun G k => by rw [List.append_assoc, at_lst (ds := rows) (by rw [List.cons_append, g4]; rfl)]) (fun d _ G => rfl)
      (fun d hd G => by
        obtain ⟨js, rfl, _⟩ := hrf d hd
        simp [edO, E1])
    rw [List.map_id] at q2
    simp only [E1] at q2
    simp [g4, q2]
    have ne : opNe [.ref 7, .ref 6] (B ++ [O.lst rows, O.lst rows, O.lst rows]) = .ok (.bl false) (B ++ [O.lst rows, O.lst rows, O.lst rows]) := by
      rw [opNe_lst (xs := rows) (ys := rows) (by simp only [seqAt]; rw [List.getElem?_append_right (by omega), hlB]; rfl) (by simp only [seqAt]; rw [g5]; rfl) hrp hrp]
      simp
    simp [hlB, ne, g5]
    refine for_sat rows.length (I4 ns s A E1 rows) (by rw [size_enum (ds := rows) (by rw [g5]; rfl)]; exact Nat.le_refl _) ?_ ?_ ?_
    · refine ⟨row, rfl, by simp [hlB], hDB.app _, get_left hrB, hrl, hrv, g5 _ _ _, ?_⟩
      rw [List.getElem?_append_left (by omega), List.getElem?_append_left (by omega)]
      exact ⟨x.get (by decide), x.get (by decide)⟩
    · rintro k E A' hk ⟨row', rfl, hl', hD', hr', hrl', hrv', h5', h2', h4'⟩
      obtain ⟨d, hd⟩ : ∃ d, rows[k]? = some d := ⟨_, List.getElem?_eq_getElem hk⟩
      refine ⟨.tup [.int k, d], by rw [at_enum (ds := rows) (by rw [h5']; rfl), hd]; rfl, tsat_of ?_⟩
      have hsz : ¬ s = 0 := by omega
      have p1 : 0 ≤ (slot + k).fmod s := Int.fmod_nonneg_of_pos _ (by omega)
      have p2 : (slot + k).fmod s < s := Int.fmod_lt_of_pos _ (by omega)
      have hix : ixD row'.length ((slot + k).fmod s) = some ((slot + k).fmod s).toNat := by
        unfold ixD
        rw [if_pos p1, if_pos (by omega)]
      have gl : ∀ (E : DL.Env) (o : O), gcE A' E (A'.set 3 o) = A'.set 3 o := fun E o => gcE_len (by simp)
      simp [E1, hsz, hr', hix, gl]
      refine ⟨row'.set ((slot + k).fmod s).toNat d, rfl, by simp [hl'], hD'.set _ (by decide), List.getElem?_set_self (by omega), by simp [hrl'], fun v hv => ?_, by rw [List.getElem?_set_ne (by decide)]; exact h5', by rw [List.getElem?_set_ne (by decide)]; exact h2', by rw [List.getElem?_set_ne (by decide)]; exact h4'⟩
      rcases List.mem_or_eq_of_mem_set hv with hv | rfl
      · exact hrv' v hv
      · exact .inr (hrf _ (List.mem_of_getElem? hd))
    · rintro E A' ⟨row', rfl, hl', hD', hr', hrl', hrv', h5', h2', h4'⟩
      refine ⟨by rw [at_enum (ds := rows) (by rw [h5']; rfl), List.getElem?_eq_none (Nat.le_refl _)]; rfl, ?_⟩
      simp [E1]
      rw [gcE_ok' (by simp [hl]) ?_]
      · refine ⟨slot + fs.length, grp + 1, row', by omega, by omega, rfl, by simp [hl, hl'], ?_, ?_, hrl', hrv'⟩
        · obtain ⟨n, n0, n1⟩ := hD'.d
          exact ⟨by rw [List.getElem?_take, if_pos (by omega)]; exact hD'.s, n, n0, by rw [List.getElem?_take, if_pos (by omega)]; exact n1⟩
        · rw [List.getElem?_take, if_pos (by omega)]
          exact hr'
      · refine ⟨by simp [hl, hl'], fun j o ho => ?_⟩
        obtain ⟨hj, ho⟩ := take_get ho
        rw [hl] at hj
        have hj' : j = 0 ∨ j = 1 ∨ j = 2 ∨ j = 3 ∨ j = 4 := by omega
        rcases hj' with rfl | rfl | rfl | rfl | rfl
        · left
          rw [hD'.s] at ho
          rw [hD.s]
          exact ho
        · right
          obtain ⟨n, n0, n1⟩ := hD'.d
          rw [n1] at ho
          cases ho
          simp [O.bd, hl]
        · left
          rw [← h2']
          exact ho
        · right
          rw [hr'] at ho
          cases ho
          simp only [O.bd]
          rw [bdAll_iff]
          intro v hv
          rcases hrv' v hv with rfl | ⟨js, rfl, _⟩
          · simp
          · simp [(bdAll_iff _ _).mpr]
        · left
          rw [← h4']
          exact ho
theorem s4 {ns : List Int} {s g0 sl0 : Int} {E : DL.Env} {A : AH} {R : D → AH → Prop} (hs : 1 ≤ s ∧ s ≤ 8) (h : L1 ns 4 s g0 sl0 E A) : (st_law_4 E A).sat (L1 ns 5 s g0 sl0) R := by
  obtain ⟨slot, grp, row, h0, hg, rfl, hl, hD, hrow, hrl, hrv⟩ := h
  simp [st_law_4, cl, line, hl]
  have hj : (A ++ [O.lst [.int 1, .int 3, .int 5]])[4]? = some (.lst [.int 1, .int 3, .int 5]) := by
    rw [List.getElem?_append_right (by omega), hl]
    rfl
  refine (pick_sat (hD.app _) hj (by decide) (by simp) (by simp)).mono fun d B ⟨hd, x⟩ => ?_
  obtain ⟨A', rfl, y⟩ := x.split hD.lt
  have : ∃ m : Int, d = .int m ∧ (0 ≤ m ∧ m ≤ 5) := by
    simp at hd
    rcases hd with rfl | rfl | rfl <;> exact ⟨_, rfl, by decide⟩
  obtain ⟨m, rfl, hm0, hm1⟩ := this
  simp [small_of hm0 (by omega)]
  refine for_sat m.toNat (fun _ => L1 ns 5 s g0 sl0) (by rw [upto_size]; exact Nat.le_refl _) ?_ ?_ ?_
  · refine ⟨slot, grp, row, h0, hg, rfl, by simp [y.len, hl], (hD.nx y).app _, ?_, hrl, hrv⟩
    rw [List.getElem?_append_left (by rw [y.len]; omega), y.get (by decide)]
    exact hrow
  · rintro k E B hk ⟨slot, grp, row, h0, hg, rfl, hl, hD, hrow, hrl, hrv⟩
    refine ⟨_, upto_at hk _, tsat_of ?_⟩
    simp
    exact b4 hs h0 hg hl hD hrow hrl hrv (by simp)
  · intro E B h
    exact ⟨upto_end _, h⟩
end Lw
set_option Elab.async false
set_option linter.all false
set_option maxRecDepth 100000
set_option maxHeartbeats 4000000
/-! The row is spoilt (own work). -/
namespace Lw
open PySem DL
def PW (A : AH) (t : Nat) (v : D) : Prop := v = .non ∨ v = .tup [] ∨ (∃ ds, v = .tup ds ∧ ds.all scal = true ∧ 12 - t ≤ ds.length ∧ ds.length ≤ 12) ∨ ∃ i ds, v = .ref i ∧ 4 ≤ i ∧ A[i]? = some (.lst ds) ∧ ds.all scal = true ∧ 12 - t ≤ ds.length ∧ ds.length ≤ 12
theorem PW.pv {A : AH} {t : Nat} {v : D} (h : PW A t v) : PV A v := by
  rcases h with rfl | rfl | ⟨ds, rfl, h1, _, h2⟩ | ⟨i, ds, rfl, _, h0, h1, _, h2⟩
  · exact .inl rfl
  · exact .inr (.inl ⟨[], rfl, rfl, by simp⟩)
  · exact .inr (.inl ⟨ds, rfl, h1, h2⟩)
  · exact .inr (.inr ⟨i, ds, rfl, h0, h1, h2⟩)
theorem PW.to {A B : AH} {t : Nat} {v : D} (h : PW A t v) (hB : ∀ i ds, 4 ≤ i → A[i]? = some (.lst ds) → B[i]? = some (.lst ds)) : PW B t v := by
  rcases h with rfl | rfl | h | ⟨i, ds, rfl, h4, h0, h1⟩
  · exact .inl rfl
  · exact .inr (.inl rfl)
  · exact .inr (.inr (.inl h))
  · exact .inr (.inr (.inr ⟨i, ds, rfl, h4, hB i ds h4 h0, h1⟩))
theorem PW.more {A : AH} {t u : Nat} {v : D} (h : PW A t v) (hu : t ≤ u) : PW A u v := by
  rcases h with rfl | rfl | ⟨ds, rfl, h1, h2, h3⟩ | ⟨i, ds, rfl, h4, h0, h1, h2, h3⟩
  · exact .inl rfl
  · exact .inr (.inl rfl)
  · exact .inr (.inr (.inl ⟨ds, rfl, h1, by omega, h3⟩))
  · exact .inr (.inr (.inr ⟨i, ds, rfl, h4, h0, h1, by omega, h3⟩))
/-- the state while the row is spoilt -/
structure Sp (ns : List Int) (s : Int) (t : Nat) (row : List D) (A : AH) : Prop where
  dr : Drw ns A
  at3 : A[3]? = some (.lst row)
  len : (row.length : Int) = s
  pw : ∀ v ∈ row, PW A t v
theorem Sp.nx {ns : List Int} {s : Int} {t : Nat} {row : List D} {A B : AH} (h : Sp ns s t row A) (x : Nx1 A B) : Sp ns s t row B :=
  ⟨h.dr.nx x, (x.get (by decide)).trans h.at3, h.len, fun v hv => (h.pw v hv).to fun i ds hi e => (x.get (by omega)).trans e⟩
theorem Sp.app {ns : List Int} {s : Int} {t : Nat} {row : List D} {A : AH} (h : Sp ns s t row A) (G : AH) : Sp ns s t row (A ++ G) :=
  ⟨h.dr.app G, get_left h.at3, h.len, fun v hv => (h.pw v hv).to fun i ds hi e => get_left e⟩
theorem Sp.lt {ns : List Int} {s : Int} {t : Nat} {row : List D} {A : AH} (h : Sp ns s t row A) : 3 < A.length := (List.getElem?_eq_some_iff.mp h.at3).1
/-- a list made a while ago is changed -/
theorem Sp.fresh {ns : List Int} {s : Int} {t : Nat} {row : List D} {A G : AH} (h : Sp ns s t row A) {j : Nat} (o : O) (hj : A.length ≤ j) : Sp ns s t row ((A ++ G).set j o) := by
  have l := h.lt
  refine ⟨(h.dr.app G).set _ (by omega), ?_, h.len, fun v hv => (h.pw v hv).to fun i ds hi e => ?_⟩
  · rw [List.getElem?_set_ne (by omega)]
    exact get_left h.at3
  · have := (List.getElem?_eq_some_iff.mp e).1
    rw [List.getElem?_set_ne (by omega)]
    exact get_left e
theorem scal_two : scal (.str "2") = true := by decide +kernel
theorem cut1 (ds : List D) (h : 1 ≤ ds.length) : cutD ds (some 1) none = ds.drop 1 := by
  unfold cutD sIxD
  simp
  rw [show min 1 ds.length = 1 by omega, List.take_of_length_le (by simp)]
  simp
def VQ (A : AH) (t : Nat) (d : D) (B : AH) : Prop := ∃ (ds : List D) (G : AH) (j : Nat), d = .ref j ∧ B = A ++ G ∧ A.length ≤ j ∧ B[j]? = some (.lst ds) ∧ ds.all scal = true ∧ 12 - t ≤ ds.length ∧ ds.length ≤ 12
/-- the list that is to be spoilt -/
theorem value_sat {ns : List Int} {s : Int} {t : Nat} {row : List D} {A : AH} {E : DL.Env} {at_ : Int} (h : Sp ns s t row A) (h0 : 0 ≤ at_) (h1 : at_ < s) (e3 : E[3]? = some (some (.ref 3))) (e11 : E[11]? = some (some (.int at_))) (ht : t ≤ 5) :
    (eIf (tAnd (tB (eF opNe (aCons (eF opIx (aCons (eVar 3) (aCons (eVar 11) aNil))) (aCons (eF mkTup aNil) aNil)))) (tB (eF opNis (aCons (eF opIx (aCons (eVar 3) (aCons (eVar 11) aNil))) (aCons (eC .non) aNil))))) (eF biList (aCons (eF opIx (aCons (eVar 3) (aCons (eVar 11) aNil))) aNil)) (eF opMul (aCons (eF mkLst (aCons (eC (.int 0)) aNil)) (aCons (eC (.int 12)) aNil))) E A).sat (VQ A t) := by
  have hl := h.len
  obtain ⟨v, hv⟩ : ∃ v, row[at_.toNat]? = some v := ⟨_, List.getElem?_eq_getElem (by omega)⟩
  have hat : atD row at_ = some v := atD_of h0 hv
  have hvm : v ∈ row := List.mem_of_getElem? hv
  have zeros : (eF opMul (aCons (eF mkLst (aCons (eC (.int 0)) aNil)) (aCons (eC (.int 12)) aNil)) E A).sat (VQ A t) := by
    simp [line]
    exact ⟨rep 12 [.int 0], [.lst [.int 0], .lst (rep 12 [.int 0])], A.length + 1, rfl, rfl, by omega, by simp, rfl, by show 12 - t ≤ 12; omega, Nat.le_refl _⟩
  rcases h.pw v hvm with rfl | rfl | ⟨ds, rfl, k1, k2, k3⟩ | ⟨i, ds, rfl, k4, k0, k1, k2, k3⟩
  · have ne : eqD .non (.tup []) = false := by simp [eqD, PyData.eqv]
    simp [e3, e11, h.at3, hat, line, opNe_pur, ne]
    simpa [line] using zeros
  · simp [e3, e11, h.at3, hat, line, opNe_pur]
    simpa [line] using zeros
  · have ne : eqD (.tup ds) (.tup []) = false := by
      cases ds with
      | nil => simp at k2; omega
      | cons a b => simp [eqD, PyData.eqv, PyData.eqvAll]
    have hp : purs 59 ds = true := scals_pur k1
    simp [e3, e11, h.at3, hat, line, opNe_pur, ne, hp]
    exact ⟨ds, [.lst ds], A.length, rfl, rfl, Nat.le_refl _, by simp, k1, k2, k3⟩
  · have ne := opNe_lstP (y := .tup []) (show seqAt A i = some ds by simp [k0]) (scals_pur k1) (by simp)
    simp [e3, e11, h.at3, hat, line, ne, k0]
    exact ⟨ds, [.lst ds], A.length, rfl, rfl, Nat.le_refl _, by simp, k1, k2, k3⟩
end Lw
set_option Elab.async false
set_option linter.all false
set_option maxRecDepth 100000
set_option maxHeartbeats 4000000
/-! One more is spoilt (own work). -/
namespace Lw
open PySem DL
theorem asg_sat {e : Ex} {i : Nat} {E : DL.Env} {A : AH} {N : DL.Env → AH → Prop} {R : D → AH → Prop} (h : (e E A).sat fun d B => N (E.set i (some d)) B) : (sAsg e (gName i) E A).sat N R := by
  simpa using h
def L2s (ns : List Int) (s : Int) (t : Nat) (slot grp : Int) (hd : D) (E : DL.Env) (A : AH) : Prop := ∃ (e7 e11 e12 : Option D) (row : List D), E = EV s slot grp hd e7 none none none e11 e12 none none none ∧ Sp ns s t row A
theorem set_scal {ds : List D} {i : Nat} {d : D} (h : ds.all scal = true) (hd : scal d = true) : (ds.set i d).all scal = true := by
  rw [List.all_eq_true]
  intro x hx
  rcases List.mem_or_eq_of_mem_set hx with hx | rfl
  · exact List.all_eq_true.mp h x hx
  · exact hd
def L3 (ns : List Int) (s : Int) (t : Nat) (slot grp : Int) (hd : D) (e7 : Option D) (v : Int) (j : Nat) (row : List D) (E : DL.Env) (C : AH) : Prop := ∃ (ds : List D), E = EV s slot grp hd e7 none none none (some (.int v)) (some (.ref j)) none none none ∧ Sp ns s t row C ∧ 4 ≤ j ∧ C[j]? = some (.lst ds) ∧ ds.all scal = true ∧ 12 - t ≤ ds.length ∧ ds.length ≤ 12
theorem b5 {ns : List Int} {s : Int} {t : Nat} {slot grp : Int} {hd : D} {E : DL.Env} {A : AH} {R : D → AH → Prop} (hs : 1 ≤ s ∧ s ≤ 8) (ht : t < 5) (h : L2s ns s t slot grp hd E A) : (bd_law_5 E A).sat (L2s ns s (t + 1) slot grp hd) R := by
  obtain ⟨e7, e11, e12, row, rfl, hS⟩ := h
  unfold bd_law_5
  refine seq_sat (fun E B => ∃ v : Int, 0 ≤ v ∧ v < s ∧ E = EV s slot grp hd e7 none none none (some (.int v)) e12 none none none ∧ Sp ns s t row B) ?_ ?_
  · refine asg_sat ?_
    simp [cl]
    refine (take_sat hS.dr (by omega)).mono ?_
    rintro d B ⟨⟨v, rfl, v0, v1⟩, x⟩
    exact ⟨v, v0, v1, rfl, hS.nx x⟩
  rintro E B ⟨v, v0, v1, rfl, hS⟩
  refine seq_sat (fun E C => ∃ (ds : List D) (G : AH) (j : Nat), E = EV s slot grp hd e7 none none none (some (.int v)) (some (.ref j)) none none none ∧ C = B ++ G ∧ B.length ≤ j ∧ C[j]? = some (.lst ds) ∧ ds.all scal = true ∧ 12 - t ≤ ds.length ∧ ds.length ≤ 12) ?_ ?_
  · refine asg_sat ((value_sat hS v0 v1 rfl rfl (by omega)).mono ?_)
    rintro d C ⟨ds, G, j, rfl, h1⟩
    exact ⟨ds, G, j, rfl, h1⟩
  rintro E C ⟨ds, G, j, rfl, rfl, hj, hjd, hsc, hl1, hl2⟩
  have hBl := hS.lt
  have hj1 : j ≠ 1 := by omega
  have hS2 : Sp ns s t row (B ++ G) := hS.app G
  refine seq_sat (L3 ns s t slot grp hd e7 v j row) ?_ ?_
  · have hlt := (List.getElem?_eq_some_iff.mp hjd).1
    simp [cl, line]
    generalize hlits : [D.int 0, .int 1, .int 2, .int 3, .int (-1), .int (-1), .bl true, .str "2"] = lits
    have hq : (B ++ (G ++ [O.lst lits]))[(B ++ G).length]? = some (.lst lits) := by
      rw [← List.append_assoc]
      exact get_last
    have hD2 : Drw ns (B ++ (G ++ [O.lst lits])) := hS.dr.app _
    have hlen : (B ++ G).length = B.length + G.length := by simp
    rw [hlen] at hq
    refine (pick_sat hD2 hq (by omega) (by rw [← hlits]; simp) (by rw [← hlits]; simp)).mono ?_
    rintro d C ⟨hd, x⟩
    have hds : scal d = true := by
      rw [← hlits] at hd
      simp at hd
      rcases hd with rfl | rfl | rfl | rfl | rfl | rfl | rfl <;> first | rfl | exact scal_two
    obtain ⟨B1, rfl, x1⟩ := x.split (by omega)
    refine (take_sat ((hS.dr.nx x1).app _) (by decide)).mono ?_
    rintro d2 C ⟨⟨u, rfl, u0, u1⟩, y⟩
    obtain ⟨B2, rfl, x2⟩ := y.split (by rw [x1.len]; omega)
    have l2 : B2.length = B.length := x2.len.trans x1.len
    have hjd2 : (B2 ++ (G ++ [O.lst lits]))[j]? = some (.lst ds) := by
      rw [← List.append_assoc, List.getElem?_append_left (by simp at hlt ⊢; omega), List.getElem?_append_right (by omega), l2]
      rw [List.getElem?_append_right (by omega)] at hjd
      exact hjd
    have hix : ixD ds.length u = some u.toNat := by
      unfold ixD
      rw [if_pos u0, if_pos (by omega)]
    simp [hjd2, hix]
    have hlt2 : j < (B2 ++ (G ++ [O.lst lits])).length := (List.getElem?_eq_some_iff.mp hjd2).1
    exact ⟨ds.set u.toNat d, rfl, ((hS.nx x1).nx x2).fresh _ (by omega), by omega, List.getElem?_set_self hlt2, set_scal hsc hds, by simp; omega, by simp; omega⟩
  rintro E C ⟨ds, rfl, hS3, hj4, hjd, hsc, hl1, hl2⟩
  have hlt := (List.getElem?_eq_some_iff.mp hjd).1
  have l3 := hS3.lt
  have hc1 := cut1 ds (by omega)
  simp [cl, line, hjd, hc1]
  generalize hlits : [D.tup ds, .tup ds, .non, .tup [], .tup ds.tail, .ref j] = lits
  have hq : (C ++ [O.lst ds.tail, O.lst lits])[C.length + 1]? = some (.lst lits) := by
    rw [List.getElem?_append_right (by omega), show C.length + 1 - C.length = 1 by omega]
    rfl
  have htl : ds.tail.all scal = true := by
    rw [List.all_eq_true]
    exact fun x hx => List.all_eq_true.mp hsc x (List.mem_of_mem_tail hx)
  refine (pick_sat (hS3.dr.app _) hq (by omega) (by rw [← hlits]; simp) (by rw [← hlits]; simp [scals_bd hsc, scals_bd htl]; omega)).mono ?_
  rintro d C2 ⟨hd, x⟩
  obtain ⟨C3, rfl, x3⟩ := x.split hS3.dr.lt
  have hS4 := (hS3.nx x3).app [O.lst ds.tail, O.lst lits]
  have hjd4 : (C3 ++ [O.lst ds.tail, O.lst lits])[j]? = some (.lst ds) := get_left ((x3.get (by omega)).trans hjd)
  have hpd : PW (C3 ++ [O.lst ds.tail, O.lst lits]) (t + 1) d := by
    rw [← hlits] at hd
    simp at hd
    rcases hd with rfl | rfl | rfl | rfl | rfl
    · exact .inr (.inr (.inl ⟨ds, rfl, hsc, by omega, hl2⟩))
    · exact .inl rfl
    · exact .inr (.inl rfl)
    · exact .inr (.inr (.inl ⟨ds.tail, rfl, htl, by simp; omega, by simp; omega⟩))
    · exact .inr (.inr (.inr ⟨j, ds, rfl, hj4, hjd4, hsc, by omega, hl2⟩))
  have hrl := hS4.len
  have hix : ixD row.length v = some v.toNat := by
    unfold ixD
    rw [if_pos v0, if_pos (by omega)]
  simp [hS4.at3, hix]
  refine ⟨e7, _, _, row.set v.toNat d, rfl, hS4.dr.set _ (by decide), List.getElem?_set_self hS4.lt, by simp [hrl], fun w hw => ?_⟩
  have to3 : ∀ u, PW (C3 ++ [O.lst ds.tail, O.lst lits]) (t + 1) u → PW ((C3 ++ [O.lst ds.tail, O.lst lits]).set 3 (.lst (row.set v.toNat d))) (t + 1) u := fun u hu => hu.to fun i es hi e => by
    rw [List.getElem?_set_ne (by omega)]
    exact e
  rcases List.mem_or_eq_of_mem_set hw with hw | rfl
  · exact to3 _ ((hS4.pw w hw).more (by omega))
  · exact to3 _ hpd
theorem s5 {ns : List Int} {s g0 sl0 : Int} {E : DL.Env} {A : AH} {R : D → AH → Prop} (hs : 1 ≤ s ∧ s ≤ 8) (h : L1 ns 5 s g0 sl0 E A) : (st_law_5 E A).sat (fun E A => ∃ slot grp, 0 ≤ grp ∧ L2s ns s 5 slot grp (.tup [.int 0, .int g0, .int sl0]) E A) R := by
  obtain ⟨slot, grp, row, h0, hg, rfl, hl, hD, hrow, hrl, hrv⟩ := h
  simp [st_law_5, cl, line, hl]
  have hj : (A ++ [O.lst [.int 0, .int 1, .int 3, .int 5]])[5]? = some (.lst [.int 0, .int 1, .int 3, .int 5]) := by
    rw [List.getElem?_append_right (by omega), hl]
    rfl
  refine (pick_sat (hD.app _) hj (by decide) (by simp) (by simp)).mono fun d B ⟨hd, x⟩ => ?_
  obtain ⟨A', rfl, y⟩ := x.split hD.lt
  have : ∃ m : Int, d = .int m ∧ (0 ≤ m ∧ m ≤ 5) := by
    simp at hd
    rcases hd with rfl | rfl | rfl | rfl <;> exact ⟨_, rfl, by decide⟩
  obtain ⟨m, rfl, hm0, hm1⟩ := this
  simp [small_of hm0 (by omega)]
  refine for_sat m.toNat (fun k => L2s ns s k slot grp (.tup [.int 0, .int g0, .int sl0])) (by rw [upto_size]; exact Nat.le_refl _) ?_ ?_ ?_
  · refine ⟨none, none, none, row, rfl, (hD.nx y).app _, ?_, hrl, fun v hv => ?_⟩
    · rw [List.getElem?_append_left (by rw [y.len]; omega), y.get (by decide)]
      exact hrow
    · rcases hrv v hv with rfl | ⟨js, rfl, hj⟩
      · exact .inr (.inl rfl)
      · refine .inr (.inr (.inl ⟨_, rfl, ?_, by simp [hj], by simp [hj]⟩))
        rw [List.all_eq_true]
        intro z hz
        obtain ⟨i, _, rfl⟩ := List.mem_map.mp hz
        rfl
  · rintro k E B hk ⟨e7, e11, e12, row, rfl, hS⟩
    refine ⟨_, upto_at hk _, tsat_of ?_⟩
    simp
    exact b5 hs (by omega) ⟨_, e11, e12, row, rfl, hS⟩
  · rintro E B ⟨e7, e11, e12, row, rfl, hS⟩
    exact ⟨upto_end _, slot, grp, hg, e7, e11, e12, row, rfl, hS.dr, hS.at3, hS.len, fun v hv => (hS.pw v hv).more (by omega)⟩
end Lw
set_option Elab.async false
set_option linter.all false
set_option maxRecDepth 100000
set_option maxHeartbeats 4000000
/-! The disk is written (own work). -/
namespace Lw
open PySem DL
def prsOf (row : List D) (i : Nat) : List (Int × D) := (List.range i).map fun (q : Nat) => ((2 : Int) + (q : Int), (row[q]?).getD .non)
theorem prsOf_succ (row : List D) (i : Nat) : prsOf row (i + 1) = prsOf row i ++ [((2 : Int) + (i : Int), (row[i]?).getD .non)] := by
  unfold prsOf
  rw [List.range_succ, List.map_append]
  rfl
theorem prsOf_len (row : List D) (i : Nat) : (prsOf row i).length = i := by simp [prsOf]
def DkA (A : AH) (k n : Nat) (prs : List (Int × D)) : Prop := ∃ st, A[k]? = some (.ins 2 [(0, .tup st), (1, .tup (prs.map prD))]) ∧ st.length = n ∧ ∀ m, bdAll m st = true
theorem DkA.dk {ns : List Int} {s : Int} {t : Nat} {row : List D} {A : AH} {k n i : Nat} (h : DkA A k n (prsOf row i)) (S : Sp ns s t row A) (hi : i ≤ row.length) (hs : s ≤ 8) : Dk A k n (prsOf row i) := by
  have hl := S.len
  refine ⟨h, fun p hp => ?_, by rw [prsOf_len]; omega⟩
  obtain ⟨q, hq, rfl⟩ := List.mem_map.mp hp
  have hq' := List.mem_range.mp hq
  obtain ⟨v, hv⟩ : ∃ v, row[q]? = some v := ⟨_, List.getElem?_eq_getElem (by omega)⟩
  simp only [hv, Option.getD_some]
  exact (S.pw v (List.mem_of_getElem? hv)).pv
theorem DkA.nx {A B : AH} {k n : Nat} {prs : List (Int × D)} (h : DkA A k n prs) (x : Nx1 A B) (hk : k ≠ 1) : DkA B k n prs := by
  obtain ⟨st, h1, h2⟩ := h
  exact ⟨st, (x.get hk).trans h1, h2⟩
theorem Sp.other {ns : List Int} {s : Int} {t : Nat} {row : List D} {A B : AH} {k : Nat} (h : Sp ns s t row A) (hk : 4 ≤ k) (hn : ∀ ds, A[k]? ≠ some (.lst ds)) (hB : ∀ j, j ≠ k → B[j]? = A[j]?) : Sp ns s t row B := by
  obtain ⟨n, n0, n1⟩ := h.dr.d
  exact ⟨⟨(hB 0 (by omega)).trans h.dr.s, n, n0, (hB 1 (by omega)).trans n1⟩, (hB 3 (by omega)).trans h.at3, h.len, fun v hv => (h.pw v hv).to fun i ds hi e => by
    rw [hB i fun z => hn ds (z ▸ e)]
    exact e⟩
def L7 (ns : List Int) (s slot grp : Int) (hd : D) (k : Nat) (row : List D) (i : Nat) (E : DL.Env) (A : AH) : Prop := ∃ (e7 e11 e12 : Option D), E = EV s slot grp hd e7 none none none e11 e12 (some (.ref k)) none none ∧ Sp ns s 5 row A ∧ DkA A k (s.toNat + 2) (prsOf row i)
theorem s6 {ns : List Int} {s slot grp : Int} {hd : D} {E : DL.Env} {A : AH} {R : D → AH → Prop} (hs : 1 ≤ s ∧ s ≤ 8) (h : L2s ns s 5 slot grp hd E A) : (st_law_6 E A).sat (fun E A => ∃ k row, 4 ≤ k ∧ L7 ns s slot grp hd k row 0 E A) R := by
  obtain ⟨e7, e11, e12, row, rfl, hS⟩ := h
  unfold st_law_6
  refine asg_sat ?_
  have q := new_disk (A := A) (n := 2 + s) (by omega) (by omega)
  simp only [ev_eF, ev_aCons, ev_aNil, ev_kCons, ev_kCons2, ev_eC, ev_eVar, List.getElem?_cons_succ, List.getElem?_cons_zero, okD_some, bind_ok, ev_addI, q, sat_ok]
  have l := hS.lt
  refine ⟨A.length, row, by omega, e7, e11, e12, rfl, hS.app _, rep (2 + s) [.tup []], ?_, by rw [rep_len]; simp; omega, fun m => ?_⟩
  · rw [List.getElem?_append_right (Nat.le_refl _), Nat.sub_self]
    rfl
  · rw [bdAll_iff]
    intro d hd
    unfold rep at hd
    obtain ⟨l, h1, h2⟩ := List.mem_flatten.mp hd
    rw [(List.mem_replicate.mp h1).2] at h2
    rw [List.mem_singleton.mp h2]
    simp
theorem b7 {ns : List Int} {s slot grp : Int} {hd : D} {k : Nat} {row : List D} {i : Nat} {e7 : Option D} {v : D} {A : AH} {R : D → AH → Prop} (hs : 1 ≤ s ∧ s ≤ 8) (hk : 4 ≤ k) (hi : i < row.length) (hv : row[i]? = some v) (hS : Sp ns s 5 row A) (hDk : DkA A k (s.toNat + 2) (prsOf row i)) :
    (bd_law_7 (EV s slot grp hd e7 none none none (some (.int i)) (some v) (some (.ref k)) none none) A).sat (L7 ns s slot grp hd k row (i + 1)) R := by
  have hl := hS.len
  have hsz : ¬ s = 0 := by omega
  obtain ⟨st0, hk0, _⟩ := id hDk
  simp [bd_law_7, cl, isIns_of hk0]
  refine (take_sat hS.dr (by decide)).mono ?_
  rintro d B ⟨⟨u, rfl, u0, u1⟩, x⟩
  have hS1 := hS.nx x
  have hD1 := hDk.nx x (by omega)
  have wide : tooWide s = false := by
    unfold tooWide
    simp
    omega
  have hmod : (i + s * u).fmod s = i := by
    rw [Int.fmod_eq_emod_of_nonneg _ (by omega), Int.add_mul_emod_self_left, Int.emod_eq_of_lt (by omega) (by omega)]
  have pv : PV B v := (hS1.pw v (List.mem_of_getElem? hv)).pv
  obtain ⟨C, hw, hCl, hC, hDk2⟩ := write_ok (hD1.dk hS1 (by omega) hs.2) (by rw [prsOf_len]; omega) (pl := 2 + i) (v := v) (by omega) (by omega) pv
  simp [wide, slot_plate_ok, hsz, hmod, hw]
  obtain ⟨st1, hk1, _⟩ := id hD1
  have hS2 : Sp ns s 5 row C := hS1.other hk (fun ds e => by rw [hk1] at e; cases e) hC
  have pv2 : PV C v := (hS2.pw v (List.mem_of_getElem? hv)).pv
  simp [is_log_plate_ok pv2, L_is_log_ok pv2]
  refine ⟨e7, _, _, rfl, hS2, ?_⟩
  rw [prsOf_succ, hv]
  exact hDk2.at_
theorem s7 {ns : List Int} {s slot grp : Int} {hd : D} {k : Nat} {row : List D} {E : DL.Env} {A : AH} {R : D → AH → Prop} (hs : 1 ≤ s ∧ s ≤ 8) (hk : 4 ≤ k) (h : L7 ns s slot grp hd k row 0 E A) : (st_law_7 E A).sat (L7 ns s slot grp hd k row row.length) R := by
  obtain ⟨e7, e11, e12, rfl, hS, hDk⟩ := h
  simp [st_law_7, hS.at3]
  refine for_sat row.length (L7 ns s slot grp hd k row) (by rw [size_enum (ds := row) (by rw [hS.at3]; rfl)]; exact Nat.le_refl _) ⟨e7, e11, e12, rfl, hS, hDk⟩ ?_ ?_
  · rintro i E B hi ⟨e7, e11, e12, rfl, hS, hDk⟩
    obtain ⟨v, hv⟩ : ∃ v, row[i]? = some v := ⟨_, List.getElem?_eq_getElem hi⟩
    refine ⟨.tup [.int i, v], by rw [at_enum (ds := row) (by rw [hS.at3]; rfl), hv]; rfl, tsat_of ?_⟩
    simp
    exact b7 hs hk hi hv hS hDk
  · rintro E B ⟨e7, e11, e12, rfl, hS, hDk⟩
    exact ⟨by rw [at_enum (ds := row) (by rw [hS.at3]; rfl), List.getElem?_eq_none (Nat.le_refl _)]; rfl, e7, e11, e12, rfl, hS, hDk⟩
end Lw
set_option Elab.async false
set_option linter.all false
set_option maxRecDepth 100000
set_option maxHeartbeats 4000000
/-! The answers are compared (own work). -/
namespace Lw
open PySem DL
theorem range_one {m : Nat} : ∀ {n : Nat}, m < n → (List.range n).filter (fun q => decide (q = m)) = [m]
  | 0, h => by omega
  | n + 1, h => by
    rw [List.range_succ, List.filter_append]
    by_cases e : m = n
    · subst e
      have : (List.range m).filter (fun q => decide (q = m)) = [] := by
        rw [List.filter_eq_nil_iff]
        intro q hq
        have := List.mem_range.mp hq
        simp
        omega
      rw [this]
      simp
    · rw [range_one (by omega)]
      simp [Ne.symm e]
theorem prs_filter {row : List D} {m : Int} (h0 : 0 ≤ m) (h1 : m < row.length) : ((prsOf row row.length).filter fun p => decide (p.1 = 2 + m)).map (·.2) = [(row[m.toNat]?).getD .non] := by
  unfold prsOf
  rw [List.filter_map]
  have e : (List.range row.length).filter ((fun p : Int × D => decide (p.1 = 2 + m)) ∘ fun (q : Nat) => ((2 : Int) + (q : Int), (row[q]?).getD .non)) = (List.range row.length).filter fun q => decide (q = m.toNat) := by
    apply List.filter_congr
    intro q _
    simp
    omega
  rw [e, range_one (by omega)]
  rfl
theorem DkA.dks {ns : List Int} {s : Int} {row : List D} {A : AH} {k : Nat} (hs : 1 ≤ s ∧ s ≤ 8) (S : Sp ns s 5 row A) (h : DkA A k (s.toNat + 2) (prsOf row row.length)) : DkS A k s (rowAt row) := by
  have hl := S.len
  obtain ⟨st, hk, h1, h2⟩ := id h
  refine ⟨fun G => isIns_of (get_left hk), fun G x => ?_, fun x => ?_⟩
  · have hG : DkA (A ++ G) k (s.toNat + 2) (prsOf row row.length) := ⟨st, get_left hk, h1, h2⟩
    have p1 : 0 ≤ x.fmod s := Int.fmod_nonneg_of_pos x (by omega)
    have p2 : x.fmod s < s := Int.fmod_lt_of_pos x (by omega)
    refine now_ok (hG.dk (S.app G) (Nat.le_refl _) hs.2) (by omega) (by omega) ?_
    rw [prs_filter p1 (by omega)]
    unfold rowAt
    rw [hl]
  · unfold rowAt
    cases z : row[(x.fmod row.length).toNat]? with
    | none => exact .inl rfl
    | some v => exact (S.pw v (List.mem_of_getElem? z)).pv
def seenD (row : List D) : List D := (row.filter isLog).map fun v => .int (i0D v)
def EW (s slot grp : Int) (hd : D) (e7 e11 e12 : Option D) (k : Nat) (e14 : Option D) (e15 : Option D) : DL.Env := EV s slot grp hd e7 none none none e11 e12 (some (.ref k)) e14 e15
theorem s8 {ns : List Int} {s slot grp : Int} {hd : D} {k : Nat} {row : List D} {E : DL.Env} {A : AH} {R : D → AH → Prop} (hs : 1 ≤ s ∧ s ≤ 8) (h : L7 ns s slot grp hd k row row.length E A) :
    (st_law_8 E A).sat (fun E B => ∃ e7 e11 e12 j, E = EW s slot grp hd e7 e11 e12 k (some (.ref j)) none ∧ Sp ns s 5 row B ∧ DkA B k (s.toNat + 2) (prsOf row row.length) ∧ B[j]? = some (.lst (seenD row))) R := by
  obtain ⟨e7, e11, e12, rfl, hS, hDk⟩ := h
  have hl := hS.len
  unfold st_law_8
  refine asg_sat ?_
  have q := lc_fm (src := .lst 3) (g := gName 12) (t := tB (eF (cl F_L_is_log []) (aCons (eVar 12) aNil))) (e := eF opIx (aCons (eVar 12) (aCons (eC (.int 0)) aNil))) (E := EV s slot grp hd e7 none none none e11 none (some (.ref k)) none none) (A := A) (ds := row)
    (fun d => EV s slot grp hd e7 none none none e11 (some d) (some (.ref k)) none none) isLog (fun d => .int (i0D d)) (by simp [line]; omega) (by rw [size_lst (ds := row) (by rw [hS.at3]; rfl)]) (fun G k => by rw [at_lst (ds := row) (by rw [get_left hS.at3]; rfl)]) (fun d _ G => rfl)
    (fun d hd G => by simp [cl, L_is_log_ok ((hS.pw d hd).pv.app G)])
    (fun d hd hp G => by simp [log_ix hp])
  simp [hS.at3, q]
  obtain ⟨st, h1, h2⟩ := hDk
  exact ⟨e7, e11, e12, A.length, rfl, hS.app _, ⟨st, get_left h1, h2⟩, get_last⟩
theorem max_eq (row : List D) : ∃ n ns, intsOf (seenD row ++ [.int (-1)]) = some (n :: ns) ∧ maxI n ns = maxI (-1) (seenI row) := by
  have h : intsOf (seenD row ++ [.int (-1)]) = some (seenI row ++ [-1]) := by
    unfold intsOf
    rw [List.map_append]
    unfold seenD
    rw [List.map_map, show (D.int? ∘ fun v => D.int (i0D v)) = fun d => some (i0D d) from rfl, show ((row.filter isLog).map fun d => some (i0D d)) ++ [D.int (-1)].map D.int? = (((row.filter isLog).map i0D) ++ [-1]).map some by simp; rfl, allSome_some]
    rfl
  cases z : seenI row with
  | nil =>
    rw [z] at h
    exact ⟨-1, [], h, by rfl⟩
  | cons n ns =>
    rw [z, List.cons_append] at h
    refine ⟨n, ns ++ [-1], h, maxI_eq fun w => ?_⟩
    simp
    constructor
    · rintro (h | h | h)
      · exact .inr (.inl h)
      · exact .inr (.inr h)
      · exact .inl h
    · rintro (h | h | h)
      · exact .inr (.inr h)
      · exact .inl h
      · exact .inr (.inl h)
theorem grps_pur {f : Int → D} {s : Int} (hs : s ≤ 1000) (n : Nat) (g sl : Int) : (grps f s n g sl 0 []).pur 60 = true := by
  rcases grps_G (f := f) hs n g sl 0 [] (by simp) with e | ⟨fs, e, h⟩
  · rw [e]; simp
  · rw [e, pur_tup, purs_iff]
    exact fun x hx => gch_pur (h x hx)
theorem s9 {ns : List Int} {s slot grp g0 sl0 : Int} {k : Nat} {row : List D} {e7 e11 e12 : Option D} {j : Nat} {A : AH} {R : D → AH → Prop} (hs : 1 ≤ s ∧ s ≤ 8) (hS : Sp ns s 5 row A) (hDk : DkA A k (s.toNat + 2) (prsOf row row.length)) (hj : A[j]? = some (.lst (seenD row))) :
    (st_law_9 (EW s slot grp (.tup [.int 0, .int g0, .int sl0]) e7 e11 e12 k (some (.ref j)) none) A).sat (fun E B => E = EW s slot grp (.tup [.int 0, .int g0, .int sl0]) e7 e11 e12 k (some (.ref j)) none ∧ Sp ns s 5 row B ∧ DkA B k (s.toNat + 2) (prsOf row row.length)) R := by
  have hl := hS.len
  have hne : row ≠ [] := by intro e; rw [e] at hl; simp at hl; omega
  have q1 := last_seen_ok s hl.symm hne (by omega) (hDk.dks hs hS) (fun v hv => (hS.pw v hv).pv)
  obtain ⟨n, ms, hm1, hm2⟩ := max_eq row
  have hA2 : ∀ G, Sp ns s 5 row (A ++ G) := fun G => hS.app G
  have hD2 : ∀ G, DkA (A ++ G) k (s.toNat + 2) (prsOf row row.length) := fun G => by
    obtain ⟨st, h1, h2⟩ := hDk
    exact ⟨st, get_left h1, h2⟩
  have q2 : ∀ G, F_read_groups [.ref k, .int s, .tup [.int 0, .int g0, .int sl0]] (A ++ G) = .ok (grps (rowAt row) s (s.toNat + 1) g0 sl0 0 []) (A ++ G) := fun G => read_groups_ok (by omega) (by omega) ((hD2 G).dks hs (hA2 G)) 0 g0 sl0
  have q3 : ∀ G, F_L_groups [.ref 3, .int s, .tup [.int 0, .int g0, .int sl0]] (A ++ G) = .ok (grps (rowAt row) s (s.toNat + 1) g0 sl0 0 []) (A ++ G) := fun G => by
    have := L_groups_ok (A := A ++ G) hne (by omega) (hA2 G).at3 (((hD2 G).dks hs (hA2 G)).pv) 0 g0 sl0
    rw [hl] at this
    rw [show s.toNat + 1 = row.length + 1 by omega]
    exact this
  have hseen : (seenD row).length ≤ row.length := by
    unfold seenD
    rw [List.length_map]
    exact List.length_filter_le _ _
  have hjl := (List.getElem?_eq_some_iff.mp hj).1
  have gj : ∀ G, (A ++ G)[j]? = some (.lst (seenD row)) := fun G => get_left hj
  have gp := grps_pur (f := rowAt row) (s := s) (by omega) (s.toNat + 1) g0 sl0
  simp [st_law_9, EW, cl, q1, gj, line]
  refine ⟨?_, by omega⟩
  intro _
  simp [hm1, hm2, q2, q3, opNe_pur gp gp]
  exact ⟨hA2 _, hD2 _⟩
def LA (ns : List Int) (s slot grp : Int) (hd : D) (k j : Nat) (row : List D) (E : DL.Env) (A : AH) : Prop := ∃ (e7 e11 e12 e15 : Option D), E = EW s slot grp hd e7 e11 e12 k (some (.ref j)) e15 ∧ Sp ns s 5 row A ∧ DkA A k (s.toNat + 2) (prsOf row row.length)
theorem b10 {ns : List Int} {s slot grp : Int} {hd : D} {k j : Nat} {row : List D} {E : DL.Env} {A : AH} {R : D → AH → Prop} (hs : 1 ≤ s ∧ s ≤ 8) (hg : 0 ≤ grp) (hk : 4 ≤ k) (h : LA ns s slot grp hd k j row E A) : (bd_law_10 E A).sat (LA ns s slot grp hd k j row) R := by
  obtain ⟨e7, e11, e12, e15, rfl, hS, hDk⟩ := h
  have hl := hS.len
  have hne : row ≠ [] := by intro e; rw [e] at hl; simp at hl; omega
  have w1 : tooWide s = false := by
    unfold tooWide
    simp
    omega
  have w2 : tooWide 2 = false := by decide
  simp [bd_law_10, EW, cl, w1, w2]
  refine (take_sat hS.dr (by omega)).mono ?_
  rintro d B ⟨⟨u, rfl, u0, u1⟩, x⟩
  refine (take_sat (hS.nx x).dr (by omega)).mono ?_
  rintro d C ⟨⟨v, rfl, v0, v1⟩, y⟩
  have hS2 := (hS.nx x).nx y
  have hD2 := (hDk.nx x (by omega)).nx y (by omega)
  have K := hD2.dks hs hS2
  have q1 := whole_group_ok (by omega) (by omega) K.ins K.now K.pv u v
  have q2 := L_group_ok hne (by omega) hS2.at3 K.pv u v
  rw [hl] at q2
  have gp : (grpD (rowAt row) s u v).pur 60 = true := grpR_pur (grpD_R (by omega))
  simp [q1, q2, opNe_pur gp gp]
  exact ⟨e7, _, _, _, rfl, hS2, hD2⟩
theorem s10 {ns : List Int} {s slot grp : Int} {hd : D} {k j : Nat} {row : List D} {E : DL.Env} {A : AH} {R : D → AH → Prop} (hs : 1 ≤ s ∧ s ≤ 8) (hg : 0 ≤ grp) (hk : 4 ≤ k) (h : LA ns s slot grp hd k j row E A) : (st_law_10 E A).sat (LA ns s slot grp hd k j row) R := by
  simp [st_law_10, small62]
  refine for_sat 6 (fun _ => LA ns s slot grp hd k j row) (by rw [upto_size]; exact Nat.le_refl _) h ?_ ?_
  · rintro i E B hi ⟨e7, e11, e12, e15, rfl, hS, hDk⟩
    refine ⟨_, upto_at hi _, tsat_of ?_⟩
    simp [EW]
    exact b10 hs hg hk ⟨_, e11, e12, e15, rfl, hS, hDk⟩
  · exact fun E B h => ⟨upto_end _, h⟩
theorem s11 {ns : List Int} {s slot grp : Int} {hd : D} {k j : Nat} {row : List D} {E : DL.Env} {A : AH} {N : DL.Env → AH → Prop} {R : D → AH → Prop} (hs : 1 ≤ s ∧ s ≤ 8) (h : LA ns s slot grp hd k j row E A) (hR : ∀ B, R (.bl true) B) : (st_law_11 E A).sat N R := by
  obtain ⟨e7, e11, e12, e15, rfl, hS, hDk⟩ := h
  have hsz : ¬ s = 0 := by omega
  have w1 : tooWide s = false := by
    unfold tooWide
    simp
    omega
  have w2 : tooWide 3 = false := by decide
  let f : D → D := fun d => match d with
    | .int x => .int (2 + x.fmod s)
    | _ => .non
  have q1 : ∀ B : AH, kLc (gName 11) tYes (eF (cl F_slot_plate []) (aCons (eVar 2) (aCons (eVar 11) aNil))) (EW s slot grp hd e7 none e12 k (some (.ref j)) e15) (.seq (upto 0 (3 * s).toNat)) B = .ok (.ref B.length) (B ++ [.lst ((upto 0 (3 * s).toNat).map f)]) := fun B =>
    lc_map (fun d => EW s slot grp hd e7 (some d) e12 k (some (.ref j)) e15) f (by rw [upto_len]; simp [line]; omega) rfl (fun _ _ => rfl) (fun d _ G => rfl) (fun d hd G => by
      obtain ⟨x, rfl⟩ := mem_upto hd
      simp [EW, cl, slot_plate_ok, hsz, f])
  have q2 : ∀ B : AH, kLc (gName 11) tYes (eF opAdd (aCons (eC (.int 2)) (aCons (eF opMod (aCons (eF biInt (aCons (eVar 11) aNil)) (aCons (eVar 2) aNil))) aNil))) (EW s slot grp hd e7 none e12 k (some (.ref j)) e15) (.seq (upto 0 (3 * s).toNat)) B = .ok (.ref B.length) (B ++ [.lst ((upto 0 (3 * s).toNat).map f)]) := fun B =>
    lc_map (fun d => EW s slot grp hd e7 (some d) e12 k (some (.ref j)) e15) f (by rw [upto_len]; simp [line]; omega) rfl (fun _ _ => rfl) (fun d _ G => rfl) (fun d hd G => by
      obtain ⟨x, rfl⟩ := mem_upto hd
      simp [EW, hsz, f])
  have hp : purs 59 ((upto 0 (3 * s).toNat).map f) = true := by
    rw [purs_iff]
    intro d hd
    obtain ⟨c, hc, rfl⟩ := List.mem_map.mp hd
    obtain ⟨x, rfl⟩ := mem_upto hc
    simp [f]
  simp only [EW] at q1 q2
  have eq : opEq [.ref A.length, .ref (A.length + 1)] (A ++ [O.lst ((upto 0 (3 * s).toNat).map f), O.lst ((upto 0 (3 * s).toNat).map f)]) = .ok (.bl true) (A ++ [O.lst ((upto 0 (3 * s).toNat).map f), O.lst ((upto 0 (3 * s).toNat).map f)]) := by
    rw [opEq_lst (xs := (upto 0 (3 * s).toNat).map f) (ys := (upto 0 (3 * s).toNat).map f) (by simp) (by simp) hp hp]
    simp
  simp [st_law_11, EW, w1, w2, small_of (show 0 ≤ 3 * s by omega) (by omega), q1, q2, eq]
  exact hR _
theorem pure_law (ns : List Int) (h : ns.length ≤ 63) : ∃ B, F_law [.ref 0] [.rol (ns.map D.int)] = .ok (.bl true) B := by
  have main : (F_law [.ref 0] [.rol (ns.map D.int)]).sat fun d _ => d = .bl true := by
    refine sat_def rfl ?_
    have hR : ∀ B, (gc [.rol (ns.map D.int)] (.bl true) B).sat fun d _ => d = .bl true := fun B => gc_bl _ _ _
    unfold b_law
    refine seq_sat (P0 ns) s0 fun E A h0 => ?_
    refine seq_sat _ (s1 h0) fun E A h1 => ?_
    obtain ⟨s, h1⟩ := h1
    have hs : 1 ≤ s ∧ s ≤ 8 := by
      have := h1.1
      omega
    refine seq_sat _ (s23 h1) fun E A h2 => ?_
    refine seq_sat _ h2 fun E A h3 => ?_
    obtain ⟨g0, sl0, h3⟩ := h3
    refine seq_sat _ (s4 hs h3) fun E A h4 => ?_
    refine seq_sat _ (s5 hs h4) fun E A h5 => ?_
    obtain ⟨slot, grp, hg, h5⟩ := h5
    refine seq_sat _ (s6 hs h5) fun E A h6 => ?_
    obtain ⟨k, row, hk, h6⟩ := h6
    refine seq_sat _ (s7 hs hk h6) fun E A h7 => ?_
    refine seq_sat _ (s8 hs h7) fun E A h8 => ?_
    obtain ⟨e7, e11, e12, j, rfl, hS, hD, hj⟩ := h8
    refine seq_sat _ (s9 hs hS hD hj) fun E A h9 => ?_
    obtain ⟨rfl, hS, hD⟩ := h9
    refine seq_sat _ (s10 hs hg hk ⟨e7, e11, e12, none, rfl, hS, hD⟩) fun E A h10 => ?_
    exact s11 hs h10 hR
  obtain ⟨a, B, e, rfl⟩ := sat_iff.mp main
  exact ⟨B, e⟩
end Lw
set_option Elab.async false
set_option linter.all false
set_option maxRecDepth 100000
set_option maxHeartbeats 0
open PySem PySem.W PySem.Calls PyProof.Rows
theorem PySem.Challenge.cw_plugproof_k32_whole_groups_holds : PySem.Challenge.rw_plugproof_k32_whole_groups.Holds := by
  w_on; o_law
  refine HandSHeadRun.head_any (r := OpenLaw.row PySem.Challenge.rw_plugproof_k32_whole_groups) (q := view (OpenLaw.row PySem.Challenge.rw_plugproof_k32_whole_groups).prog [30]) (H := Lw.hk) (ob := Lw.ob) (M := 4000) (loose := Lw.names) (d := HandSHeadRun.topDef (OpenLaw.row PySem.Challenge.rw_plugproof_k32_whole_groups).prog 30) (kwd := []) Lw.ob_eq
    (by kernel_rfl) (fun s => by kernel_rfl) Lw.run (by kernel_rfl) (by kernel_rfl) (by kernel_rfl) (by rfl) (by first | assumption | decide +kernel) (by decide +kernel) ⟨rfl, rfl, rfl, rfl, rfl, by decide +kernel⟩ ?hw ?hc
  case hw => w_witness2
  case hc =>
    refine L2.walk_ofE (l := PySem.Challenge.rw_plugproof_k32_whole_groups) (n := 63) (k := 6) (x := "_law_script") (CX := DL.CXE) rfl (by decide) (by kernel_rfl) ⟨rfl, by decide, by decide⟩ ?F DL.cxe_none
    intro w mg fa h Y G hmg0
    obtain ⟨K, KX, c⟩ := Y
    have hmg : mg ("law" : PySem.Str) = some (.ref fa) := by
      have e : (HandSHeadRun.topDef (OpenLaw.row PySem.Challenge.rw_plugproof_k32_whole_groups).prog 30).name = ("law" : PySem.Str) := by kernel_rfl
      rw [← e]
      exact hmg0
    have S : Lw.Sys K mg := ⟨c, h, KX, G⟩
    have e : fa = He.ga K "law" := by
      have q := hmg.symm.trans (Lw.g_law S)
      cases q
      rfl
    subst e
    obtain ⟨fd, F⟩ := Lw.lawfd S
    exact ⟨K, fd, _, KX, Lw.law_b F, fun H a ns hl _ hS => DL.end_law hS (Lw.pure_law ns hl), fun base _ _ => DL.wide (Lw.ok_law_F S F)⟩
