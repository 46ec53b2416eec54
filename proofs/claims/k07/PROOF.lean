import PyProof.Rows.All
import HandS.HeadHook1
import HandS.HeadHook2
import PyProof.P3Statements
import PyProof.EqLayable
import HandS.ForMost
import HandS.Exc
import HandS.WordsExc
import HandS.Defaults
import HandS.Style
import HandS.TupMul
import HandS.TupAny
import HandS.SortInts
import HandS.IsInst
import HandS.Zip
import HandS.DictComp
import HandS.CallSlots
import KE.KStar
import KE.GoesMore
import KE.GoesEnum
import HandS.Conv
import KE.KDictList
import HandS.Small
import HandS.Deep
import HandS.SetFor
import HandS.More
import HandS.Dict
import KE.DataMinMax
import KE.DataEq
import HandS.HeadEnd
import Wide.All
import OpenK.AllK
import Wide.FinOn
import KE.KStateDown
import Lean
import HandS.Head0
import HandS.Head1
import HandS.Head2
import PySem.Challenge.RW_plugproof_k07_whole_synced
import KE.DatumOrd
set_option Elab.async false
set_option linter.all false
set_option maxRecDepth 100000
/-! The head's facts with names that stand for None (own work). -/
namespace DL
open PySem PySem.Spec PyProof.Rows L2
def nonB (K : PySem.W.Frag) (x : Str) : Bool := He.eqO (PySem.W.nsIn K mainGlobals x) (some (some .none))
abbrev AlN : Type := Bool × He.AlD
def obsN (nn : List Str) (fa : List He.Fa) (fn : List He.DefD) (K : PySem.W.Frag) : AlN := (nn.all (nonB K), He.obsD fa fn K)
def valN (fn : List He.DefD) : AlN := (true, He.valD fn)
def obsNG (n : Nat) (nn : List Str) (fa : List He.Fa) (fn : List He.DefD) (g : Addr → Option Obj) : AlN := obsN nn fa fn (He.frG g (He.asD g n))
def SaysN (nn : List Str) (K : PySem.W.Frag) : Prop := nn.all (nonB K) = true
def hookN (n : Nat) (nn : List Str) (fa : List He.Fa) (fn : List He.DefD) : PySem.W.Hook where
  α := AlN
  obs := fun s => obsNG n nn fa fn s.heap.get?
  val := fun _ => valN fn
  says := fun _ h => ∃ K : PySem.W.Frag, K.In h ∧ He.SaysD fa fn K ∧ SaysN nn K
  of := fun _ _ e => ⟨_, He.frG_in, congrArg (fun z : AlN => z.2) e, congrArg (fun z : AlN => z.1) e⟩
  keeps := fun _ _ _ ⟨K, hK, c⟩ k => ⟨K, PySem.W.Frag.In.keeps hK k, c⟩
theorem obsNG_eq {n : Nat} {nn : List Str} {fa : List He.Fa} {fn : List He.DefD} {g : Addr → Option Obj} {s : Shared} (h : ∀ a, g a = s.heap.get? a) : obsNG n nn fa fn g = (hookN n nn fa fn).obs s := by
  have e : g = s.heap.get? := funext h
  rw [e] <;> rfl
theorem non_ok {K : PySem.W.Frag} {h : Heap} {mg : Str → Option Value} {nn : List Str} {x : Str} (X : K.In h) (G : h.Ns mainGlobals mg) (c : SaysN nn K) (i : Nat) (hx : nn[i]? = some x) : mg x = some .none :=
  PySem.W.mg_of X G (He.eqO_ok (List.all_eq_true.mp c x (List.mem_of_getElem? hx)))
end DL
set_option Elab.async false
set_option linter.all false
/-! The classes and the attributes of this law's text by number (printed). -/
namespace DL
open PySem
def clsN : List Str := (["Disk", "Store", "StoreError", "BadPlate", "BadCells", "TooGreat", "BadChoice", "NoHead", "BadMoment"] : List Str)
def fldN : List Str := (["settled", "loose", "plates", "slots", "begin", "device", "trace", "head", "groups", "cells", "next_group", "next_slot", "running", "running_deeds", "pushed", "deeds", "settled_deeds", "plate", "many"] : List Str)
end DL
set_option Elab.async false
set_option linter.all false
set_option maxRecDepth 100000
set_option maxHeartbeats 4000000
/-! Data, abstract heaps and what Python's constructs do over them: plain functions (own work). -/
namespace DL
open PySem

/-- a value: pure data, or the number of an abstract object -/
inductive D where
  | non | bl (b : Bool) | int (i : Int) | str (x : Str) | tup (ds : List D) | ref (n : Nat)
  deriving Inhabited

mutual
def D.bd (n : Nat) : D → Bool
  | .tup ds => bdAll n ds
  | .ref i => decide (i < n)
  | .non => true
  | .bl _ => true
  | .int _ => true
  | .str _ => true
def bdAll (n : Nat) : List D → Bool
  | [] => true
  | d :: ds => D.bd n d && bdAll n ds
end

/-- an abstract object: a list, a list that is only read, a dict (keys ints, texts; tuples of these), an instance of the class numbered c, a dict that is walked -/
inductive O where
  | lst (ds : List D) | rol (ds : List D) | dic (kvs : List (D × D)) | dit (kvs : List (D × D)) | ins (c : Nat) (fs : List (Nat × D)) | fro (kvs : List (D × D))
  deriving Inhabited
def O.bd (n : Nat) : O → Bool
  | .lst ds => bdAll n ds
  | .rol ds => bdAll n ds
  | .dic kvs => kvs.all fun p => D.bd n p.1 && D.bd n p.2
  | .dit kvs => kvs.all fun p => D.bd n p.1 && D.bd n p.2
  | .ins _ fs => fs.all fun p => D.bd n p.2
  | .fro kvs => kvs.all fun p => D.bd n p.1 && D.bd n p.2
def O.mut : O → Bool
  | .rol _ => false
  | _ => true
abbrev AH := List O
abbrev Env := List (Option D)
structure Exn where
  cls : Nat
  fs : List (Nat × D)

/-- how an expression ends -/
inductive Res (α : Type) where
  | ok (a : α) (A : AH) | exc (x : Exn) (A : AH) | bad
def Res.bind {α β : Type} (r : Res α) (f : α → AH → Res β) : Res β := match r with
  | .ok a A => f a A
  | .exc x A => .exc x A
  | .bad => .bad
@[simp] theorem bind_ok {α β : Type} (a : α) (A : AH) (f : α → AH → Res β) : (Res.ok a A).bind f = f a A := rfl
@[simp] theorem bind_exc {α β : Type} (x : Exn) (A : AH) (f : α → AH → Res β) : (Res.exc x A : Res α).bind f = .exc x A := rfl
@[simp] theorem bind_bad {α β : Type} (f : α → AH → Res β) : (Res.bad : Res α).bind f = .bad := rfl

/-- .. where nothing is raised -/
def Res.bindN {α β : Type} (r : Res α) (f : α → AH → Res β) : Res β := match r with
  | .ok a A => f a A
  | _ => .bad
@[simp] theorem bindN_ok {α β : Type} (a : α) (A : AH) (f : α → AH → Res β) : (Res.ok a A).bindN f = f a A := rfl
abbrev Ex := Env → AH → Res D
abbrev Tx := Env → AH → Res Bool
abbrev Ax := Env → AH → Res (List D)
/-- what a def, an operation does with its arguments -/
abbrev Fn := List D → AH → Res D

/-- how a statement ends -/
inductive SRes where
  | nx (E : Env) (A : AH) | rt (d : D) (A : AH) | bk (E : Env) (A : AH) | ct (E : Env) (A : AH) | exc (x : Exn) (E : Env) (A : AH) | bad
abbrev Sx := Env → AH → SRes
def Res.then {α : Type} (r : Res α) (E : Env) (f : α → AH → SRes) : SRes := match r with
  | .ok a A => f a A
  | .exc x A => .exc x E A
  | .bad => .bad
@[simp] theorem then_ok {α : Type} (a : α) (A : AH) (E : Env) (f : α → AH → SRes) : (Res.ok a A).then E f = f a A := rfl
@[simp] theorem then_exc {α : Type} (x : Exn) (A : AH) (E : Env) (f : α → AH → SRes) : (Res.exc x A : Res α).then E f = .exc x E A := rfl
@[simp] theorem then_bad {α : Type} (E : Env) (f : α → AH → SRes) : (Res.bad : Res α).then E f = .bad := rfl
def SRes.seq (r : SRes) (f : Sx) : SRes := match r with
  | .nx E A => f E A
  | .rt d A => .rt d A
  | .bk E A => .bk E A
  | .ct E A => .ct E A
  | .exc x E A => .exc x E A
  | .bad => .bad
@[simp] theorem seq_nx (E : Env) (A : AH) (f : Sx) : (SRes.nx E A).seq f = f E A := rfl
@[simp] theorem seq_rt (d : D) (A : AH) (f : Sx) : (SRes.rt d A).seq f = .rt d A := rfl
@[simp] theorem seq_bk (E : Env) (A : AH) (f : Sx) : (SRes.bk E A).seq f = .bk E A := rfl
@[simp] theorem seq_ct (E : Env) (A : AH) (f : Sx) : (SRes.ct E A).seq f = .ct E A := rfl
@[simp] theorem seq_exc (x : Exn) (E : Env) (A : AH) (f : Sx) : (SRes.exc x E A).seq f = .exc x E A := rfl
@[simp] theorem seq_bad (f : Sx) : SRes.bad.seq f = .bad := rfl
/-- a store ends in the next state, or raises -/
def SRes.only : SRes → SRes
  | .nx E A => .nx E A
  | .exc x E A => .exc x E A
  | _ => .bad
@[simp] theorem only_nx (E : Env) (A : AH) : (SRes.nx E A).only = .nx E A := rfl
@[simp] theorem only_exc (x : Exn) (E : Env) (A : AH) : (SRes.exc x E A).only = .exc x E A := rfl
@[simp] theorem only_bad : SRes.bad.only = .bad := rfl
def okS (E : Env) : Option AH → SRes
  | some A => .nx E A
  | none => .bad
@[simp] theorem okS_some (E : Env) (A : AH) : okS E (some A) = .nx E A := rfl
@[simp] theorem okS_none (E : Env) : okS E none = .bad := rfl

/-! ### expressions; each continuation has a name (so that nothing is looked at ahead of its turn) -/
def okD (A : AH) : Option (Option D) → Res D
  | some (some d) => .ok d A
  | _ => .bad
@[simp] theorem okD_some (A : AH) (d : D) : okD A (some (some d)) = .ok d A := rfl
def eVar (i : Nat) : Ex := fun E A => okD A E[i]?
def eC (d : D) : Ex := fun _ A => .ok d A
def aNil : Ax := fun _ A => .ok [] A
def kCons2 (d : D) : List D → AH → Res (List D) := fun ds A => .ok (d :: ds) A
def kCons (r : Ax) (E : Env) : D → AH → Res (List D) := fun d A => (r E A).bind (kCons2 d)
def aCons (e : Ex) (r : Ax) : Ax := fun E A => (e E A).bind (kCons r E)
/-- an operation of evaluated arguments -/
def eF (F : Fn) (a : Ax) : Ex := fun E A => (a E A).bind F
/-- a method of an instance of the class c -/
def isIns (c : Nat) (A : AH) : D → Bool
  | .ref i => (match A[i]? with
    | some (.ins c' _) => c == c'
    | _ => false)
  | _ => false
def kM2 (F : Fn) (x : D) : List D → AH → Res D := fun ds A => F (x :: ds) A
def kM (c : Nat) (F : Fn) (a : Ax) (E : Env) : D → AH → Res D := fun x A => if isIns c A x = true then (a E A).bind (kM2 F x) else .bad
def eM (c : Nat) (F : Fn) (o : Ex) (a : Ax) : Ex := fun E A => (o E A).bind (kM c F a E)
def kB : D → AH → Res Bool
  | .bl b, A => .ok b A
  | _, _ => .bad
def tB (e : Ex) : Tx := fun E A => (e E A).bind kB
def kAnd (u : Tx) (E : Env) : Bool → AH → Res Bool := fun b A => if b = true then u E A else .ok false A
def tAnd (t u : Tx) : Tx := fun E A => (t E A).bind (kAnd u E)
def kOr (u : Tx) (E : Env) : Bool → AH → Res Bool := fun b A => if b = true then .ok true A else u E A
def tOr (t u : Tx) : Tx := fun E A => (t E A).bind (kOr u E)
def kNot : Bool → AH → Res Bool := fun b A => .ok (!b) A
def tNot (t : Tx) : Tx := fun E A => (t E A).bind kNot
def kIf (a b : Ex) (E : Env) : Bool → AH → Res D := fun c A => if c = true then a E A else b E A
def eIf (t : Tx) (a b : Ex) : Ex := fun E A => (t E A).bind (kIf a b E)
/-- and, or of bools as values -/
def kAndV (b : Ex) (E : Env) : D → AH → Res D
  | .bl c, A => if c = true then b E A else .ok (.bl false) A
  | _, _ => .bad
def eAnd (a b : Ex) : Ex := fun E A => (a E A).bind (kAndV b E)
def kOrV (b : Ex) (E : Env) : D → AH → Res D
  | .bl c, A => if c = true then .ok (.bl true) A else b E A
  | _, _ => .bad
def eOr (a b : Ex) : Ex := fun E A => (a E A).bind (kOrV b E)
def kNotV : D → AH → Res D
  | .bl c, A => .ok (.bl (!c)) A
  | _, _ => .bad
def eNot (a : Ex) : Ex := fun E A => (a E A).bind kNotV
/-- a < b < c -/
def kCh4 (G : Fn) (y : D) : D → AH → Res D := fun w A => G [y, w] A
def kCh3 (G : Fn) (c : Ex) (E : Env) (y : D) : D → AH → Res D
  | .bl k, A => if k = true then (c E A).bind (kCh4 G y) else .ok (.bl false) A
  | _, _ => .bad
def kCh2 (F G : Fn) (c : Ex) (E : Env) (x : D) : D → AH → Res D := fun y A => (F [x, y] A).bind (kCh3 G c E y)
def kCh (F G : Fn) (b c : Ex) (E : Env) : D → AH → Res D := fun x A => (b E A).bind (kCh2 F G c E x)
def eChain (F G : Fn) (a b c : Ex) : Ex := fun E A => (a E A).bind (kCh F G b c E)

/-! ### statements -/
def sNop : Sx := fun E A => .nx E A
def sSeq (a b : Sx) : Sx := fun E A => (a E A).seq b
def kDrop (E : Env) : D → AH → SRes := fun _ A => .nx E A
def sDrop (e : Ex) : Sx := fun E A => (e E A).then E (kDrop E)
def kRet : D → AH → SRes := fun d A => .rt d A
def sRet (e : Ex) : Sx := fun E A => (e E A).then E kRet
def sRetN : Sx := fun _ A => .rt .non A
def sBrk : Sx := fun E A => .bk E A
def sCnt : Sx := fun E A => .ct E A
def sBad : Sx := fun _ _ => .bad
def kIfS (a b : Sx) (E : Env) : Bool → AH → SRes := fun c A => if c = true then a E A else b E A
def sIf (t : Tx) (a b : Sx) : Sx := fun E A => (t E A).then E (kIfS a b E)
/-- targets -/
abbrev Gx := D → Env → AH → SRes
def gName (i : Nat) : Gx := fun d E A => .nx (E.set i (some d)) A
abbrev Gsx := List D → Env → AH → SRes
def gNil : Gsx
  | [], E, A => .nx E A
  | _ :: _, _, _ => .bad
def gCons (g : Gx) (r : Gsx) : Gsx
  | d :: ds, E, A => (g d E A).only.seq (r ds)
  | [], _, _ => .bad
def gTup (n : Nat) (r : Gsx) : Gx
  | .tup ds, E, A => if ds.length = n then r ds E A else .bad
  | _, _, _ => .bad
/-- o[i] = d, by values -/
abbrev Stx := D → D → D → AH → Option AH
def kSub2 (S : Stx) (d : D) (E : Env) (x : D) : D → AH → SRes := fun y A => okS E (S x y d A)
def kSub (S : Stx) (i : Ex) (d : D) (E : Env) : D → AH → SRes := fun x A => (i E A).then E (kSub2 S d E x)
def gSub (o i : Ex) (S : Stx) : Gx := fun d E A => (o E A).then E (kSub S i d E)
def kAsg (g : Gx) (E : Env) : D → AH → SRes := fun d A => (g d E A).only
def sAsg (e : Ex) (g : Gx) : Sx := fun E A => (e E A).then E (kAsg g E)
def kSet (i : Nat) (E : Env) : D → AH → SRes := fun d A => .nx (E.set i (some d)) A
def kPar (i j : Nat) (E : Env) : List D → AH → SRes
  | [x, y], A => .nx ((E.set i (some x)).set j (some y)) A
  | _, _ => .bad
def sPar (i j : Nat) (a : Ax) : Sx := fun E A => (a E A).then E (kPar i j E)
def kAug2 (i : Nat) (F : Fn) (E : Env) (d : D) : D → AH → SRes := fun y A => (F [d, y] A).then E (kSet i E)
def kAug (i : Nat) (e : Ex) (F : Fn) (E : Env) : D → AH → SRes := fun d A => (e E A).then E (kAug2 i F E d)
def sAug (i : Nat) (e : Ex) (F : Fn) : Sx := fun E A => (okD A E[i]?).then E (kAug i e F E)
def kAS5 (S : Stx) (E : Env) (x y : D) : D → AH → SRes := fun z A => okS E (S x y z A)
def kAS4 (F : Fn) (S : Stx) (E : Env) (x y old : D) : D → AH → SRes := fun d A => (F [old, d] A).then E (kAS5 S E x y)
def kAS3 (e : Ex) (F : Fn) (S : Stx) (E : Env) (x y : D) : D → AH → SRes := fun old A => (e E A).then E (kAS4 F S E x y old)
def kAS2 (e : Ex) (G F : Fn) (S : Stx) (E : Env) (x : D) : D → AH → SRes := fun y A => (G [x, y] A).then E (kAS3 e F S E x y)
def kAS1 (i e : Ex) (G F : Fn) (S : Stx) (E : Env) : D → AH → SRes := fun x A => (i E A).then E (kAS2 e G F S E x)
def sAugS (o i e : Ex) (G F : Fn) (S : Stx) : Sx := fun E A => (o E A).then E (kAS1 i e G F S E)
def setF (n : Nat) (d : D) : List (Nat × D) → List (Nat × D)
  | [] => [(n, d)]
  | (m, c) :: r => if m = n then (m, d) :: r else (m, c) :: setF n d r
def lookF (n : Nat) : List (Nat × D) → Option D
  | [] => none
  | (m, c) :: r => if m = n then some c else lookF n r
/-- an attribute, read and stored; cs: the classes whose instances are met here -/
def oFld (cs : List Nat) (n : Nat) (A : AH) : Option O → Res D
  | some (.ins c fs) => if c ∈ cs then okD A (some (lookF n fs)) else .bad
  | _ => .bad
def fFld (cs : List Nat) (n : Nat) : Fn
  | [.ref i], A => oFld cs n A A[i]?
  | _, _ => .bad
def oPut (cs : List Nat) (n : Nat) (i : Nat) (d : D) (A : AH) : Option O → Option AH
  | some (.ins c fs) => if c ∈ cs ∧ fs.length < 1000 then some (A.set i (.ins c (setF n d fs))) else none
  | _ => none
def putFld (cs : List Nat) (n : Nat) (d : D) (A : AH) : D → Option AH
  | .ref i => oPut cs n i d A A[i]?
  | _ => none
def kFld2 (cs : List Nat) (n : Nat) (E : Env) (d : D) : D → AH → SRes := fun x A => okS E (putFld cs n d A x)
def kFld (cs : List Nat) (n : Nat) (o : Ex) (E : Env) : D → AH → SRes := fun d A => (o E A).then E (kFld2 cs n E d)
def sFld (cs : List Nat) (n : Nat) (o e : Ex) : Sx := fun E A => (e E A).then E (kFld cs n o E)
def kFA4 (cs : List Nat) (n : Nat) (E : Env) (x : D) : D → AH → SRes := fun z A => okS E (putFld cs n z A x)
def kFA3 (cs : List Nat) (n : Nat) (F : Fn) (E : Env) (x old : D) : D → AH → SRes := fun d A => (F [old, d] A).then E (kFA4 cs n E x)
def kFA2 (cs : List Nat) (n : Nat) (e : Ex) (F : Fn) (E : Env) (x : D) : D → AH → SRes := fun old A => (e E A).then E (kFA3 cs n F E x old)
def kFA1 (cs : List Nat) (n : Nat) (e : Ex) (F : Fn) (E : Env) : D → AH → SRes := fun x A => (fFld cs n [x] A).then E (kFA2 cs n e F E x)
def sFldAug (cs : List Nat) (n : Nat) (o e : Ex) (F : Fn) : Sx := fun E A => (o E A).then E (kFA1 cs n e F E)

/-! ### what is walked -/
inductive Src where
  | seq (ds : List D) | lst (i : Nat) | enum (i : Nat)
inductive Step where
  | item (d : D) | stop | bad
def seqO : Option O → Option (List D)
  | some (.lst ds) => some ds
  | some (.rol ds) => some ds
  | _ => none
def seqAt (A : AH) (i : Nat) : Option (List D) := seqO A[i]?
def stepO : Option D → Step
  | some d => .item d
  | none => .stop
def stepE (k : Nat) : Option D → Step
  | some d => .item (.tup [.int k, d])
  | none => .stop
def Src.at (A : AH) (k : Nat) : Src → Step
  | .seq ds => stepO ds[k]?
  | .lst i => (match seqAt A i with
    | some ds => stepO ds[k]?
    | none => .bad)
  | .enum i => (match seqAt A i with
    | some ds => stepE k ds[k]?
    | none => .bad)
def Src.size (A : AH) : Src → Nat
  | .seq ds => ds.length
  | .lst i => ((seqAt A i).getD []).length
  | .enum i => ((seqAt A i).getD []).length
abbrev Ix := Env → AH → Res Src
def SRes.turn (r : SRes) (f : Sx) : SRes := match r with
  | .nx E A => f E A
  | .ct E A => f E A
  | .bk E A => .nx E A
  | .rt d A => .rt d A
  | .exc x E A => .exc x E A
  | .bad => .bad
@[simp] theorem turn_nx (E : Env) (A : AH) (f : Sx) : (SRes.nx E A).turn f = f E A := rfl
@[simp] theorem turn_ct (E : Env) (A : AH) (f : Sx) : (SRes.ct E A).turn f = f E A := rfl
@[simp] theorem turn_bk (E : Env) (A : AH) (f : Sx) : (SRes.bk E A).turn f = .nx E A := rfl
@[simp] theorem turn_rt (d : D) (A : AH) (f : Sx) : (SRes.rt d A).turn f = .rt d A := rfl
@[simp] theorem turn_exc (x : Exn) (E : Env) (A : AH) (f : Sx) : (SRes.exc x E A).turn f = .exc x E A := rfl
@[simp] theorem turn_bad (f : Sx) : SRes.bad.turn f = .bad := rfl
/-- one turn of a for; f: the turns behind it -/
def forK (g : Gx) (b f : Sx) (E : Env) (A : AH) : Step → SRes
  | .stop => .nx E A
  | .bad => .bad
  | .item d => ((g d E A).only.seq b).turn f
def forN (src : Src) (g : Gx) (b : Sx) : Nat → Nat → Env → AH → SRes
  | 0, _, _, _ => .bad
  | n + 1, k, E, A => forK g b (forN src g b n (k + 1)) E A (src.at A k)
def kFor (g : Gx) (b : Sx) (E : Env) : Src → AH → SRes := fun src A => forN src g b (src.size A + 1) 0 E A
def sFor (it : Ix) (g : Gx) (b : Sx) : Sx := fun E A => (it E A).then E (kFor g b E)
def kWh (b f : Sx) (E : Env) : Bool → AH → SRes := fun c A => if c = true then (b E A).turn f else .nx E A
def whileN (t : Tx) (b : Sx) : Nat → Env → AH → SRes
  | 0, _, _ => .bad
  | n + 1, E, A => (t E A).then E (kWh b (whileN t b n) E)
def fuel : Nat := 1000000
def sWhile (t : Tx) (b : Sx) : Sx := fun E A => whileN t b fuel E A
/-- iterators -/
def okI (s : Src) (A : AH) : Option (List D) → Res Src
  | some _ => .ok s A
  | none => .bad
def kSeq : D → AH → Res Src
  | .tup ds, A => .ok (.seq ds) A
  | .ref i, A => okI (.lst i) A (seqAt A i)
  | _, _ => .bad
def iSeq (e : Ex) : Ix := fun E A => (e E A).bind kSeq
def small62 (i : Int) : Bool := decide (-(2 ^ 62) ≤ i) && decide (i < 2 ^ 62)
def upto (lo : Int) (n : Nat) : List D := (List.range n).map fun (i : Nat) => D.int (lo + i)
def kRng1 : List D → AH → Res Src
  | [.int j], A => if small62 j = true then .ok (.seq (upto 0 j.toNat)) A else .bad
  | _, _ => .bad
def iRng1 (a : Ax) : Ix := fun E A => (a E A).bind kRng1
def kRng2 : List D → AH → Res Src
  | [.int i, .int j], A => if (small62 i && small62 j) = true then .ok (.seq (upto i (j - i).toNat)) A else .bad
  | _, _ => .bad
def iRng2 (a : Ax) : Ix := fun E A => (a E A).bind kRng2
def enumD : Nat → List D → List D
  | _, [] => []
  | k, d :: ds => .tup [.int k, d] :: enumD (k + 1) ds
def kEnum : List D → AH → Res Src
  | [.tup ds], A => .ok (.seq (enumD 0 ds)) A
  | [.ref i], A => okI (.enum i) A (seqAt A i)
  | _, _ => .bad
def iEnum (a : Ax) : Ix := fun E A => (a E A).bind kEnum

/-! ### comprehensions: the new list stands at its number from the start -/
def line : Nat := 16777216
def addO (n : Nat) (d : D) (A : AH) : Option O → Option AH
  | some (.lst acc) => if acc.length < line then some (A.set n (.lst (acc ++ [d]))) else none
  | _ => none
def addTo (n : Nat) (d : D) (A : AH) : Option AH := addO n d A A[n]?
/-- own: the comprehension's slots (they are empty ahead of each turn) -/
def wipeE (E : Env) : List Nat → Env
  | [] => E
  | v :: vs => (wipeE E vs).set v none
def okA (f : AH → Res D) : Option AH → Res D
  | some A => f A
  | none => .bad
def kLc3 (n : Nat) (f : AH → Res D) : D → AH → Res D := fun y A => okA f (addTo n y A)
def kLc2 (e : Ex) (E : Env) (n : Nat) (f : AH → Res D) : Bool → AH → Res D := fun b A => if b = true then (e E A).bindN (kLc3 n f) else f A
def kLc1 (t : Tx) (e : Ex) (n : Nat) (f : AH → Res D) : SRes → Res D
  | .nx E A => (t E A).bindN (kLc2 e E n f)
  | _ => .bad
def lcK (g : Gx) (t : Tx) (e : Ex) (E : Env) (n : Nat) (f : AH → Res D) (A : AH) : Step → Res D
  | .stop => .ok (.ref n) A
  | .bad => .bad
  | .item d => kLc1 t e n f (g d E A)
def lcN (src : Src) (g : Gx) (t : Tx) (e : Ex) (E : Env) (at_ : Nat) : Nat → Nat → AH → Res D
  | 0, _, _ => .bad
  | n + 1, k, A => lcK g t e E at_ (lcN src g t e E at_ n (k + 1)) A (src.at A k)
def tYes : Tx := fun _ A => .ok true A
def kLc (g : Gx) (t : Tx) (e : Ex) (E : Env) : Src → AH → Res D := fun src A => lcN src g t e E A.length (src.size A + 1) 0 (A ++ [.lst []])
def eLc (it : Ix) (g : Gx) (t : Tx) (e : Ex) (own : List Nat) : Ex := fun E A => (it E A).bind (kLc g t e (wipeE E own))

/-! ### calls of the program's own defs -/
def okPre (A B : AH) : Prop := B.length = A.length ∧ ∀ (j : Nat) (o : O), B[j]? = some o → A[j]? = some o ∨ o.bd A.length = true
/-- the value of the fresh object that is handed back -/
def refO (A B : AH) : D → Option O
  | .ref i => if A.length ≤ i then B[i]? else none
  | _ => none
open Classical in
noncomputable def gcO (A : AH) (d : D) (B : AH) : Option O → Res D
  | some o => if o.mut = true ∧ o.bd A.length = true ∧ okPre A (B.take A.length) then .ok (.ref A.length) (B.take A.length ++ [o]) else .ok d B
  | none => .ok d B
open Classical in
/-- behind a call what the caller cannot reach is let go -/
noncomputable def gc (A : AH) (d : D) (B : AH) : Res D :=
  if d.bd A.length = true ∧ okPre A (B.take A.length) then .ok d (B.take A.length) else gcO A d B (refO A B d)
open Classical in
noncomputable def gcX (A : AH) (x : Exn) (B : AH) : Res D :=
  if (x.fs.all fun p => p.2.bd A.length) = true ∧ okPre A (B.take A.length) then .exc x (B.take A.length) else .exc x B
def startE (N : Nat) (ds : List D) : Env := ds.map some ++ List.replicate (N - ds.length) none
noncomputable def endF (A : AH) : SRes → Res D
  | .nx _ B => gc A .non B
  | .rt d B => gc A d B
  | .exc x _ B => gcX A x B
  | _ => .bad
/-- a def of np parameters and N names -/
noncomputable def runDef (np N : Nat) (b : Sx) : Fn := fun ds A => if ds.length = np then endF A (b (startE N ds) A) else .bad
/-- a new instance of the class c, then its __init__ -/
def kMk (n : Nat) : D → AH → Res D
  | .non, A => .ok (.ref n) A
  | _, _ => .bad
def mkIns (c : Nat) (F : Fn) : Fn := fun ds A => (F (.ref A.length :: ds) (A ++ [.ins c []])).bind (kMk A.length)
end DL
set_option Elab.async false
set_option linter.all false
set_option maxRecDepth 100000
set_option maxHeartbeats 4000000
/-! The operations, as plain functions (own work). -/
namespace DL
open PySem
/-! ### displays -/
def mkTup : Fn := fun ds A => if ds.length ≤ line then .ok (.tup ds) A else .bad
def mkLst : Fn := fun ds A => if ds.length ≤ line then .ok (.ref A.length) (A ++ [.lst ds]) else .bad
def mkDic : Fn
  | [], A => .ok (.ref A.length) (A ++ [.dic []])
  | _ :: _, _ => .bad
/-- {}, to have tuples for keys -/
def mkDit : Fn
  | [], A => .ok (.ref A.length) (A ++ [.dit []])
  | _ :: _, _ => .bad
/-- *e among others: the items of a list or a tuple -/
def itemsO (A : AH) : Option (List D) → Res (List D)
  | some ds => .ok ds A
  | none => .bad
def seqStar : Option O → Option (List D)
  | some (.lst ds) => some ds
  | some (.rol ds) => some ds
  | some (.dic kvs) => some (kvs.map (·.1))
  | _ => none
def itemsOf : D → AH → Res (List D)
  | .tup ds, A => .ok ds A
  | .ref i, A => itemsO A (seqStar A[i]?)
  | _, _ => .bad
def kStar2 (ds : List D) : List D → AH → Res (List D) := fun es A => .ok (ds ++ es) A
def kStar1 (r : Ax) (E : Env) : List D → AH → Res (List D) := fun ds A => (r E A).bind (kStar2 ds)
def kStar (r : Ax) (E : Env) : D → AH → Res (List D) := fun d A => (itemsOf d A).bind (kStar1 r E)
def aStar (e : Ex) (r : Ax) : Ax := fun E A => (e E A).bind (kStar r E)

/-! ### numbers, texts -/
def tooWide (i : Int) : Bool := !(decide (-(2 ^ 64) < i) && decide (i < 2 ^ 64))
def lstO (A : AH) (xs : List D) (n : Nat) : Res D := if n ≤ line then .ok (.ref A.length) (A ++ [.lst xs]) else .bad
def lst2 (A : AH) : Option O → Option O → Res D
  | some (.lst xs), some (.lst ys) => lstO A (xs ++ ys) (xs.length + ys.length)
  | _, _ => .bad
def opAdd : Fn
  | [.int i, .int j], A => .ok (.int (i + j)) A
  | [.str x, .str y], A => if x.length + y.length ≤ line then .ok (.str (x ++ y)) A else .bad
  | [.tup xs, .tup ys], A => if xs.length + ys.length ≤ line then .ok (.tup (xs ++ ys)) A else .bad
  | [.ref i, .ref j], A => lst2 A A[i]? A[j]?
  | _, _ => .bad
def opSub : Fn
  | [.int i, .int j], A => .ok (.int (i - j)) A
  | _, _ => .bad
def rep (k : Int) (xs : List D) : List D := (List.replicate k.toNat xs).flatten
def mulL (A : AH) (k : Int) : Option O → Res D
  | some (.lst xs) => if -(2 ^ 63) ≤ k ∧ k < 2 ^ 63 then lstO A (rep k xs) (xs.length * k.toNat) else .bad
  | _ => .bad
def opMul : Fn
  | [.int i, .int j], A => if tooWide i && tooWide j then .bad else .ok (.int (i * j)) A
  | [.tup xs, .int k], A => if xs ≠ [] ∧ 2 ≤ k ∧ k ≤ 1000 ∧ xs.length ≤ 1000 then .ok (.tup (rep k xs)) A else .bad
  | [.ref i, .int k], A => mulL A k A[i]?
  | _, _ => .bad
def opMod : Fn
  | [.int i, .int j], A => if j ≠ 0 then .ok (.int (i.fmod j)) A else .bad
  | _, _ => .bad
def opDiv : Fn
  | [.int i, .int j], A => if j ≠ 0 ∧ j.natAbs < 1073741824 then .ok (.int (i.fdiv j)) A else .bad
  | _, _ => .bad
def opPow : Fn
  | [.int i, .int j], A => if 0 ≤ j ∧ j ≤ 1000000 ∧ i.natAbs < 2 ^ 64 then .ok (.int (i ^ j.toNat)) A else .bad
  | _, _ => .bad
def opNeg : Fn
  | [.int i], A => .ok (.int (-i)) A
  | _, _ => .bad
def opLt : Fn
  | [.int i, .int j], A => .ok (.bl (decide (i < j))) A
  | _, _ => .bad
def opLe : Fn
  | [.int i, .int j], A => .ok (.bl (decide (i ≤ j))) A
  | _, _ => .bad
def opGt : Fn
  | [.int i, .int j], A => .ok (.bl (decide (j < i))) A
  | _, _ => .bad
def opGe : Fn
  | [.int i, .int j], A => .ok (.bl (decide (j ≤ i))) A
  | _, _ => .bad
def D.isN : D → Bool
  | .non => true
  | _ => false
def opIs : Fn
  | [x, .non], A => .ok (.bl x.isN) A
  | _, _ => .bad
def opNis : Fn
  | [x, .non], A => .ok (.bl (!x.isN)) A
  | _, _ => .bad

/-! ### equality at any depth -/
def allSome {α : Type} : List (Option α) → Option (List α)
  | [] => some []
  | some a :: r => (allSome r).map (a :: ·)
  | none :: _ => none
def toPy (A : AH) : Nat → D → Option PyData
  | 0, _ => none
  | _ + 1, .non => some .none
  | _ + 1, .bl b => some (.bool b)
  | _ + 1, .int i => some (.int i)
  | _ + 1, .str x => if PyData.canLay0 (.str x) = true then some (.str x) else none
  | n + 1, .tup ds => (allSome (ds.map (toPy A n))).map .tuple
  | n + 1, .ref i => match seqAt A i with
    | some ds => (allSome (ds.map (toPy A n))).map .list
    | none => none
def eqO (A : AH) (f : Bool → Bool) : Option PyData → Option PyData → Res D
  | some p, some q => .ok (.bl (f (PyData.eqv p q))) A
  | _, _ => .bad
def opEq : Fn
  | [x, y], A => eqO A id (toPy A 60 x) (toPy A 60 y)
  | _, _ => .bad
def opNe : Fn
  | [x, y], A => eqO A not (toPy A 60 x) (toPy A 60 y)
  | _, _ => .bad

/-! ### items and slices -/
def ixD (n : Nat) (i : Int) : Option Nat := if 0 ≤ i then (if i < n then some i.toNat else none) else if -(n : Int) ≤ i then some (i + n).toNat else none
def atD (ds : List D) (i : Int) : Option D := (ixD ds.length i).bind fun j => ds[j]?
def okO (A : AH) : Option D → Res D
  | some d => .ok d A
  | none => .bad
@[simp] theorem okO_some (A : AH) (d : D) : okO A (some d) = .ok d A := rfl
def atS (A : AH) (i : Int) : Option (List D) → Res D
  | some ds => okO A (atD ds i)
  | none => .bad
def opIx : Fn
  | [.tup ds, .int i], A => okO A (atD ds i)
  | [.ref j, .int i], A => atS A i (seqAt A j)
  | _, _ => .bad
def setO (i : Nat) (j : Int) (d : D) (A : AH) : Option O → Option AH
  | some (.lst ds) => (ixD ds.length j).map fun k => A.set i (.lst (ds.set k d))
  | _ => none
def stIx : Stx := fun x y d A => match x, y with
  | .ref i, .int j => setO i j d A A[i]?
  | _, _ => none
def sIxD (n d : Nat) : Option Int → Nat
  | none => d
  | some v => if v < 0 then (v + (n : Int)).toNat else min v.toNat n
def cutD (xs : List D) (lo hi : Option Int) : List D := (xs.drop (sIxD xs.length 0 lo)).take (sIxD xs.length xs.length hi - sIxD xs.length 0 lo)
abbrev Px := Env → AH → Res (Option Int)
def pNone : Px := fun _ A => .ok none A
def kPart : D → AH → Res (Option Int)
  | .int i, A => .ok (some i) A
  | _, _ => .bad
def pSome (e : Ex) : Px := fun E A => (e E A).bind kPart
def cutS (A : AH) (lo hi : Option Int) : Option (List D) → Res D
  | some ds => .ok (.ref A.length) (A ++ [.lst (cutD ds lo hi)])
  | none => .bad
def opSl (lo hi : Option Int) (A : AH) : D → Res D
  | .tup ds => .ok (.tup (cutD ds lo hi)) A
  | .ref i => cutS A lo hi (seqAt A i)
  | _ => .bad
def kSl3 (d : D) (lo : Option Int) : Option Int → AH → Res D := fun hi A => opSl lo hi A d
def kSl2 (q : Px) (E : Env) (d : D) : Option Int → AH → Res D := fun lo A => (q E A).bind (kSl3 d lo)
def kSl1 (p q : Px) (E : Env) : D → AH → Res D := fun d A => (p E A).bind (kSl2 q E d)
def eSl (e : Ex) (p q : Px) : Ex := fun E A => (e E A).bind (kSl1 p q E)

/-! ### built-in functions and methods -/
def lenS (A : AH) : Option O → Res D
  | some (.lst ds) => .ok (.int ds.length) A
  | some (.rol ds) => .ok (.int ds.length) A
  | _ => .bad
def biLen : Fn
  | [.tup ds], A => .ok (.int ds.length) A
  | [.ref i], A => lenS A A[i]?
  | _, _ => .bad
def toLst (A : AH) : Option (List D) → Res D
  | some ds => .ok (.ref A.length) (A ++ [.lst ds])
  | none => .bad
def biList : Fn
  | [.tup ds], A => .ok (.ref A.length) (A ++ [.lst ds])
  | [.ref i], A => toLst A (seqAt A i)
  | _, _ => .bad
def toTup (A : AH) : Option (List D) → Res D
  | some ds => .ok (.tup ds) A
  | none => .bad
def biTuple : Fn
  | [.tup ds], A => .ok (.tup ds) A
  | [.ref i], A => toTup A (seqAt A i)
  | _, _ => .bad
def biInt : Fn
  | [.int i], A => .ok (.int i) A
  | [.bl b], A => .ok (.int (if b then 1 else 0)) A
  | _, _ => .bad
def biAbs : Fn
  | [.int i], A => .ok (.int (if i < 0 then -i else i)) A
  | _, _ => .bad
def D.int? : D → Option Int
  | .int i => some i
  | _ => none
def D.bl? : D → Option Bool
  | .bl b => some b
  | _ => none
def intsOf (ds : List D) : Option (List Int) := allSome (ds.map D.int?)
def blsOf (ds : List D) : Option (List Bool) := allSome (ds.map D.bl?)
def maxI (m : Int) (ns : List Int) : Int := ns.foldl max m
def maxO (A : AH) : Option (List Int) → Res D
  | some (n :: ns) => .ok (.int (maxI n ns)) A
  | _ => .bad
def biMax : Fn
  | [.ref i], A => maxO A ((seqAt A i).bind intsOf)
  | _, _ => .bad
def allO (A : AH) : Option (List Bool) → Res D
  | some bs => .ok (.bl (bs.all id)) A
  | none => .bad
def biAll : Fn
  | [.ref i], A => allO A ((seqAt A i).bind blsOf)
  | _, _ => .bad
def anyO (A : AH) : Option (List Bool) → Res D
  | some bs => .ok (.bl (bs.any id)) A
  | none => .bad
def biAny : Fn
  | [.ref i], A => anyO A ((seqAt A i).bind blsOf)
  | _, _ => .bad
def sumO (A : AH) : Option (List Int) → Res D
  | some ns => .ok (.int ns.sum) A
  | none => .bad
def biSum : Fn
  | [.ref i], A => sumO A ((seqAt A i).bind intsOf)
  | _, _ => .bad
/-- isinstance(x, T): T an int, a bool, a tuple, a list, a text -/
inductive Ty where
  | int | bool | tuple | list | str
def Ty.ofB : Ty → Bool
  | .int => true
  | .bool => true
  | _ => false
def Ty.ofI : Ty → Bool
  | .int => true
  | _ => false
def Ty.ofS : Ty → Bool
  | .str => true
  | _ => false
def Ty.ofT : Ty → Bool
  | .tuple => true
  | _ => false
def Ty.ofL : Ty → Bool
  | .list => true
  | _ => false
def tyO (t : Ty) (A : AH) : Option O → Res D
  | some (.lst _) => .ok (.bl t.ofL) A
  | _ => .bad
def biIsi (t : Ty) : Fn
  | [.non], A => .ok (.bl false) A
  | [.bl _], A => .ok (.bl t.ofB) A
  | [.int _], A => .ok (.bl t.ofI) A
  | [.str _], A => .ok (.bl t.ofS) A
  | [.tup _], A => .ok (.bl t.ofT) A
  | [.ref i], A => tyO t A A[i]?
  | _, _ => .bad
def appO (i : Nat) (d : D) (A : AH) : Option O → Res D
  | some (.lst ds) => if ds.length < line then .ok .non (A.set i (.lst (ds ++ [d]))) else .bad
  | _ => .bad
def mAppend : Fn
  | [.ref i, d], A => appO i d A A[i]?
  | _, _ => .bad
def popO (i : Nat) (A : AH) : Option O → Res D
  | some (.lst ds) => (match ds.getLast? with
    | some d => .ok d (A.set i (.lst ds.dropLast))
    | none => .bad)
  | _ => .bad
def mPop : Fn
  | [.ref i], A => popO i A A[i]?
  | _, _ => .bad
/-- the kind of what a method of a built-in type is asked of -/
inductive Kd where
  | list | dict | str
def kindO : Kd → Option O → Bool
  | .list, some (.lst _) => true
  | .list, some (.rol _) => true
  | .dict, some (.dic _) => true
  | .dict, some (.dit _) => true
  | _, _ => false
def isKd (k : Kd) (A : AH) : D → Bool
  | .ref i => kindO k A[i]?
  | .str _ => (match k with
    | .str => true
    | _ => false)
  | _ => false
def kBM (k : Kd) (F : Fn) (a : Ax) (E : Env) : D → AH → Res D := fun x A => if isKd k A x = true then (a E A).bind (kM2 F x) else .bad
def eBM (k : Kd) (F : Fn) (o : Ex) (a : Ax) : Ex := fun E A => (o E A).bind (kBM k F a E)
def opIxL : Fn
  | [.ref j, .int i], A => atS A i (seqAt A j)
  | _, _ => .bad
def kPar3 (i j l : Nat) (E : Env) : List D → AH → SRes
  | [x, y, z], A => .nx (((E.set i (some x)).set j (some y)).set l (some z)) A
  | _, _ => .bad
def sPar3 (i j l : Nat) (a : Ax) : Sx := fun E A => (a E A).then E (kPar3 i j l E)
end DL
set_option Elab.async false
set_option linter.all false
set_option maxRecDepth 100000
set_option maxHeartbeats 4000000
/-! What the plain functions say, over the hand layer (own work). -/
namespace DL
open PySem PySem.Spec PyProof.Rows L2
theorem fldN_nd : fldN.Nodup := by decide +kernel
theorem fld_inj {i j : Nat} {x : Str} (a : fldN[i]? = some x) (b : fldN[j]? = some x) : i = j := nodup_ix fldN_nd a b
def clsA (K : PySem.W.Frag) (c : Nat) : Addr := He.ga K (clsN.getD c "")

/-! ### values -/
mutual
inductive RepV (ρ : Nat → Addr) (n : Nat) (H : Hp) : D → V → Prop
  | non : RepV ρ n H .non .non
  | bl (b : Bool) : RepV ρ n H (.bl b) (.bl b)
  | int (i : Int) : RepV ρ n H (.int i) (.int i)
  | str (x : Str) : RepV ρ n H (.str x) (.str x)
  | tup {a : Addr} {vs : List V} {ds : List D} : H a = some (.tup vs) → RepVs ρ n H ds vs → RepV ρ n H (.tup ds) (.ref a)
  | ref {i : Nat} : i < n → RepV ρ n H (.ref i) (.ref (ρ i))
inductive RepVs (ρ : Nat → Addr) (n : Nat) (H : Hp) : List D → List V → Prop
  | nil : RepVs ρ n H [] []
  | cons {d : D} {ds : List D} {v : V} {vs : List V} : RepV ρ n H d v → RepVs ρ n H ds vs → RepVs ρ n H (d :: ds) (v :: vs)
end
/-- from one state to a later one: numbers keep their addresses, tuples stay -/
structure Ext (ρ : Nat → Addr) (n : Nat) (H : Hp) (ρ' : Nat → Addr) (n' : Nat) (H' : Hp) : Prop where
  le : n ≤ n'
  same : ∀ i, i < n → ρ' i = ρ i
  tups : ∀ a vs, H a = some (.tup vs) → H' a = some (.tup vs)
  frzs : ∀ a o u, H a = some (.frz o u) → H' a = some (.frz o u)
theorem Ext.refl {ρ : Nat → Addr} {n : Nat} {H : Hp} : Ext ρ n H ρ n H := ⟨Nat.le_refl _, fun _ _ => rfl, fun _ _ h => h, fun _ _ _ h => h⟩
theorem Ext.trans {ρ ρ1 ρ2 : Nat → Addr} {n n1 n2 : Nat} {H H1 H2 : Hp} (a : Ext ρ n H ρ1 n1 H1) (b : Ext ρ1 n1 H1 ρ2 n2 H2) : Ext ρ n H ρ2 n2 H2 :=
  ⟨Nat.le_trans a.le b.le, fun i h => (b.same i (Nat.lt_of_lt_of_le h a.le)).trans (a.same i h), fun c vs h => b.tups c vs (a.tups c vs h), fun c o u h => b.frzs c o u (a.frzs c o u h)⟩
section
variable {ρ ρ' : Nat → Addr} {n n' : Nat} {H H' : Hp}
mutual
theorem RepV.ext (x : Ext ρ n H ρ' n' H') : ∀ {d : D} {v : V}, RepV ρ n H d v → RepV ρ' n' H' d v
  | .non, _, .non => .non
  | .bl b, _, .bl _ => .bl b
  | .int i, _, .int _ => .int i
  | .str z, _, .str _ => .str z
  | .tup ds, _, .tup h r => .tup (x.tups _ _ h) (RepVs.ext x r)
  | .ref i, _, .ref h => by rw [← x.same i h]; exact .ref (Nat.lt_of_lt_of_le h x.le)
theorem RepVs.ext (x : Ext ρ n H ρ' n' H') : ∀ {ds : List D} {vs : List V}, RepVs ρ n H ds vs → RepVs ρ' n' H' ds vs
  | [], _, .nil => .nil
  | _ :: _, _, .cons a b => .cons (RepV.ext x a) (RepVs.ext x b)
end
mutual
theorem RepV.bd : ∀ {d : D} {v : V}, RepV ρ n H d v → d.bd n = true
  | .non, _, .non => by simp [D.bd]
  | .bl _, _, .bl _ => by simp [D.bd]
  | .int _, _, .int _ => by simp [D.bd]
  | .str _, _, .str _ => by simp [D.bd]
  | .tup ds, _, .tup _ r => by simp only [D.bd]; exact RepVs.bd r
  | .ref i, _, .ref h => by simp [D.bd, h]
theorem RepVs.bd : ∀ {ds : List D} {vs : List V}, RepVs ρ n H ds vs → bdAll n ds = true
  | [], _, .nil => by simp [bdAll]
  | _ :: _, _, .cons a b => by simp [bdAll, RepV.bd a, RepVs.bd b]
end
mutual
/-- fewer numbers are enough -/
theorem RepV.cut {m : Nat} : ∀ {d : D} {v : V}, RepV ρ n H d v → d.bd m = true → RepV ρ m H d v
  | .non, _, .non, _ => .non
  | .bl b, _, .bl _, _ => .bl b
  | .int i, _, .int _, _ => .int i
  | .str z, _, .str _, _ => .str z
  | .tup ds, _, .tup h r, e => .tup h (RepVs.cut r (by simpa [D.bd] using e))
  | .ref i, _, .ref h, e => .ref (by simpa [D.bd] using e)
theorem RepVs.cut {m : Nat} : ∀ {ds : List D} {vs : List V}, RepVs ρ n H ds vs → bdAll m ds = true → RepVs ρ m H ds vs
  | [], _, .nil, _ => .nil
  | d :: ds, _, .cons a b, e => by
    simp only [bdAll, Bool.and_eq_true] at e
    exact .cons (RepV.cut a e.1) (RepVs.cut b e.2)
end
theorem RepVs.len : ∀ {ds : List D} {vs : List V}, RepVs ρ n H ds vs → ds.length = vs.length
  | [], _, .nil => rfl
  | _ :: _, _, .cons _ b => by rw [List.length_cons, List.length_cons, RepVs.len b]
theorem RepVs.get : ∀ {ds : List D} {vs : List V} {i : Nat} {d : D}, RepVs ρ n H ds vs → ds[i]? = some d → ∃ v, vs[i]? = some v ∧ RepV ρ n H d v
  | [], _, _, _, .nil, e => by simp at e
  | d :: ds, v :: vs, 0, _, .cons a b, e => by
    simp at e; subst e; exact ⟨v, by simp, a⟩
  | d :: ds, v :: vs, i + 1, c, .cons a b, e => by
    obtain ⟨v', h1, h2⟩ := RepVs.get (i := i) b (by simpa using e)
    exact ⟨v', by simpa using h1, h2⟩
theorem RepVs.set {x : D} {y : V} (r : RepV ρ n H x y) : ∀ {ds : List D} {vs : List V} (i : Nat), RepVs ρ n H ds vs → RepVs ρ n H (ds.set i x) (vs.set i y)
  | [], _, _, .nil => .nil
  | _ :: _, _, 0, .cons _ b => .cons r b
  | _ :: _, _, i + 1, .cons a b => .cons a (RepVs.set r i b)
theorem RepVs.app : ∀ {ds es : List D} {vs us : List V}, RepVs ρ n H ds vs → RepVs ρ n H es us → RepVs ρ n H (ds ++ es) (vs ++ us)
  | [], _, _, _, .nil, s => s
  | _ :: _, _, _, _, .cons a b, s => .cons a (RepVs.app b s)
theorem RepVs.take : ∀ {ds : List D} {vs : List V} (k : Nat), RepVs ρ n H ds vs → RepVs ρ n H (ds.take k) (vs.take k)
  | _, _, 0, _ => by rw [List.take_zero, List.take_zero]; exact .nil
  | [], _, _ + 1, .nil => .nil
  | _ :: _, _, k + 1, .cons a b => .cons a (RepVs.take k b)
theorem RepVs.drop : ∀ {ds : List D} {vs : List V} (k : Nat), RepVs ρ n H ds vs → RepVs ρ n H (ds.drop k) (vs.drop k)
  | _, _, 0, r => r
  | [], _, _ + 1, .nil => .nil
  | _ :: _, _, k + 1, .cons _ b => RepVs.drop k b
theorem RepVs.ints : ∀ (ns : List Int), RepVs ρ n H (ns.map D.int) (ns.map V.int)
  | [] => .nil
  | i :: ns => .cons (.int i) (RepVs.ints ns)
theorem RepVs.of_ints : ∀ {ns : List Int} {vs : List V}, RepVs ρ n H (ns.map D.int) vs → vs = ns.map V.int
  | [], _, .nil => rfl
  | i :: ns, _, .cons a b => by
    cases a
    rw [RepVs.of_ints (ns := ns) b, List.map_cons]
end

/-! ### attributes -/
inductive RepF (ρ : Nat → Addr) (n : Nat) (H : Hp) : List (Nat × D) → List (Str × V) → Prop
  | nil : RepF ρ n H [] []
  | cons {i : Nat} {d : D} {x : Str} {v : V} {fs : List (Nat × D)} {gs : List (Str × V)} : fldN[i]? = some x → RepV ρ n H d v → RepF ρ n H fs gs → RepF ρ n H ((i, d) :: fs) ((x, v) :: gs)
section
variable {ρ ρ' : Nat → Addr} {n n' : Nat} {H H' : Hp}
theorem RepF.ext (x : Ext ρ n H ρ' n' H') : ∀ {fs : List (Nat × D)} {gs : List (Str × V)}, RepF ρ n H fs gs → RepF ρ' n' H' fs gs
  | [], _, .nil => .nil
  | _ :: _, _, .cons a b c => .cons a (b.ext x) (RepF.ext x c)
theorem RepF.cut {m : Nat} : ∀ {fs : List (Nat × D)} {gs : List (Str × V)}, RepF ρ n H fs gs → (fs.all fun p => p.2.bd m) = true → RepF ρ m H fs gs
  | [], _, .nil, _ => .nil
  | _ :: _, _, .cons a b c, e => by
    rw [List.all_cons, Bool.and_eq_true] at e
    exact .cons a (b.cut e.1) (RepF.cut c e.2)
theorem RepF.len : ∀ {fs : List (Nat × D)} {gs : List (Str × V)}, RepF ρ n H fs gs → fs.length = gs.length
  | [], _, .nil => rfl
  | _ :: _, _, .cons _ _ c => by rw [List.length_cons, List.length_cons, RepF.len c]
theorem RepF.look {i : Nat} {x : Str} {d : D} (hx : fldN[i]? = some x) : ∀ {fs : List (Nat × D)} {gs : List (Str × V)}, RepF ρ n H fs gs → lookF i fs = some d → ∃ v, gs.lookup x = some v ∧ RepV ρ n H d v
  | [], _, .nil, e => by cases e
  | (j, c) :: fs, (y, v) :: gs, .cons a b t, e => by
    unfold lookF at e
    by_cases hj : j = i
    · rw [if_pos hj] at e
      cases e
      subst hj
      rw [hx] at a
      cases a
      exact ⟨v, by rw [List.lookup_cons, beq_self_eq_true], b⟩
    · rw [if_neg hj] at e
      obtain ⟨u, h1, h2⟩ := RepF.look hx t e
      refine ⟨u, ?_, h2⟩
      have ne : (x == y) = false := beq_eq_false_iff_ne.mpr fun z => hj (fld_inj a (z ▸ hx))
      rw [List.lookup_cons, ne]
      exact h1
theorem RepF.none {i : Nat} {x : Str} (hx : fldN[i]? = some x) : ∀ {fs : List (Nat × D)} {gs : List (Str × V)}, RepF ρ n H fs gs → lookF i fs = .none → gs.lookup x = .none
  | [], _, .nil, e => rfl
  | (j, c) :: fs, (y, v) :: gs, .cons a b t, e => by
    unfold lookF at e
    by_cases hj : j = i
    · rw [if_pos hj] at e
      cases e
    · rw [if_neg hj] at e
      have ne : (x == y) = false := beq_eq_false_iff_ne.mpr fun z => hj (fld_inj a (z ▸ hx))
      rw [List.lookup_cons, ne]
      exact RepF.none hx t e
theorem RepF.out {x : Str} (hx : x ∉ fldN) : ∀ {fs : List (Nat × D)} {gs : List (Str × V)}, RepF ρ n H fs gs → gs.lookup x = .none
  | [], _, .nil => rfl
  | (j, c) :: fs, (y, v) :: gs, .cons a b t => by
    have ne : (x == y) = false := beq_eq_false_iff_ne.mpr fun z => hx (z ▸ List.mem_of_getElem? a)
    rw [List.lookup_cons, ne]
    exact RepF.out hx t
theorem RepF.put {i : Nat} {x : Str} {d : D} {v : V} (hx : fldN[i]? = some x) (r : RepV ρ n H d v) : ∀ {fs : List (Nat × D)} {gs : List (Str × V)}, RepF ρ n H fs gs → RepF ρ n H (setF i d fs) (putF x v gs)
  | [], _, .nil => .cons hx r .nil
  | (j, c) :: fs, (y, u) :: gs, .cons a b t => by
    unfold setF putF
    by_cases hj : j = i
    · subst hj
      rw [hx] at a
      cases a
      rw [if_pos rfl, if_pos rfl]
      exact .cons hx r t
    · rw [if_neg hj, if_neg fun z : y = x => hj (fld_inj (z ▸ a) hx)]
      exact .cons a b (RepF.put hx r t)
end

/-! ### dicts: keys are ints and texts, or tuples of these -/
def keyD : D → Option Key
  | .int i => some (.inl i)
  | .str x => some (.inr x)
  | _ => none
def keysD : List D → Option (List Key)
  | [] => some []
  | d :: ds => match keyD d, keysD ds with
    | some k, some ks => some (k :: ks)
    | _, _ => none
def keyT : D → Option (List Key)
  | .tup ds => keysD ds
  | _ => none
inductive RepK {κ : Type} (kf : D → Option κ) (ρ : Nat → Addr) (n : Nat) (H : Hp) : List (D × D) → List (κ × V) → Prop
  | nil : RepK kf ρ n H [] []
  | cons {k d : D} {x : κ} {v : V} {fs : List (D × D)} {gs : List (κ × V)} : kf k = some x → RepV ρ n H d v → RepK kf ρ n H fs gs → RepK kf ρ n H ((k, d) :: fs) ((x, v) :: gs)
section
variable {κ : Type} {kf : D → Option κ} {ρ ρ' : Nat → Addr} {n n' : Nat} {H H' : Hp}
theorem RepK.ext (x : Ext ρ n H ρ' n' H') : ∀ {fs : List (D × D)} {gs : List (κ × V)}, RepK kf ρ n H fs gs → RepK kf ρ' n' H' fs gs
  | [], _, .nil => .nil
  | _ :: _, _, .cons a b c => .cons a (b.ext x) (RepK.ext x c)
theorem RepK.cut {m : Nat} : ∀ {fs : List (D × D)} {gs : List (κ × V)}, RepK kf ρ n H fs gs → (fs.all fun p => p.1.bd m && p.2.bd m) = true → RepK kf ρ m H fs gs
  | [], _, .nil, _ => .nil
  | _ :: _, _, .cons a b c, e => by
    rw [List.all_cons, Bool.and_eq_true, Bool.and_eq_true] at e
    exact .cons a (b.cut e.1.2) (RepK.cut c e.2)
theorem RepK.len : ∀ {fs : List (D × D)} {gs : List (κ × V)}, RepK kf ρ n H fs gs → fs.length = gs.length
  | [], _, .nil => rfl
  | _ :: _, _, .cons _ _ c => by rw [List.length_cons, List.length_cons, RepK.len c]
end

/-! ### objects -/
def RepO (K : PySem.W.Frag) (ρ : Nat → Addr) (n : Nat) (H : Hp) (a : Addr) : O → Prop
  | .lst ds => ∃ vs, H a = some (.lst vs) ∧ RepVs ρ n H ds vs
  | .rol _ => True
  | .dic kvs => ∃ gs : List (Key × V), H a = some (.dK gs) ∧ RepK keyD ρ n H kvs gs
  | .dit kvs => ∃ gs : List (List Key × V), H a = some (.dT gs) ∧ RepK keyT ρ n H kvs gs
  | .ins c fs => ∃ dx gs, H a = some (.ins (clsA K c) dx gs) ∧ RepF ρ n H fs gs
  | .fro kvs => ∃ (ob : Obj) (gs : List (Key × V)), H a = some (.frz ob (.dK gs)) ∧ RepK keyD ρ n H kvs gs
def KL (K : PySem.W.Frag) (a : Addr) (xs : List V) : Prop := ∃ (o : Obj) (its : Array Value) (n : Nat), K.lookup a = some o ∧ o.cls = .type "list" ∧ o.dict = none ∧ o.data = .seq its n ∧ its.size ≤ sizeLine ∧ Vals xs its.toList
structure RepA (K : PySem.W.Frag) (ρ : Nat → Addr) (H : Hp) (A : AH) : Prop where
  objs : ∀ i o, A[i]? = some o → RepO K ρ A.length H (ρ i) o
  rols : ∀ i ds, A[i]? = some (.rol ds) → ∃ vs, RepVs ρ A.length H ds vs ∧ (KL K (ρ i) vs ∨ (Rd H (ρ i) (.lst vs) ∧ ∀ j o, A[j]? = some o → o.mut = true → ρ j ≠ ρ i))
  inj : ∀ i j o u, A[i]? = some o → A[j]? = some u → o.mut = true → u.mut = true → ρ i = ρ j → i = j
structure Nxt (K : PySem.W.Frag) (ρ : Nat → Addr) (A : AH) (H : Hp) (ρ' : Nat → Addr) (A' : AH) (H' : Hp) : Prop where
  ext : Ext ρ A.length H ρ' A'.length H'
  rep : RepA K ρ' H' A'
/-- a mutable object as it stands -/
def Live : Option HO → Prop
  | some (.lst _) => True
  | some (.dK _) => True
  | some (.dT _) => True
  | some (.ins _ _ _) => True
  | some (.frz _ _) => True
  | _ => False
section
variable {K : PySem.W.Frag} {ρ ρ' ρ1 : Nat → Addr} {A A' B : AH} {n n' : Nat} {H H' H1 : Hp} {a p : Addr} {o o' : O} {ho : HO} {i : Nat}
theorem RepO.live (h : RepO K ρ n H a o) (m : o.mut = true) : Live (H a) := by
  cases o with
  | lst ds => obtain ⟨_, e, _⟩ := h; rw [e]; trivial
  | rol ds => cases m
  | dic kvs => obtain ⟨_, e, _⟩ := h; rw [e]; trivial
  | dit kvs => obtain ⟨_, e, _⟩ := h; rw [e]; trivial
  | ins c fs => obtain ⟨_, _, e, _⟩ := h; rw [e]; trivial
  | fro kvs => obtain ⟨_, _, e, _⟩ := h; rw [e]; trivial
theorem RepO.unfrz (h : RepO K ρ n H a o) (nf : ∀ kvs, o ≠ .fro kvs) (m : o.mut = true) : ∀ ob u, H a ≠ some (.frz ob u) := by
  intro ob u z
  cases o with
  | lst ds => obtain ⟨_, e, _⟩ := h; rw [e] at z; cases z
  | rol ds => cases m
  | dic kvs => obtain ⟨_, e, _⟩ := h; rw [e] at z; cases z
  | dit kvs => obtain ⟨_, e, _⟩ := h; rw [e] at z; cases z
  | ins c fs => obtain ⟨_, _, e, _⟩ := h; rw [e] at z; cases z
  | fro kvs => exact nf kvs rfl
theorem RepO.ext (x : Ext ρ n H ρ' n' H') (e : H' a = H a) (h : RepO K ρ n H a o) : RepO K ρ' n' H' a o := by
  cases o with
  | lst ds => obtain ⟨vs, h1, h2⟩ := h; exact ⟨vs, e.trans h1, h2.ext x⟩
  | rol ds => trivial
  | dic kvs => obtain ⟨gs, h1, h2⟩ := h; exact ⟨gs, e.trans h1, h2.ext x⟩
  | dit kvs => obtain ⟨gs, h1, h2⟩ := h; exact ⟨gs, e.trans h1, h2.ext x⟩
  | ins c fs => obtain ⟨dx, gs, h1, h2⟩ := h; exact ⟨dx, gs, e.trans h1, h2.ext x⟩
  | fro kvs => obtain ⟨dx, gs, h1, h2⟩ := h; exact ⟨dx, gs, e.trans h1, h2.ext x⟩
theorem RepO.cut {m : Nat} (h : RepO K ρ n H a o) (b : o.bd m = true) : RepO K ρ m H a o := by
  cases o with
  | lst ds => obtain ⟨vs, h1, h2⟩ := h; exact ⟨vs, h1, h2.cut b⟩
  | rol ds => trivial
  | dic kvs => obtain ⟨gs, h1, h2⟩ := h; exact ⟨gs, h1, h2.cut b⟩
  | dit kvs => obtain ⟨gs, h1, h2⟩ := h; exact ⟨gs, h1, h2.cut b⟩
  | ins c fs => obtain ⟨dx, gs, h1, h2⟩ := h; exact ⟨dx, gs, h1, h2.cut b⟩
  | fro kvs => obtain ⟨dx, gs, h1, h2⟩ := h; exact ⟨dx, gs, h1, h2.cut b⟩
theorem Nxt.refl (R : RepA K ρ H A) : Nxt K ρ A H ρ A H := ⟨.refl, R⟩
theorem Nxt.trans (x : Nxt K ρ A H ρ1 B H1) (y : Nxt K ρ1 B H1 ρ' A' H') : Nxt K ρ A H ρ' A' H' := ⟨x.ext.trans y.ext, y.rep⟩
theorem lt_of_get {α : Type} {l : List α} {j : Nat} {u : α} (h : l[j]? = some u) : j < l.length := (List.getElem?_eq_some_iff.mp h).1
/-- more is tracked, nothing else is changed -/
theorem Nxt.same (R : RepA K ρ H A) (s : Same H H') : Nxt K ρ A H ρ A H' := by
  have x : Ext ρ A.length H ρ A.length H' := ⟨Nat.le_refl _, fun _ _ => rfl, fun a vs h => s a _ h, fun a o u h => s a _ h⟩
  refine ⟨x, fun i o h => ?_, fun i ds h => ?_, R.inj⟩
  · have r := R.objs i o h
    cases m : o.mut with
    | true =>
      have l := r.live m
      refine r.ext x ?_
      cases q : H (ρ i) with
      | none => rw [q] at l; exact l.elim
      | some u => exact s _ _ q
    | false =>
      cases o with
      | rol ds => trivial
      | _ => cases m
  · obtain ⟨vs, h1, h2⟩ := R.rols i ds h
    refine ⟨vs, h1.ext x, ?_⟩
    rcases h2 with h2 | ⟨h2, h3⟩
    · exact .inl h2
    · refine .inr ⟨?_, h3⟩
      rcases h2 with h2 | ⟨ob, h2⟩
      · exact .inl (s _ _ h2)
      · exact .inr ⟨ob, s _ _ h2⟩
theorem same_upd (hp : H p = none) : Same H (upd H p ho) := fun b u e => by rw [upd_ne (ne_of_none e hp)]; exact e
/-- a new object -/
theorem Nxt.alloc (R : RepA K ρ H A) (hp : H p = none) (m : o.mut = true)
    (new : ∀ ρ', Ext ρ A.length H ρ' (A.length + 1) (upd H p ho) → RepO K ρ' (A.length + 1) (upd H p ho) p o) :
    ∃ ρ', ρ' A.length = p ∧ Nxt K ρ A H ρ' (A ++ [o]) (upd H p ho) := by
  have s : Same H (upd H p ho) := same_upd hp
  refine ⟨fun i => if i = A.length then p else ρ i, if_pos rfl, ?_⟩
  have x : Ext ρ A.length H (fun i => if i = A.length then p else ρ i) (A.length + 1) (upd H p ho) := ⟨Nat.le_succ _, fun i h => if_neg (Nat.ne_of_lt h), fun a vs h => s a _ h, fun a o u h => s a _ h⟩
  have ge : ∀ i u, (A ++ [o])[i]? = some u → (i < A.length ∧ A[i]? = some u) ∨ (i = A.length ∧ u = o) := fun i u h => by
    by_cases hi : i < A.length
    · rw [List.getElem?_append_left hi] at h; exact .inl ⟨hi, h⟩
    · have hl := lt_of_get h
      rw [List.length_append, List.length_singleton] at hl
      have e : i = A.length := by omega
      subst e
      rw [List.getElem?_append_right (Nat.le_refl _), Nat.sub_self] at h
      exact .inr ⟨rfl, (Option.some.inj h).symm⟩
  have free : ∀ j u, A[j]? = some u → u.mut = true → ρ j ≠ p := fun j u h mu z => by
    have l := (R.objs j u h).live mu
    rw [z, hp] at l
    exact l
  have len : (A ++ [o]).length = A.length + 1 := by rw [List.length_append, List.length_singleton]
  refine ⟨by rw [len]; exact x, fun i u h => ?_, fun i ds h => ?_, fun i j u w h1 h2 m1 m2 e => ?_⟩
  · rw [len]
    rcases ge i u h with ⟨hi, h⟩ | ⟨rfl, rfl⟩
    · show RepO K _ _ _ (if i = A.length then p else ρ i) u
      rw [if_neg (Nat.ne_of_lt hi)]
      have r := R.objs i u h
      cases mu : u.mut with
      | true => exact r.ext x (upd_ne (free i u h mu))
      | false =>
        cases u with
        | rol ds => trivial
        | _ => cases mu
    · show RepO K _ _ _ (if A.length = A.length then p else ρ A.length) u
      rw [if_pos rfl]
      exact new _ x
  · rw [len]
    rcases ge i _ h with ⟨hi, h⟩ | ⟨rfl, rfl⟩
    · obtain ⟨vs, h1, h2⟩ := R.rols i ds h
      refine ⟨vs, h1.ext x, ?_⟩
      show KL K (if i = A.length then p else ρ i) vs ∨ (Rd (upd H p ho) (if i = A.length then p else ρ i) _ ∧ ∀ j o_1, _ → _ → (if j = A.length then p else ρ j) ≠ (if i = A.length then p else ρ i))
      rw [if_neg (Nat.ne_of_lt hi)]
      rcases h2 with h2 | ⟨h2, h3⟩
      · exact .inl h2
      · have hne : ρ i ≠ p := fun z => by
          rcases h2 with h2 | ⟨ob, h2⟩ <;> (rw [z, hp] at h2; cases h2)
        refine .inr ⟨?_, fun j u hj mu => ?_⟩
        · rcases h2 with h2 | ⟨ob, h2⟩
          · exact .inl (s _ _ h2)
          · exact .inr ⟨ob, s _ _ h2⟩
        · rcases ge j u hj with ⟨hjl, hj⟩ | ⟨rfl, rfl⟩
          · rw [if_neg (Nat.ne_of_lt hjl)]; exact h3 j u hj mu
          · rw [if_pos rfl]; exact fun z => hne z.symm
    · cases m
  · have e' : (if i = A.length then p else ρ i) = (if j = A.length then p else ρ j) := e
    rcases ge i u h1 with ⟨hi, g1⟩ | ⟨ei, eu⟩ <;> rcases ge j w h2 with ⟨hj, g2⟩ | ⟨ej, ew⟩
    · rw [if_neg (Nat.ne_of_lt hi), if_neg (Nat.ne_of_lt hj)] at e'
      exact R.inj i j u w g1 g2 m1 m2 e'
    · rw [if_neg (Nat.ne_of_lt hi), if_pos ej] at e'
      exact absurd e' (free i u g1 m1)
    · rw [if_pos ei, if_neg (Nat.ne_of_lt hj)] at e'
      exact absurd e'.symm (free j w g2 m2)
    · rw [ei, ej]
/-! the heap's tuples are all that a value asks -/
section
variable {ρ : Nat → Addr} {n : Nat} {H H' : Hp} (tp : ∀ a vs, H a = some (.tup vs) → H' a = some (.tup vs))
include tp
mutual
theorem RepV.hp : ∀ {d : D} {v : V}, RepV ρ n H d v → RepV ρ n H' d v
  | .non, _, .non => .non
  | .bl b, _, .bl _ => .bl b
  | .int i, _, .int _ => .int i
  | .str z, _, .str _ => .str z
  | .tup ds, _, .tup h r => .tup (tp _ _ h) (RepVs.hp r)
  | .ref i, _, .ref h => .ref h
theorem RepVs.hp : ∀ {ds : List D} {vs : List V}, RepVs ρ n H ds vs → RepVs ρ n H' ds vs
  | [], _, .nil => .nil
  | _ :: _, _, .cons a b => .cons (RepV.hp a) (RepVs.hp b)
end
theorem RepF.hp : ∀ {fs : List (Nat × D)} {gs : List (Str × V)}, RepF ρ n H fs gs → RepF ρ n H' fs gs
  | [], _, .nil => .nil
  | _ :: _, _, .cons a b c => .cons a (RepV.hp tp b) (RepF.hp c)
theorem RepK.hp {κ : Type} {kf : D → Option κ} : ∀ {fs : List (D × D)} {gs : List (κ × V)}, RepK kf ρ n H fs gs → RepK kf ρ n H' fs gs
  | [], _, .nil => .nil
  | _ :: _, _, .cons a b c => .cons a (RepV.hp tp b) (RepK.hp c)
theorem RepO.hp {K : PySem.W.Frag} {a : Addr} {o : O} (e : H' a = H a) (h : RepO K ρ n H a o) : RepO K ρ n H' a o := by
  cases o with
  | lst ds => obtain ⟨vs, h1, h2⟩ := h; exact ⟨vs, e.trans h1, RepVs.hp tp h2⟩
  | rol ds => trivial
  | dic kvs => obtain ⟨gs, h1, h2⟩ := h; exact ⟨gs, e.trans h1, RepK.hp tp h2⟩
  | dit kvs => obtain ⟨gs, h1, h2⟩ := h; exact ⟨gs, e.trans h1, RepK.hp tp h2⟩
  | ins c fs => obtain ⟨dx, gs, h1, h2⟩ := h; exact ⟨dx, gs, e.trans h1, RepF.hp tp h2⟩
  | fro kvs => obtain ⟨dx, gs, h1, h2⟩ := h; exact ⟨dx, gs, e.trans h1, RepK.hp tp h2⟩
end
/-- an object is changed -/
theorem RepA.set (R : RepA K ρ H A) (hi : A[i]? = some o) (m : o.mut = true) (m' : o'.mut = true) (new : RepO K ρ A.length (upd H (ρ i) ho) (ρ i) o') : RepA K ρ (upd H (ρ i) ho) (A.set i o') := by
  have l := (R.objs i o hi).live m
  have tp : ∀ a vs, H a = some (.tup vs) → upd H (ρ i) ho a = some (.tup vs) := fun a vs h => by
    rw [upd_ne fun z => by rw [← z, h] at l; exact l]
    exact h
  have hl := lt_of_get hi
  have ge : ∀ j u, (A.set i o')[j]? = some u → (j ≠ i ∧ A[j]? = some u) ∨ (j = i ∧ u = o') := fun j u h => by
    by_cases e : i = j
    · subst e
      rw [List.getElem?_set_self hl] at h
      exact .inr ⟨rfl, (Option.some.inj h).symm⟩
    · rw [List.getElem?_set_ne e] at h
      exact .inl ⟨fun z => e z.symm, h⟩
  have len : (A.set i o').length = A.length := List.length_set
  refine ⟨fun j u h => ?_, fun j ds h => ?_, fun j k u w h1 h2 m1 m2 e => ?_⟩
  · rw [len]
    rcases ge j u h with ⟨hj, h⟩ | ⟨rfl, rfl⟩
    · have r := R.objs j u h
      cases mu : u.mut with
      | true => exact r.hp tp (upd_ne fun z => hj (R.inj j i u o h hi mu m z))
      | false =>
        cases u with
        | rol ds => trivial
        | _ => cases mu
    · exact new
  · rw [len]
    rcases ge j _ h with ⟨hj, h⟩ | ⟨rfl, rfl⟩
    · obtain ⟨vs, h1, h2⟩ := R.rols j ds h
      refine ⟨vs, h1.hp tp, ?_⟩
      rcases h2 with h2 | ⟨h2, h3⟩
      · exact .inl h2
      · have hne : ρ j ≠ ρ i := fun z => h3 i o hi m z.symm
        refine .inr ⟨?_, fun k u hk mu => ?_⟩
        · rcases h2 with h2 | ⟨ob, h2⟩
          · exact .inl ((upd_ne hne).trans h2)
          · exact .inr ⟨ob, (upd_ne hne).trans h2⟩
        · rcases ge k u hk with ⟨_, hk⟩ | ⟨rfl, rfl⟩
          · exact h3 k u hk mu
          · exact h3 k o hi m
    · cases m'
  · rcases ge j u h1 with ⟨hj, g1⟩ | ⟨ej, eu⟩ <;> rcases ge k w h2 with ⟨hk, g2⟩ | ⟨ek, ew⟩
    · exact R.inj j k u w g1 g2 m1 m2 e
    · rw [ek] at e ⊢
      exact R.inj j i u o g1 hi m1 m e
    · rw [ej] at e ⊢
      exact R.inj i k o w hi g2 m m2 e
    · rw [ej, ek]
theorem Nxt.set (R : RepA K ρ H A) (hi : A[i]? = some o) (m : o.mut = true) (m' : o'.mut = true) (new : Ext ρ A.length H ρ A.length (upd H (ρ i) ho) → RepO K ρ A.length (upd H (ρ i) ho) (ρ i) o') (nf : ∀ kvs, o ≠ .fro kvs := by intro _ h; cases h) :
    Nxt K ρ A H ρ (A.set i o') (upd H (ρ i) ho) := by
  have l := (R.objs i o hi).live m
  have lf := (R.objs i o hi).unfrz nf m
  have x : Ext ρ A.length H ρ A.length (upd H (ρ i) ho) := ⟨Nat.le_refl _, fun _ _ => rfl, fun a vs h => by
    rw [upd_ne fun z => by rw [← z, h] at l; exact l]
    exact h, fun a ob u h => by
    rw [upd_ne fun z => lf ob u (by rw [← z, h])]
    exact h⟩
  exact ⟨by rw [List.length_set]; exact x, R.set hi m m' (new x)⟩
/-- a sequence that is read -/
theorem RepA.seq (R : RepA K ρ H A) {ds : List D} (h : seqAt A i = some ds) : ∃ vs, SqL K H (ρ i) vs ∧ RepVs ρ A.length H ds vs := by
  unfold seqAt at h
  cases e : A[i]? with
  | none => rw [e] at h; cases h
  | some u =>
    rw [e] at h
    cases u with
    | lst xs =>
      cases h
      obtain ⟨vs, h1, h2⟩ := R.objs i _ e
      exact ⟨vs, .inl (.inl h1), h2⟩
    | rol xs =>
      cases h
      obtain ⟨vs, h1, h2⟩ := R.rols i _ e
      refine ⟨vs, ?_, h1⟩
      rcases h2 with h2 | ⟨h2, _⟩
      · exact .inr h2
      · exact .inl h2
    | dic _ => cases h
    | dit _ => cases h
    | ins _ _ => cases h
    | fro _ => cases h
end
end DL
set_option Elab.async false
set_option linter.all false
set_option maxRecDepth 100000
set_option maxHeartbeats 4000000
/-! The judgements: a piece of syntax does what a plain function says (own work). -/
namespace DL
open PySem PySem.Spec PyProof.Rows L2
abbrev Sl := L2.St

theorem PE.imp {X : Cx} {e : Expr} {t t' : TE} (h : PE X e t) (hh : ∀ σ H Q, t' σ H Q → t σ H Q) : PE X e t' := ⟨fun pins s σ H Q I q => h.run pins s σ H Q I (hh σ H Q q)⟩
theorem PT.imp {X : Cx} {e : Expr} {t t' : TT} (h : PT X e t) (hh : ∀ σ H Q, t' σ H Q → t σ H Q) : PT X e t' := ⟨fun pins s σ H Q I q => h.run pins s σ H Q I (hh σ H Q q)⟩
theorem PW.imp {X : Cx} {e : Expr} {t t' : TT} (h : PW X e t) (hh : ∀ σ H Q, t' σ H Q → t σ H Q) : PW X e t' := ⟨fun wh pins s σ H Q I q => h.run wh pins s σ H Q I (hh σ H Q q)⟩
theorem PA.imp {X : Cx} {e : List Expr} {t t' : TA} (h : PA X e t) (hh : ∀ σ H Q, t' σ H Q → t σ H Q) : PA X e t' := ⟨fun pos pins s σ H Q I q => h.run pos pins s σ H Q I (hh σ H Q q)⟩
theorem PI.imp {X : Cx} {tg e : Expr} {t t' : TI} (h : PI X tg e t) (hh : ∀ σ H R, t' σ H R → t σ H R) : PI X tg e t' := ⟨fun pins s σ H R I q => h.run pins s σ H R I (hh σ H R q)⟩
theorem PS.imp {X : Cx} {e : Stmt} {t t' : TS} (h : PS X e t) (hh : ∀ D σ H, t' D σ H → t D σ H) : PS X e t' := ⟨fun pins s σ H D I q => h.run pins s σ H D I (hh D σ H q)⟩
theorem PSs.imp {X : Cx} {e : List Stmt} {t t' : TS} (h : PSs X e t) (hh : ∀ D σ H, t' D σ H → t D σ H) : PSs X e t' := ⟨fun pins s σ H D I q => h.run pins s σ H D I (hh D σ H q)⟩
theorem PG.imp {X : Cx} {e : Expr} {t t' : TG} (h : PG X e t) (hh : ∀ v σ H Q, t' v σ H Q → t v σ H Q) : PG X e t' := ⟨fun pins s σ H v u Q I r q => h.run pins s σ H v u Q I r (hh v σ H Q q)⟩
theorem PGs.imp {X : Cx} {e : List Expr} {t t' : TGs} (h : PGs X e t) (hh : ∀ v σ H Q, t' v σ H Q → t v σ H Q) : PGs X e t' := ⟨fun pins s σ H v u Q I r q => h.run pins s σ H v u Q I r (hh v σ H Q q)⟩

/-- the slots -/
structure RepE (ρ : Nat → Addr) (n : Nat) (H : Hp) (E : Env) (σ : Sl) : Prop where
  len : E.length = σ.length
  get : ∀ (i : Nat) (d : D), E[i]? = some (some d) → ∃ v, σ[i]? = some (some v) ∧ RepV ρ n H d v
theorem RepE.ext {ρ ρ' : Nat → Addr} {n n' : Nat} {H H' : Hp} {E : Env} {σ : Sl} (r : RepE ρ n H E σ) (x : Ext ρ n H ρ' n' H') : RepE ρ' n' H' E σ :=
  ⟨r.len, fun i d h => let ⟨v, h1, h2⟩ := r.get i d h; ⟨v, h1, h2.ext x⟩⟩
theorem RepE.set {ρ : Nat → Addr} {n : Nat} {H : Hp} {E : Env} {σ : Sl} (r : RepE ρ n H E σ) (i : Nat) {d : D} {v : V} (h : RepV ρ n H d v) : RepE ρ n H (E.set i (some d)) (σ.set i (some v)) := by
  refine ⟨by rw [List.length_set, List.length_set]; exact r.len, fun j c e => ?_⟩
  have hl := lt_of_get e
  rw [List.length_set] at hl
  by_cases z : i = j
  · subst z
    rw [List.getElem?_set_self hl] at e
    cases e
    exact ⟨v, List.getElem?_set_self (by rw [← r.len]; exact hl), h⟩
  · rw [List.getElem?_set_ne z] at e
    obtain ⟨u, h1, h2⟩ := r.get j c e
    exact ⟨u, by rw [List.getElem?_set_ne z]; exact h1, h2⟩
theorem RepE.clear {ρ : Nat → Addr} {n : Nat} {H : Hp} {E : Env} {σ : Sl} (r : RepE ρ n H E σ) (i : Nat) : RepE ρ n H (E.set i none) (σ.set i none) := by
  refine ⟨by rw [List.length_set, List.length_set]; exact r.len, fun j c e => ?_⟩
  have hl := lt_of_get e
  rw [List.length_set] at hl
  by_cases z : i = j
  · subst z
    rw [List.getElem?_set_self hl] at e
    cases e
  · rw [List.getElem?_set_ne z] at e
    obtain ⟨u, h1, h2⟩ := r.get j c e
    exact ⟨u, by rw [List.getElem?_set_ne z]; exact h1, h2⟩
theorem RepE.wipe {ρ : Nat → Addr} {n : Nat} {H : Hp} {E : Env} {σ : Sl} (r : RepE ρ n H E σ) : ∀ vs : List Nat, RepE ρ n H (wipeE E vs) (L2.wipe σ vs)
  | [] => r
  | v :: vs => (RepE.wipe r vs).clear v

/-- an exception -/
def RepX (K : PySem.W.Frag) (ρ : Nat → Addr) (n : Nat) (H : Hp) (x : Exn) (cls : Value) (d : Option Addr) : Prop :=
  cls = .ref (clsA K x.cls) ∧ ((x.fs = [] ∧ d = none) ∨ ∃ a gs, d = some a ∧ H a = some (.xd gs) ∧ RepF ρ n H x.fs gs)

/-- what must hold of a result -/
def Post {α β : Type} (K : PySem.W.Frag) (W : WX) (rel : (Nat → Addr) → Nat → Hp → α → β → Prop) (ρ : Nat → Addr) (A : AH) (σ : Sl) (H : Hp) (r : Res α) (Q : β → Hp → Prop) : Prop := match r with
  | .ok a B => ∀ ρ' b H', Nxt K ρ A H ρ' B H' → rel ρ' B.length H' a b → Q b H'
  | .exc x B => ∀ ρ' cls d H', Nxt K ρ A H ρ' B H' → RepX K ρ' B.length H' x cls d → W cls d σ H'
  | .bad => False
abbrev relB : (Nat → Addr) → Nat → Hp → Bool → Bool → Prop := fun _ _ _ a b => a = b
theorem Post.imp {α β : Type} {K : PySem.W.Frag} {W : WX} {rel : (Nat → Addr) → Nat → Hp → α → β → Prop} {ρ : Nat → Addr} {A : AH} {σ : Sl} {H : Hp} {r : Res α} {Q Q' : β → Hp → Prop} (h : Post K W rel ρ A σ H r Q) (hq : ∀ b H', Q b H' → Q' b H') : Post K W rel ρ A σ H r Q' := by
  cases r with
  | ok a B => exact fun ρ' b H' n r => hq _ _ (h ρ' b H' n r)
  | exc x B => exact h
  | bad => exact h
/-- from a later state -/
theorem Post.later {α β : Type} {K : PySem.W.Frag} {W : WX} {rel : (Nat → Addr) → Nat → Hp → α → β → Prop} {ρ ρ1 : Nat → Addr} {A B : AH} {σ : Sl} {H H1 : Hp} {r : Res α} {Q : β → Hp → Prop} (h : Post K W rel ρ A σ H r Q) (n : Nxt K ρ A H ρ1 B H1) : Post K W rel ρ1 B σ H1 r Q := by
  cases r with
  | ok a C => exact fun ρ' b H' n' r => h ρ' b H' (n.trans n') r
  | exc x C => exact fun ρ' c d H' n' r => h ρ' c d H' (n.trans n') r
  | bad => exact h
theorem Post.bind {α β γ δ : Type} {K : PySem.W.Frag} {W : WX} {rel : (Nat → Addr) → Nat → Hp → α → β → Prop} {rel2 : (Nat → Addr) → Nat → Hp → γ → δ → Prop} {ρ : Nat → Addr} {A : AH} {σ : Sl} {H : Hp} {r : Res α} {f : α → AH → Res γ} {Q : δ → Hp → Prop} {Q1 : β → Hp → Prop}
    (h : Post K W rel2 ρ A σ H (r.bind f) Q) (hq : ∀ ρ1 a B b H1, Nxt K ρ A H ρ1 B H1 → rel ρ1 B.length H1 a b → Post K W rel2 ρ1 B σ H1 (f a B) Q → Q1 b H1) : Post K W rel ρ A σ H r Q1 := by
  cases r with
  | ok a B => exact fun ρ' b H' n r => hq ρ' a B b H' n r (Post.later h n)
  | exc x B => exact h
  | bad => exact h

/-- the transformers -/
def tE (K : PySem.W.Frag) (W : WX) (m : Ex) : TE := fun σ H Q => ∃ ρ E A, RepE ρ A.length H E σ ∧ RepA K ρ H A ∧ Post K W RepV ρ A σ H (m E A) Q
def tT (K : PySem.W.Frag) (W : WX) (m : Tx) : TT := fun σ H Q => ∃ ρ E A, RepE ρ A.length H E σ ∧ RepA K ρ H A ∧ Post K W relB ρ A σ H (m E A) Q
def tAr (K : PySem.W.Frag) (W : WX) (m : Ax) : TA := fun σ H Q => ∃ ρ E A, RepE ρ A.length H E σ ∧ RepA K ρ H A ∧ Post K W RepVs ρ A σ H (m E A) Q
/-- an iterator, abstractly -/
def ItOk (K : PySem.W.Frag) (ρ0 : Nat → Addr) (A0 : AH) (H0 : Hp) (src : Src) (J : It) : Prop := ∀ ρ A H, Nxt K ρ0 A0 H0 ρ A H → ∀ i, match src.at A i with
  | .item d => J.go i H ∧ ∀ x H', J.yld i H x H' → Same H H' ∧ RepV ρ A.length H' d x
  | .stop => J.stop i H
  | .bad => True
abbrev relI (K : PySem.W.Frag) (A : AH) : (Nat → Addr) → Nat → Hp → Src → It → Prop := fun ρ _ H s J => ItOk K ρ A H s J
def PostI (K : PySem.W.Frag) (W : WX) (ρ : Nat → Addr) (A : AH) (σ : Sl) (H : Hp) (r : Res Src) (Q : It → Hp → Prop) : Prop := match r with
  | .ok a B => ∀ ρ' b H', Nxt K ρ A H ρ' B H' → ItOk K ρ' B H' a b → Q b H'
  | .exc x B => ∀ ρ' cls d H', Nxt K ρ A H ρ' B H' → RepX K ρ' B.length H' x cls d → W cls d σ H'
  | .bad => False
def tI (K : PySem.W.Frag) (W : WX) (m : Ix) : TI := fun σ H R => ∃ ρ E A, RepE ρ A.length H E σ ∧ RepA K ρ H A ∧ PostI K W ρ A σ H (m E A) R
def PostS (K : PySem.W.Frag) (W : WX) (ρ : Nat → Addr) (A : AH) (H : Hp) (r : SRes) (Dn : Ends) : Prop := match r with
  | .nx E B => ∀ ρ' σ H', Nxt K ρ A H ρ' B H' → RepE ρ' B.length H' E σ → Dn.nx σ H'
  | .rt d B => ∀ ρ' v H', Nxt K ρ A H ρ' B H' → RepV ρ' B.length H' d v → Dn.rt v H'
  | .bk E B => ∀ ρ' σ H', Nxt K ρ A H ρ' B H' → RepE ρ' B.length H' E σ → Dn.bk σ H'
  | .ct E B => ∀ ρ' σ H', Nxt K ρ A H ρ' B H' → RepE ρ' B.length H' E σ → Dn.ct σ H'
  | .exc x E B => ∀ ρ' cls d σ H', Nxt K ρ A H ρ' B H' → RepE ρ' B.length H' E σ → RepX K ρ' B.length H' x cls d → W cls d σ H'
  | .bad => False
def tS (K : PySem.W.Frag) (W : WX) (m : Sx) : TS := fun Dn σ H => ∃ ρ E A, RepE ρ A.length H E σ ∧ RepA K ρ H A ∧ PostS K W ρ A H (m E A) Dn
/-- a target: of a value -/
def PostG (K : PySem.W.Frag) (W : WX) (ρ : Nat → Addr) (A : AH) (H : Hp) (r : SRes) (Q : Sl → Hp → Prop) : Prop := match r with
  | .nx E B => ∀ ρ' σ H', Nxt K ρ A H ρ' B H' → RepE ρ' B.length H' E σ → Q σ H'
  | .exc x E B => ∀ ρ' cls d σ H', Nxt K ρ A H ρ' B H' → RepE ρ' B.length H' E σ → RepX K ρ' B.length H' x cls d → W cls d σ H'
  | _ => False
def tG (K : PySem.W.Frag) (W : WX) (g : Gx) : TG := fun v σ H Q => ∃ ρ E A d, RepE ρ A.length H E σ ∧ RepA K ρ H A ∧ RepV ρ A.length H d v ∧ PostG K W ρ A H (g d E A) Q
def tGs (K : PySem.W.Frag) (W : WX) (g : Gsx) : TGs := fun vs σ H Q => ∃ ρ E A ds, RepE ρ A.length H E σ ∧ RepA K ρ H A ∧ RepVs ρ A.length H ds vs ∧ PostG K W ρ A H (g ds E A) Q

section
variable {K : PySem.W.Frag} {W : WX} {ρ ρ1 : Nat → Addr} {A B : AH} {σ : Sl} {H H1 : Hp} {r : SRes} {Dn : Ends} {Q : Sl → Hp → Prop}
theorem PostS.later (h : PostS K W ρ A H r Dn) (n : Nxt K ρ A H ρ1 B H1) : PostS K W ρ1 B H1 r Dn := by
  cases r with
  | nx E C => exact fun ρ' σ H' n' r => h ρ' σ H' (n.trans n') r
  | rt d C => exact fun ρ' v H' n' r => h ρ' v H' (n.trans n') r
  | bk E C => exact fun ρ' σ H' n' r => h ρ' σ H' (n.trans n') r
  | ct E C => exact fun ρ' σ H' n' r => h ρ' σ H' (n.trans n') r
  | exc x E C => exact fun ρ' c d σ H' n' r => h ρ' c d σ H' (n.trans n') r
  | bad => exact h
theorem PostG.later (h : PostG K W ρ A H r Q) (n : Nxt K ρ A H ρ1 B H1) : PostG K W ρ1 B H1 r Q := by
  cases r with
  | nx E C => exact fun ρ' σ H' n' r => h ρ' σ H' (n.trans n') r
  | rt d C => exact h
  | bk E C => exact h
  | ct E C => exact h
  | exc x E C => exact fun ρ' c d σ H' n' r => h ρ' c d σ H' (n.trans n') r
  | bad => exact h
/-- an expression ahead of a statement's rest -/
theorem PostS.then {α β : Type} {rel : (Nat → Addr) → Nat → Hp → α → β → Prop} {q : Res α} {E : Env} {f : α → AH → SRes} {Q1 : β → Hp → Prop} (hE : RepE ρ A.length H E σ) (h : PostS K W ρ A H (q.then E f) Dn)
    (hq : ∀ ρ1 a B b H1, Nxt K ρ A H ρ1 B H1 → rel ρ1 B.length H1 a b → PostS K W ρ1 B H1 (f a B) Dn → Q1 b H1) : Post K W rel ρ A σ H q Q1 := by
  cases q with
  | ok a B => exact fun ρ' b H' n r => hq ρ' a B b H' n r (PostS.later h n)
  | exc x B => exact fun ρ' c d H' n r => h ρ' c d σ H' n (hE.ext n.ext) r
  | bad => exact h
theorem PostG.then {α β : Type} {rel : (Nat → Addr) → Nat → Hp → α → β → Prop} {q : Res α} {E : Env} {f : α → AH → SRes} {Q1 : β → Hp → Prop} (hE : RepE ρ A.length H E σ) (h : PostG K W ρ A H (q.then E f) Q)
    (hq : ∀ ρ1 a B b H1, Nxt K ρ A H ρ1 B H1 → rel ρ1 B.length H1 a b → PostG K W ρ1 B H1 (f a B) Q → Q1 b H1) : Post K W rel ρ A σ H q Q1 := by
  cases q with
  | ok a B => exact fun ρ' b H' n r => hq ρ' a B b H' n r (PostG.later h n)
  | exc x B => exact fun ρ' c d H' n r => h ρ' c d σ H' n (hE.ext n.ext) r
  | bad => exact h
end

/-- the judgements -/
def RE (X : Cx) (W : WX) (e : Expr) (m : Ex) : Prop := PE X e (tE X.K W m)
def RT (X : Cx) (W : WX) (e : Expr) (m : Tx) : Prop := PT X e (tT X.K W m)
def RW (X : Cx) (W : WX) (e : Expr) (m : Tx) : Prop := PW X e (tT X.K W m)
def RA (X : Cx) (W : WX) (e : List Expr) (m : Ax) : Prop := PA X e (tAr X.K W m)
def RI (X : Cx) (W : WX) (tg e : Expr) (m : Ix) : Prop := PI X tg e (tI X.K W m)
def RS (X : Cx) (W : WX) (e : Stmt) (m : Sx) : Prop := PS X e (tS X.K W m)
def RSs (X : Cx) (W : WX) (e : List Stmt) (m : Sx) : Prop := PSs X e (tS X.K W m)
def RG (X : Cx) (W : WX) (e : Expr) (m : Gx) : Prop := PG X e (tG X.K W m)
def RGs (X : Cx) (W : WX) (e : List Expr) (m : Gsx) : Prop := PGs X e (tGs X.K W m)
/-- an operation's rule says what the function says -/
def OkL (K : PySem.W.Frag) (r : List V → Hp → VK → Prop) (F : Fn) : Prop := ∀ W ρ A σ H ds vs Q, RepA K ρ H A → RepVs ρ A.length H ds vs → Post K W RepV ρ A σ H (F ds A) Q → r vs H Q
def Ok2 (K : PySem.W.Frag) (r : R2) (F : Fn) : Prop := ∀ W ρ A σ H d e v u Q, RepA K ρ H A → RepV ρ A.length H d v → RepV ρ A.length H e u → Post K W RepV ρ A σ H (F [d, e] A) Q → r v u H Q

section
variable {X : Cx} {W : WX} {pos : Pos}
theorem re_var (i : Nat) {x : Str} (hN : X.N[i]? = some x := by rfl) (hv : Vis X.env.scope x := by first | exact Or.inl rfl | exact Or.inr (Or.inl rfl) | exact Or.inr (Or.inr rfl)) (hd : (x == ("__debug__" : Str)) = false := by decide)
    (hcd : (x == ("__classdict__" : Str)) = false := by decide) : RE X W (.Name x pos) (eVar i) := by
  refine PE.imp (pe_var hN hv hd hcd) fun σ H Q ⟨ρ, E, A, hE, hA, h⟩ => ?_
  have h' : Post X.K W RepV ρ A σ H (okD A E[i]?) Q := h
  cases e : E[i]? with
  | none => rw [e] at h'; exact h'.elim
  | some o =>
    rw [e] at h'
    cases o with
    | none => exact h'.elim
    | some d =>
      obtain ⟨v, h1, h2⟩ := hE.get i d e
      exact ⟨v, h1, h' ρ v H (.refl hA) h2⟩
theorem re_const {e : Expr} {d : D} {v : V} (h : PE X e (L2.tC v)) (r : ∀ ρ n H, RepV ρ n H d v) : RE X W e (eC d) :=
  PE.imp h fun σ H Q ⟨ρ, E, A, hE, hA, q⟩ => q ρ v H (.refl hA) (r _ _ _)
theorem re_int {i j} : RE X W (.Constant (.int i) j pos) (eC (.int i)) := re_const pe_int fun _ _ _ => .int i
theorem re_bl {b j} : RE X W (.Constant (.bool b) j pos) (eC (.bl b)) := re_const pe_bl fun _ _ _ => .bl b
theorem re_non {j} : RE X W (.Constant .none j pos) (eC .non) := re_const pe_non fun _ _ _ => .non
theorem re_str {x j} : RE X W (.Constant (.str x) j pos) (eC (.str x)) := re_const pe_str fun _ _ _ => .str x
/-- a module's number -/
theorem re_globI {x : Str} {i : Int} (hg : Gl X x) (hm : ∃ t, X.mg x = some (.int i t)) (hd : (x == ("__debug__" : Str)) = false := by decide) : RE X W (.Name x pos) (eC (.int i)) := by
  obtain ⟨t, hm⟩ := hm
  exact re_const (pe_glob (v := .int i) hg hm ⟨t, rfl⟩ hd) fun _ _ _ => .int i
theorem re_globS {x z : Str} (hg : Gl X x) (hm : ∃ t, X.mg x = some (.str z t)) (hd : (x == ("__debug__" : Str)) = false := by decide) : RE X W (.Name x pos) (eC (.str z)) := by
  obtain ⟨t, hm⟩ := hm
  exact re_const (pe_glob (v := .str z) hg hm ⟨t, rfl⟩ hd) fun _ _ _ => .str z
theorem re_globN {x : Str} (hg : Gl X x) (hm : X.mg x = some .none) (hd : (x == ("__debug__" : Str)) = false := by decide) : RE X W (.Name x pos) (eC .non) :=
  re_const (pe_glob (v := .non) hg hm rfl hd) fun _ _ _ => .non

/-! ### arguments -/
variable {e a b c : Expr} {es : List Expr} {ma mb mc : Ex} {mr : Ax}
theorem ra_nil : RA X W [] aNil := PA.imp pa_nil fun σ H Q ⟨ρ, E, A, hE, hA, h⟩ => h ρ [] H (.refl hA) .nil
theorem ra_cons (ha : RE X W e ma) (hr : RA X W es mr) (hs : starEach (e :: es) X.env = (false, eval e X.env) :: starEach es X.env := by rfl) : RA X W (e :: es) (aCons ma mr) := by
  refine PA.imp (pa_cons ha hr hs) fun σ H Q ⟨ρ, E, A, hE, hA, h⟩ => ?_
  refine ⟨ρ, E, A, hE, hA, Post.bind h fun ρ1 d B v H1 n1 r1 h1 => ?_⟩
  refine ⟨ρ1, E, B, hE.ext n1.ext, n1.rep, Post.bind h1 fun ρ2 ds C vs H2 n2 r2 h2 => ?_⟩
  exact h2 ρ2 (v :: vs) H2 (.refl n2.rep) (.cons (r1.ext n2.ext) r2)
theorem eF1 {F : Fn} {E : Env} {A : AH} : eF F (aCons ma aNil) E A = (ma E A).bind fun x A1 => F [x] A1 := by
  unfold eF aCons
  cases ma E A <;> rfl
theorem eF2 {F : Fn} {E : Env} {A : AH} : eF F (aCons ma (aCons mb aNil)) E A = (ma E A).bind fun x A1 => (mb E A1).bind fun y A2 => F [x, y] A2 := by
  unfold eF aCons
  cases ma E A with
  | ok d A1 =>
    show ((Res.bind (Res.bind (mb E A1) (kCons aNil E)) (kCons2 d)).bind F) = (mb E A1).bind fun y A2 => F [d, y] A2
    cases e : mb E A1 <;> rfl
  | exc x A1 => rfl
  | bad => rfl
/-- two operands -/
theorem two {r : R2} {F : Fn} (hk : Ok2 X.K r F) {σ : Sl} {H : Hp} {Q : VK} (h : tE X.K W (eF F (aCons ma (aCons mb aNil))) σ H Q) : tOp r (tE X.K W ma) (tE X.K W mb) σ H Q := by
  obtain ⟨ρ, E, A, hE, hA, h⟩ := h
  rw [eF2] at h
  refine ⟨ρ, E, A, hE, hA, Post.bind h fun ρ1 d B v H1 n1 r1 h1 => ?_⟩
  refine ⟨ρ1, E, B, hE.ext n1.ext, n1.rep, Post.bind h1 fun ρ2 d2 C v2 H2 n2 r2 h2 => ?_⟩
  exact hk W ρ2 C σ H2 d d2 v v2 Q n2.rep (r1.ext n2.ext) r2 h2
theorem re_bin {op : Operator} {r : R2} {F : Fn} (ho : OpR X (binaryOp op) r) (hk : Ok2 X.K r F) (ha : RE X W a ma) (hb : RE X W b mb) : RE X W (.BinOp a op b pos) (eF F (aCons ma (aCons mb aNil))) :=
  PE.imp (pe_op ho ha hb) fun σ H Q h => two hk h
theorem re_cmp {op : CmpOp} {r : R2} {F : Fn} (ho : OpR X (compareOp op) r) (hk : Ok2 X.K r F) (ha : RE X W a ma) (hb : RE X W b mb) (hm : behindInMarks op b = false) : RE X W (.Compare a [op] [b] pos) (eF F (aCons ma (aCons mb aNil))) :=
  PE.imp (pe_cmpR ho ha hb hm) fun σ H Q h => two hk h
theorem rt_cmp {op : CmpOp} {r : R2} {F : Fn} (ho : OpR X (compareOp op) r) (hk : Ok2 X.K r F) (ha : RE X W a ma) (hb : RE X W b mb) (hm : behindInMarks op b = false) : RT X W (.Compare a [op] [b] pos) (tB (eF F (aCons ma (aCons mb aNil)))) := by
  refine PT.imp (pt_cmpR ho ha hb hm) fun σ H Q ⟨ρ, E, A, hE, hA, h⟩ => two hk (W := W) ⟨ρ, E, A, hE, hA, Post.bind h fun ρ1 d B v H1 n1 r1 h1 => ?_⟩
  cases d with
  | bl k =>
    cases r1
    exact ⟨k, rfl, h1 ρ1 k H1 (.refl n1.rep) rfl⟩
  | _ => exact h1.elim
theorem re_ix {r : R2} {F : Fn} (ho : IxR X r) (hk : Ok2 X.K r F) (ha : RE X W a ma) (hb : RE X W b mb) (hs : PlainIx b) : RE X W (.Subscript a b pos) (eF F (aCons ma (aCons mb aNil))) :=
  PE.imp (pe_ix ho ha hb hs) fun σ H Q h => two hk h
theorem re_un {op : UnaryOp} {r : V → Hp → VK → Prop} {F : Fn} (ho : UnR X (unaryOp op) r) (hk : OkL X.K (fun vs H Q => ∃ v, vs = [v] ∧ r v H Q) F) (ha : RE X W a ma) : RE X W (.UnaryOp op a pos) (eF F (aCons ma aNil)) := by
  refine PE.imp (pe_un ho ha) fun σ H Q ⟨ρ, E, A, hE, hA, h⟩ => ?_
  rw [eF1] at h
  refine ⟨ρ, E, A, hE, hA, Post.bind h fun ρ1 d B v H1 n1 r1 h1 => ?_⟩
  obtain ⟨v', e, q⟩ := hk W ρ1 B σ H1 [d] [v] Q n1.rep (.cons r1 .nil) h1
  cases e
  exact q
/-- a built-in by its name, a built-in class -/
theorem many {r : List V → Hp → VK → Prop} {F : Fn} (hk : OkL X.K r F) {σ : Sl} {H : Hp} {Q : VK} (h : tE X.K W (eF F mr) σ H Q) : tCB r (tAr X.K W mr) σ H Q := by
  obtain ⟨ρ, E, A, hE, hA, h⟩ := h
  refine ⟨ρ, E, A, hE, hA, Post.bind h fun ρ1 ds B vs H1 n1 r1 h1 => ?_⟩
  exact hk W ρ1 B σ H1 ds vs Q n1.rep r1 h1
theorem re_callB {id : String} {x : Str} {p : Pos} {r : List V → Hp → VK → Prop} {F : Fn} (hc : CallR X (.builtin id) r) (hk : OkL X.K r F) (hg : Gl X x) (hm : X.mg x = none) (hv : bootBuiltins x = some (.builtin id)) (ha : RA X W (e :: es) mr)
    (hn : x ≠ "__name__" := by decide) (hdb : (x == ("__debug__" : Str)) = false := by decide) (he : starEach (e :: es) X.env = (false, eval e X.env) :: starEach es X.env := by rfl) (hpl : (backTo pos (starEach es X.env)).any (·.1) = false := by rfl) :
    RE X W (.Call (.Name x p) (e :: es) [] pos) (eF F mr) := PE.imp (pe_callB hc hg hm hv ha hn hdb he hpl) fun σ H Q h => many hk h
theorem re_callTy {T : String} {x : Str} {p : Pos} {r : List V → Hp → VK → Prop} {F : Fn} (hc : CallR X (.type T) r) (hk : OkL X.K r F) (hg : Gl X x) (hm : X.mg x = none) (hv : bootBuiltins x = some (.type T)) (ha : RA X W (e :: es) mr)
    (hn : x ≠ "__name__" := by decide) (hdb : (x == ("__debug__" : Str)) = false := by decide) (he : starEach (e :: es) X.env = (false, eval e X.env) :: starEach es X.env := by rfl) (hpl : (backTo pos (starEach es X.env)).any (·.1) = false := by rfl) :
    RE X W (.Call (.Name x p) (e :: es) [] pos) (eF F mr) := PE.imp (pe_callTy hc hg hm hv ha hn hdb he hpl) fun σ H Q h => many hk h
end
end DL
set_option Elab.async false
set_option linter.all false
set_option maxRecDepth 100000
set_option maxHeartbeats 4000000
/-! Calls, tests, statements, loops (own work). -/
namespace DL
open PySem PySem.Spec PyProof.Rows L2

/-- the promise of a def of n parameters: it does what F says -/
def spD (K : PySem.W.Frag) (n : Nat) (F : Fn) : Sp := fun vs H Q E => vs.length = n ∧ ∃ ρ ds A, RepVs ρ A.length H ds vs ∧ RepA K ρ H A ∧ Post K (fun c d _ H' => E c d H') RepV ρ A [] H (F ds A) Q
/-- a wish about exceptions does not look at the slots -/
theorem Post.wish {α β : Type} {K : PySem.W.Frag} {W W' : WX} {rel : (Nat → Addr) → Nat → Hp → α → β → Prop} {ρ : Nat → Addr} {A : AH} {σ σ' : Sl} {H : Hp} {r : Res α} {Q : β → Hp → Prop} (h : Post K W rel ρ A σ H r Q) (hw : ∀ c d H', W c d σ H' → W' c d σ' H') : Post K W' rel ρ A σ' H r Q := by
  cases r with
  | ok a B => exact h
  | exc x B => exact fun ρ' c d H' n r => hw _ _ _ (h ρ' c d H' n r)
  | bad => exact h

/-- what every body's context has -/
structure Ctx (X : Cx) (W : WX) (k : Nat) : Prop where
  calm : X.calm = true
  nd : X.N.Nodup
  tk : Takes X W
  po : PassesOwn (model X.prog X.w) X.A X.env X.xe
  room : Room k X.A
theorem Ctx.mono {X : Cx} {W : WX} {k j : Nat} (c : Ctx X W k) (h : j ≤ k) : Ctx X W j := ⟨c.calm, c.nd, c.tk, c.po, c.room.mono h⟩
/-- a def stands at f and does what F says -/
structure DefOk (P : Program) (w : World) (K : PySem.W.Frag) (mg : Str → Option Value) (base : Heap) (k : Nat) (f : Addr) (ps : List Str) (ds : List Value) (n : Nat) (F : Fn) : Prop where
  ex : ∃ fd, FnOk P w K mg base (L2.CX P w) k f fd ps (spD K n F) ∧ Binds K fd ps ds
  kp : PySem.W.keepIn K (.ref f) = true
theorem DefOk.mono {P : Program} {w : World} {K : PySem.W.Frag} {mg : Str → Option Value} {base : Heap} {j k : Nat} {f : Addr} {ps : List Str} {ds : List Value} {n : Nat} {F : Fn} (d : DefOk P w K mg base j f ps ds n F) (h : j ≤ k) : DefOk P w K mg base k f ps ds n F := by
  obtain ⟨fd, g, b⟩ := d.ex
  exact ⟨⟨fd, g.mono h, b⟩, d.kp⟩

section
variable {X : Cx} {W : WX} {k : Nat} {f : Addr} {ps : List Str} {ds : List Value} {n : Nat} {F : Fn} {x m : Str} {p pos apos : Pos} {e o a b : Expr} {es : List Expr} {mr : Ax} {mo ma mb : Ex} {dd : List D} {dv : List V}
/-- the call itself -/
theorem run_def {fd : FuncData} (G : FnOk X.prog X.w X.K X.mg X.base (L2.CX X.prog X.w) k f fd ps (spD X.K n F)) (hb : Binds X.K fd ps ds) (hr : Room k X.A) (tk : Takes X W) (hd : Vals dv ds) (hD : ∀ ρ n H, RepVs ρ n H dd dv)
    {pins : List (Addr × Obj)} {σ : Sl} {H : Hp} {s : Shared} {Q : VK} {us : List Value} {vs : List V} {ρ : Nat → Addr} {A : AH} {xs : List D} (I : Inv X pins σ H s) (r : Vals vs us) (hA : RepA X.K ρ H A) (hv : RepVs ρ A.length H xs vs)
    (h : Post X.K W RepV ρ A σ H (F (xs ++ dd) A) Q) (hl : (vs ++ dv).length = n) : wpAny (model X.prog X.w) X.A (call (.ref f) us) (EP X pins σ Q) X.xe s :=
  run_fnSD (E := WE W) G hr hb hd (passAt tk σ) I r ⟨hl, ρ, xs ++ dd, A, hv.app (hD ρ A.length H), hA, Post.wish h fun _ _ _ z => z⟩
/-- a Fn that asks n arguments -/
def Asks (n : Nat) (F : Fn) : Prop := ∀ xs A, F xs A ≠ .bad → xs.length = n
theorem Asks.run {np N : Nat} {b : Sx} : Asks np (runDef np N b) := fun xs A h => by
  by_cases e : xs.length = np
  · exact e
  · exact absurd (if_neg e) h
theorem Post.ne {α β : Type} {K : PySem.W.Frag} {W : WX} {rel : (Nat → Addr) → Nat → Hp → α → β → Prop} {ρ : Nat → Addr} {A : AH} {σ : Sl} {H : Hp} {r : Res α} {Q : β → Hp → Prop} (h : Post K W rel ρ A σ H r Q) : r ≠ .bad := by
  intro e
  rw [e] at h
  exact h
theorem lenD (hn : Asks n F) {xs : List D} {A : AH} {vs : List V} {ρ : Nat → Addr} {H : Hp} (hD : RepVs ρ A.length H dd dv) (hv : RepVs ρ A.length H xs vs) (h : F (xs ++ dd) A ≠ .bad) : (vs ++ dv).length = n := by
  rw [← (hv.app hD).len]
  exact hn _ _ h
/-- f(e, ..) -/
theorem re_call (G : DefOk X.prog X.w X.K X.mg X.base k f ps ds n F) (c : Ctx X W k) (hn : Asks n F) (hg : Gl X x) (hm : X.mg x = some (.ref f)) (hd : Vals dv ds) (hD : ∀ ρ n H, RepVs ρ n H dd dv) (ha : RA X W (e :: es) mr)
    (hdb : (x == ("__debug__" : Str)) = false := by decide) (he : starEach (e :: es) X.env = (false, eval e X.env) :: starEach es X.env := by rfl) (hpl : (backTo pos (starEach es X.env)).any (·.1) = false := by rfl) :
    RE X W (.Call (.Name x p) (e :: es) [] pos) (eF (fun xs A => F (xs ++ dd) A) mr) := by
  obtain ⟨fd, G1, hb⟩ := G.ex
  refine ⟨fun pins s σ H Q I ⟨ρ, E, A, hE, hA, h⟩ => ?_⟩
  refine wpAny_Call_Name_kw (ld_glob I hg hm ?_ hdb)
  have q := ha.run pos pins s σ H _ I ⟨ρ, E, A, hE, hA, Post.bind h fun ρ1 xs B vs H1 n1 r1 h1 => (⟨ρ1, xs, B, n1.rep, r1, h1⟩ : ∃ ρ1 xs B, RepA X.K ρ1 H1 B ∧ RepVs ρ1 B.length H1 xs vs ∧ Post X.K W RepV ρ1 B σ H1 (F (xs ++ dd) B) Q)⟩
  refine PySem.W.callWith_K (h₀ := X.base) I.ok.mod.kin G.kp (thn q fun us s1 ⟨vs, H1, I1, rv, ρ1, xs, B, hB, r1, h1⟩ => ⟨I1.kIn, ?_⟩) he hpl
  exact run_def G1 hb c.room c.tk hd hD I1 rv hB r1 h1 (lenD hn (hD _ _ _) r1 (Post.ne h1))
theorem re_call0 (G : DefOk X.prog X.w X.K X.mg X.base k f ps ds n F) (c : Ctx X W k) (hn : Asks n F) (hg : Gl X x) (hm : X.mg x = some (.ref f)) (hd : Vals dv ds) (hD : ∀ ρ n H, RepVs ρ n H dd dv)
    (hdb : (x == ("__debug__" : Str)) = false := by decide) : RE X W (.Call (.Name x p) [] [] pos) (eF (fun xs A => F (xs ++ dd) A) aNil) := by
  obtain ⟨fd, G1, hb⟩ := G.ex
  refine ⟨fun pins s σ H Q I ⟨ρ, E, A, hE, hA, h⟩ => ?_⟩
  refine wpAny_Call_Name_kw (ld_glob I hg hm ?_ hdb)
  have h1 : Post X.K W RepV ρ A σ H (F ([] ++ dd) A) Q := h
  exact PySem.W.callWith_K0 I.kIn G.kp (run_def (us := []) (xs := []) G1 hb c.room c.tk hd hD I .nil hA .nil h1 (lenD (ρ := ρ) (A := A) (H := H) hn (hD _ _ _) .nil (Post.ne h1)))
/-- an instance of the class, as the method's look-up sees it -/
theorem ins_of {K : PySem.W.Frag} {ρ : Nat → Addr} {A : AH} {H : Hp} {c : Nat} {d : D} {v : V} (hA : RepA K ρ H A) (hv : RepV ρ A.length H d v) (h : isIns c A d = true) : ∃ a dx gs fs, v = .ref a ∧ H a = some (.ins (clsA K c) dx gs) ∧ RepF ρ A.length H fs gs ∧ ∃ i, d = .ref i ∧ A[i]? = some (.ins c fs) := by
  cases hv with
  | @ref i hi =>
    have h' : (match A[i]? with | some (.ins c' _) => c == c' | _ => false) = true := h
    cases e : A[i]? with
    | none => rw [e] at h'; cases h'
    | some u =>
      rw [e] at h'
      cases u with
      | ins c' fs =>
        have ec : c = c' := by simpa using h'
        subst ec
        obtain ⟨dx, gs, h1, h2⟩ := hA.objs i _ e
        exact ⟨ρ i, dx, gs, fs, rfl, h1, h2, i, rfl, e⟩
      | _ => cases h'
  | _ => cases h
/-- o.m(e, ..); the method's name is no attribute's -/
theorem re_meth {pl : Sem Bool} {C : Nat} (G : DefOk X.prog X.w X.K X.mg X.base k f ps ds n F) (c : Ctx X W k) (hn : Asks n F) (cl : Cls X.K (clsA X.K C)) (hm : Meth X.K (clsA X.K C) m f) (hout : m ∉ fldN) (hd : Vals dv ds) (hD : ∀ ρ n H, RepVs ρ n H dd dv) (ho : RE X W o mo) (ha : RA X W (e :: es) mr)
    (hst : starEach (e :: es) X.env = (false, eval e X.env) :: starEach es X.env := by rfl) (hpl : (backTo pos (starEach es X.env)).any (·.1) = false := by rfl)
    (ht : eval (.Call (.Attribute o m apos) (e :: es) [] pos) X.env = (do
      let ov ← eval o X.env
      standAt apos.atName
      let (f, first) ← holding [ov] (getMethod ov m pl)
      callWith pos f first (backTo pos (starEach (e :: es) X.env)) (backToKw pos (keywordEach [] X.env))) := by rfl) :
    RE X W (.Call (.Attribute o m apos) (e :: es) [] pos) (eM C (fun xs A => F (xs ++ dd) A) mo mr) := by
  obtain ⟨fd, G1, hb⟩ := G.ex
  refine ⟨fun pins s σ H Q I ⟨ρ, E, A, hE, hA, h⟩ => ?_⟩
  have q0 := ho.run pins s σ H _ I ⟨ρ, E, A, hE, hA, Post.bind h fun ρ1 d B v H1 n1 r1 h1 => (⟨ρ1, d, B, n1, r1, h1⟩ : ∃ ρ1 d B, Nxt X.K ρ A H ρ1 B H1 ∧ RepV ρ1 B.length H1 d v ∧ Post X.K W RepV ρ1 B σ H1 (kM C (fun xs A => F (xs ++ dd) A) mr E d B) Q)⟩
  refine PySem.W.methodCall_KW (pl := pl) (thn q0 fun u s1 ⟨v, H1, I1, rx, ρ1, d, B, n1, r1, h1⟩ => ?_) ht
  have hi : isIns C B d = true := by
    cases z : isIns C B d with
    | true => rfl
    | false =>
      unfold kM at h1
      rw [z] at h1
      exact h1.elim
  have h2 : Post X.K W RepV ρ1 B σ H1 ((mr E B).bind (kM2 (fun xs A => F (xs ++ dd) A) d)) Q := by
    unfold kM at h1
    rw [if_pos hi] at h1
    exact h1
  obtain ⟨a, dx, gs, fs, rfl, ea, rf, _⟩ := ins_of n1.rep r1 hi
  obtain rfl : u = Value.ref a := rx
  refine getmeth_ok I1 ea cl hm (rf.out hout) ?_
  have q := ha.run pos pins s1 σ H1 _ I1 ⟨ρ1, E, B, hE.ext n1.ext, n1.rep, Post.bind h2 fun ρ2 xs B2 vs H2 n2 r2 h3 => (⟨ρ2, xs, B2, n2, r2, h3⟩ : ∃ ρ2 xs B2, Nxt X.K ρ1 B H1 ρ2 B2 H2 ∧ RepVs ρ2 B2.length H2 xs vs ∧ Post X.K W RepV ρ2 B2 σ H2 (kM2 (fun xs A => F (xs ++ dd) A) d xs B2) Q)⟩
  refine PySem.W.callWith_K (first := [.ref a]) (h₀ := X.base) I.ok.mod.kin hm.kp (thn q fun us s2 ⟨vs, H2, I2, rv, ρ2, xs, B2, n2, r2, h3⟩ => ⟨I2.kIn, ?_⟩) hst hpl
  have r3 : RepVs ρ2 B2.length H2 (d :: xs) (.ref a :: vs) := .cons (r1.ext n2.ext) r2
  exact run_def (us := .ref a :: us) (vs := .ref a :: vs) (xs := d :: xs) G1 hb c.room c.tk hd hD I2 (.cons rfl rv) n2.rep r3 h3 (lenD hn (hD _ _ _) r3 (Post.ne h3))
theorem re_meth0 {pl : Sem Bool} {C : Nat} (G : DefOk X.prog X.w X.K X.mg X.base k f ps ds n F) (c : Ctx X W k) (hn : Asks n F) (cl : Cls X.K (clsA X.K C)) (hm : Meth X.K (clsA X.K C) m f) (hout : m ∉ fldN) (hd : Vals dv ds) (hD : ∀ ρ n H, RepVs ρ n H dd dv) (ho : RE X W o mo)
    (ht : eval (.Call (.Attribute o m apos) [] [] pos) X.env = (do
      let ov ← eval o X.env
      standAt apos.atName
      let (f, first) ← holding [ov] (getMethod ov m pl)
      callWith pos f first (backTo pos (starEach [] X.env)) (backToKw pos (keywordEach [] X.env))) := by rfl) :
    RE X W (.Call (.Attribute o m apos) [] [] pos) (eM C (fun xs A => F (xs ++ dd) A) mo aNil) := by
  obtain ⟨fd, G1, hb⟩ := G.ex
  refine ⟨fun pins s σ H Q I ⟨ρ, E, A, hE, hA, h⟩ => ?_⟩
  have q0 := ho.run pins s σ H _ I ⟨ρ, E, A, hE, hA, Post.bind h fun ρ1 d B v H1 n1 r1 h1 => (⟨ρ1, d, B, n1, r1, h1⟩ : ∃ ρ1 d B, Nxt X.K ρ A H ρ1 B H1 ∧ RepV ρ1 B.length H1 d v ∧ Post X.K W RepV ρ1 B σ H1 (kM C (fun xs A => F (xs ++ dd) A) aNil E d B) Q)⟩
  refine PySem.W.methodCall_KW (pl := pl) (thn q0 fun u s1 ⟨v, H1, I1, rx, ρ1, d, B, n1, r1, h1⟩ => ?_) ht
  have hi : isIns C B d = true := by
    cases z : isIns C B d with
    | true => rfl
    | false =>
      unfold kM at h1
      rw [z] at h1
      exact h1.elim
  have h2 : Post X.K W RepV ρ1 B σ H1 (F ([d] ++ dd) B) Q := by
    unfold kM at h1
    rw [if_pos hi] at h1
    exact h1
  obtain ⟨a, dx, gs, fs, rfl, ea, rf, _⟩ := ins_of n1.rep r1 hi
  obtain rfl : u = Value.ref a := rx
  refine getmeth_ok I1 ea cl hm (rf.out hout) ?_
  have r3 : RepVs ρ1 B.length H1 [d] [.ref a] := .cons r1 .nil
  exact PySem.W.callWith_K0 (first := [.ref a]) I1.kIn hm.kp (run_def (us := [.ref a]) (vs := [.ref a]) (xs := [d]) G1 hb c.room c.tk hd hD I1 (.cons rfl .nil) n1.rep r3 h2 (lenD hn (hD _ _ _) r3 (Post.ne h2)))
end
end DL
set_option Elab.async false
set_option linter.all false
set_option maxRecDepth 100000
set_option maxHeartbeats 4000000
/-! A def keeps the promise that its body's function makes (own work). -/
namespace DL
open PySem PySem.Spec PyProof.Rows L2
section
variable {K : PySem.W.Frag} {ρ ρ' : Nat → Addr} {A B : AH} {H H' : Hp} {n : Nat} {a : Addr} {o : O} {i : Nat}
theorem RepF.bd : ∀ {fs : List (Nat × D)} {gs : List (Str × V)}, RepF ρ n H fs gs → (fs.all fun p => p.2.bd n) = true
  | [], _, .nil => rfl
  | _ :: _, _, .cons _ b c => by rw [List.all_cons, RepF.bd c]; simp [RepV.bd b]
theorem keyD_bd {d : D} {k : Key} (h : keyD d = some k) : d.bd n = true := by
  cases d with
  | int i => simp [D.bd]
  | str x => simp [D.bd]
  | _ => cases h
theorem keysD_bd : ∀ {ds : List D} {ks : List Key}, keysD ds = some ks → bdAll n ds = true
  | [], _, _ => by simp [bdAll]
  | d :: ds, ks, h => by
    unfold keysD at h
    cases e1 : keyD d with
    | none => rw [e1] at h; cases h
    | some k =>
      cases e2 : keysD ds with
      | none => rw [e1, e2] at h; cases h
      | some r => simp [bdAll, keyD_bd e1, keysD_bd e2]
theorem keyT_bd {d : D} {k : List Key} (h : keyT d = some k) : d.bd n = true := by
  cases d with
  | tup ds => simp only [D.bd]; exact keysD_bd h
  | _ => cases h
theorem RepK.bd {κ : Type} {kf : D → Option κ} (hk : ∀ d k, kf d = some k → d.bd n = true) : ∀ {fs : List (D × D)} {gs : List (κ × V)}, RepK kf ρ n H fs gs → (fs.all fun p => p.1.bd n && p.2.bd n) = true
  | [], _, .nil => rfl
  | _ :: _, _, .cons a b c => by
    rw [List.all_cons, RepK.bd hk c]
    simp [RepV.bd b, hk _ _ a]
theorem RepA.bd (R : RepA K ρ H A) (h : A[i]? = some o) : o.bd A.length = true := by
  cases o with
  | lst ds =>
    obtain ⟨vs, _, r⟩ := R.objs i _ h
    exact r.bd
  | rol ds =>
    obtain ⟨vs, r, _⟩ := R.rols i _ h
    exact r.bd
  | dic kvs =>
    obtain ⟨gs, _, r⟩ := R.objs i _ h
    exact r.bd fun _ _ => keyD_bd
  | dit kvs =>
    obtain ⟨gs, _, r⟩ := R.objs i _ h
    exact r.bd fun _ _ => keyT_bd
  | ins c fs =>
    obtain ⟨dx, gs, _, r⟩ := R.objs i _ h
    exact r.bd
  | fro kvs =>
    obtain ⟨_, gs, _, r⟩ := R.objs i _ h
    exact r.bd fun _ _ => keyD_bd
theorem take_get {j : Nat} (h : (B.take n)[j]? = some o) : j < n ∧ B[j]? = some o := by
  rw [List.getElem?_take] at h
  by_cases z : j < n
  · rw [if_pos z] at h; exact ⟨z, h⟩
  · rw [if_neg z] at h; cases h
/-- the first numbers alone -/
theorem Nxt.cut (R : RepA K ρ H A) (x : Nxt K ρ A H ρ' B H') (p : okPre A (B.take A.length)) : Nxt K ρ A H ρ' (B.take A.length) H' := by
  obtain ⟨pl, po⟩ := p
  have b : ∀ (j : Nat) (u : O), (B.take A.length)[j]? = some u → u.bd A.length = true := fun j u h => by
    rcases po j u h with h | h
    · exact R.bd h
    · exact h
  refine ⟨⟨by rw [pl]; exact Nat.le_refl _, x.ext.same, x.ext.tups, x.ext.frzs⟩, fun i u h => ?_, fun i ds h => ?_, fun i j u w h1 h2 => x.rep.inj i j u w (take_get h1).2 (take_get h2).2⟩
  · rw [pl]
    exact (x.rep.objs i u (take_get h).2).cut (b i u h)
  · rw [pl]
    obtain ⟨vs, r, q⟩ := x.rep.rols i ds (take_get h).2
    refine ⟨vs, r.cut (b i _ h), ?_⟩
    rcases q with q | ⟨q, q2⟩
    · exact .inl q
    · exact .inr ⟨q, fun j u hj m => q2 j u (take_get hj).2 m⟩
/-- the first numbers and one more object under the next number -/
theorem Nxt.move (R : RepA K ρ H A) (x : Nxt K ρ A H ρ' B H') (p : okPre A (B.take A.length)) (hi : A.length ≤ i) (hb : B[i]? = some o) (m : o.mut = true) (ob : o.bd A.length = true) :
    ∃ ρ2, ρ2 A.length = ρ' i ∧ Nxt K ρ A H ρ2 (B.take A.length ++ [o]) H' := by
  have c := Nxt.cut R x p
  obtain ⟨pl, po⟩ := p
  have e : Ext ρ' A.length H' (fun j => if j = A.length then ρ' i else ρ' j) (A.length + 1) H' := ⟨Nat.le_succ _, fun j h => if_neg (Nat.ne_of_lt h), fun _ _ h => h, fun _ _ _ h => h⟩
  refine ⟨fun j => if j = A.length then ρ' i else ρ' j, if_pos rfl, ?_⟩
  have len : (B.take A.length ++ [o]).length = A.length + 1 := by rw [List.length_append, pl]; rfl
  have ge : ∀ (j : Nat) (u : O), (B.take A.length ++ [o])[j]? = some u → (j < A.length ∧ (B.take A.length)[j]? = some u) ∨ (j = A.length ∧ u = o) := fun j u h => by
    by_cases z : j < A.length
    · rw [List.getElem?_append_left (by rw [pl]; exact z)] at h; exact .inl ⟨z, h⟩
    · have hl := lt_of_get h
      rw [len] at hl
      have ej : j = A.length := by omega
      subst ej
      rw [List.getElem?_append_right (by rw [pl]; exact Nat.le_refl _), pl, Nat.sub_self] at h
      exact .inr ⟨rfl, (Option.some.inj h).symm⟩
  have rO := x.rep.objs i o hb
  have far : ∀ (j : Nat) (u : O), (B.take A.length)[j]? = some u → u.mut = true → ρ' j ≠ ρ' i := fun j u h mu z => by
    have q := x.rep.inj j i u o (take_get h).2 hb mu m z
    have := (take_get h).1
    omega
  refine ⟨⟨by rw [len]; exact Nat.le_succ _, fun j h => by rw [if_neg (Nat.ne_of_lt h)]; exact x.ext.same j h, x.ext.tups, x.ext.frzs⟩, fun j u h => ?_, fun j ds h => ?_, fun j k u w h1 h2 m1 m2 z => ?_⟩
  · rw [len]
    rcases ge j u h with ⟨hj, h⟩ | ⟨rfl, rfl⟩
    · show RepO K _ _ _ (if j = A.length then ρ' i else ρ' j) u
      rw [if_neg (Nat.ne_of_lt hj)]
      have q := c.rep.objs j u h
      rw [pl] at q
      exact q.ext e rfl
    · show RepO K _ _ _ (if A.length = A.length then ρ' i else ρ' A.length) u
      rw [if_pos rfl]
      exact (rO.cut ob).ext e rfl
  · rw [len]
    rcases ge j _ h with ⟨hj, h⟩ | ⟨rfl, rfl⟩
    · obtain ⟨vs, r, q⟩ := x.rep.rols j ds (take_get h).2
      have b : (O.rol ds).bd A.length = true := by
        rcases po j _ h with h | h
        · exact R.bd h
        · exact h
      have r2 : RepVs ρ' A.length H' ds vs := r.cut b
      refine ⟨vs, r2.ext e, ?_⟩
      show KL K (if j = A.length then ρ' i else ρ' j) vs ∨ (Rd H' (if j = A.length then ρ' i else ρ' j) _ ∧ ∀ k u, _ → _ → (if k = A.length then ρ' i else ρ' k) ≠ (if j = A.length then ρ' i else ρ' j))
      rw [if_neg (Nat.ne_of_lt hj)]
      rcases q with q | ⟨q, q2⟩
      · exact .inl q
      · refine .inr ⟨q, fun k u hk mu => ?_⟩
        rcases ge k u hk with ⟨hkl, hk⟩ | ⟨rfl, rfl⟩
        · rw [if_neg (Nat.ne_of_lt hkl)]; exact q2 k u (take_get hk).2 mu
        · rw [if_pos rfl]; exact q2 i u hb m
    · cases m
  · have z' : (if j = A.length then ρ' i else ρ' j) = (if k = A.length then ρ' i else ρ' k) := z
    rcases ge j u h1 with ⟨hj, g1⟩ | ⟨ej, eu⟩ <;> rcases ge k w h2 with ⟨hk, g2⟩ | ⟨ek, ew⟩
    · rw [if_neg (Nat.ne_of_lt hj), if_neg (Nat.ne_of_lt hk)] at z'
      exact c.rep.inj j k u w g1 g2 m1 m2 z'
    · rw [if_neg (Nat.ne_of_lt hj), if_pos ek] at z'
      exact absurd z' (far j u g1 m1)
    · rw [if_pos ej, if_neg (Nat.ne_of_lt hk)] at z'
      exact absurd z'.symm (far k w g2 m2)
    · rw [ej, ek]
/-- what is handed back -/
theorem gc_post {W : WX} {σ : Sl} {d : D} {Q : VK} (R : RepA K ρ H A) (h : Post K W RepV ρ A σ H (gc A d B) Q) {v : V} (x : Nxt K ρ A H ρ' B H') (r : RepV ρ' B.length H' d v) : Q v H' := by
  unfold gc at h
  by_cases c1 : d.bd A.length = true ∧ okPre A (B.take A.length)
  · rw [if_pos c1] at h
    refine h ρ' v H' (Nxt.cut R x c1.2) ?_
    rw [c1.2.1]
    exact r.cut c1.1
  · rw [if_neg c1] at h
    cases e : refO A B d with
    | none =>
      rw [e] at h
      exact h ρ' v H' x r
    | some o =>
      rw [e] at h
      simp only [gcO] at h
      by_cases c2 : o.mut = true ∧ o.bd A.length = true ∧ okPre A (B.take A.length)
      · have h' := h
        rw [if_pos c2] at h'
        cases d with
        | ref i =>
          have e' : (if A.length ≤ i then B[i]? else none) = some o := e
          by_cases hi : A.length ≤ i
          · rw [if_pos hi] at e'
            obtain ⟨ρ2, q1, q2⟩ := Nxt.move R x c2.2.2 hi e' c2.1 c2.2.1
            cases r with
            | ref hl =>
              rw [← q1]
              refine h' ρ2 _ H' q2 (.ref ?_)
              rw [List.length_append, c2.2.2.1]
              exact Nat.lt_succ_self _
          · rw [if_neg hi] at e'; cases e'
        | _ => cases e
      · have h' := h
        rw [if_neg c2] at h'
        exact h' ρ' v H' x r
theorem gcX_post {W : WX} {σ : Sl} {e : Exn} {Q : VK} (R : RepA K ρ H A) (h : Post K W RepV ρ A σ H (gcX A e B) Q) {cls : Value} {dd : Option Addr} (x : Nxt K ρ A H ρ' B H') (r : RepX K ρ' B.length H' e cls dd) : W cls dd σ H' := by
  unfold gcX at h
  by_cases c1 : (e.fs.all fun p => p.2.bd A.length) = true ∧ okPre A (B.take A.length)
  · rw [if_pos c1] at h
    refine h ρ' cls dd H' (Nxt.cut R x c1.2) ?_
    rw [c1.2.1]
    obtain ⟨r1, r2⟩ := r
    refine ⟨r1, ?_⟩
    rcases r2 with r2 | ⟨a, gs, q1, q2, q3⟩
    · exact .inl r2
    · exact .inr ⟨a, gs, q1, q2, q3.cut c1.1⟩
  · rw [if_neg c1] at h
    exact h ρ' cls dd H' x r
end
theorem startE_rep {ρ : Nat → Addr} {n : Nat} {H : Hp} {N : List Str} {ds : List D} {vs : List V} (r : RepVs ρ n H ds vs) : RepE ρ n H (startE N.length ds) (L2.start N vs) := by
  have hl := r.len
  refine ⟨by unfold startE L2.start; simp [hl], fun i d e => ?_⟩
  unfold startE at e
  unfold L2.start
  by_cases z : i < ds.length
  · rw [List.getElem?_append_left (by simpa using z), List.getElem?_map] at e
    obtain ⟨c, e1, e2⟩ := Option.map_eq_some_iff.mp e
    cases e2
    obtain ⟨v, q1, q2⟩ := r.get e1
    exact ⟨v, by rw [List.getElem?_append_left (by simpa [← hl] using z), List.getElem?_map, q1]; rfl, q2⟩
  · rw [List.getElem?_append_right (by simpa using z)] at e
    have := List.mem_of_getElem? e
    rw [List.mem_replicate] at this
    cases this.2
section
variable {P : Program} {w : World} {K : PySem.W.Frag} {mg : Str → Option Value} {base : Heap} {x qual : Str} {params : Arguments} {body : List Stmt} {scope : Scope} {dvs : List V} {kws : List (Str × V)} {f : Addr} {fd : FuncData}
/-- the context of a def's body -/
abbrev cxD (P : Program) (w : World) (K : PySem.W.Frag) (mg : Str → Option Value) (base : Heap) (N : List Str) (qual : Str) (scope : Scope) (f : Addr) (cdv : Value) (A : Around) (outer : List PySem.Env) (s : Shared) (H : Hp) (E : XK) : Cx := cxOf (L2.CX P w) P w K mg base N qual scope f cdv A outer s H E
abbrev wxD (E : XK) : WX := fun c d _ H => E c d H
theorem def_okF {N ps : List Str} {k : Nat} {b : Sx} (F : FunD K x qual params body scope dvs kws f fd) (S : FnScope N ps scope)
    (hb : ∀ (cdv : Value) (A : Around) (outer : List PySem.Env) (s : Shared) (H : Hp) (E : XK), Ctx (cxD P w K mg base N qual scope f cdv A outer s H E) (wxD E) k → RSs (cxD P w K mg base N qual scope f cdv A outer s H E) (wxD E) body b) :
    FnOk P w K mg base (L2.CX P w) (k + 1) f fd ps (spD K ps.length (runDef ps.length N.length b)) := by
  refine F.ok S (fun vs H Q E h => h.1) fun cdv A outer s H vs Q E hr h => ?_
  have c : Ctx (cxD P w K mg base N qual scope f cdv A outer s H E) (wxD E) k := ⟨rfl, S.nd, takes_of rfl rfl rfl rfl, passes_of rfl, hr⟩
  refine ⟨_, hb cdv A outer s H E c, ?_⟩
  obtain ⟨hl, ρ, xs, C, hv, hA, hp⟩ := h
  refine ⟨ρ, startE N.length xs, C, startE_rep hv, hA, ?_⟩
  have hx : xs.length = ps.length := by rw [hv.len]; exact hl
  unfold runDef at hp
  rw [if_pos hx] at hp
  cases e : b (startE N.length xs) C with
  | nx E1 B =>
    rw [e] at hp
    exact fun ρ' σ H' n r => gc_post hA hp n .non
  | rt d B =>
    rw [e] at hp
    exact fun ρ' v H' n r => gc_post hA hp n r
  | bk E1 B => rw [e] at hp; exact hp.elim
  | ct E1 B => rw [e] at hp; exact hp.elim
  | exc y E1 B =>
    rw [e] at hp
    exact fun ρ' cls d σ H' n _ r => gcX_post hA hp n r
  | bad => rw [e] at hp; exact hp.elim
theorem def_ok {N ps : List Str} {ds : List Value} {k : Nat} {b : Sx} (F : FunD K x qual params body scope dvs kws f fd) (S : FnScope N ps scope) (hB : Binds K fd ps ds)
    (hb : ∀ (cdv : Value) (A : Around) (outer : List PySem.Env) (s : Shared) (H : Hp) (E : XK), Ctx (cxD P w K mg base N qual scope f cdv A outer s H E) (wxD E) k → RSs (cxD P w K mg base N qual scope f cdv A outer s H E) (wxD E) body b) :
    DefOk P w K mg base (k + 1) f ps ds ps.length (runDef ps.length N.length b) := ⟨⟨fd, def_okF F S hb, hB⟩, F.kp⟩
end
end DL
set_option Elab.async false
set_option linter.all false
set_option maxRecDepth 100000
set_option maxHeartbeats 4000000
/-! Tests, statements, loops (own work). -/
namespace DL
open PySem PySem.Spec PyProof.Rows L2
section
variable {X : Cx} {W : WX} {k : Nat} {pos : Pos} {a b c e o : Expr} {es rest : List Expr} {ma mb mc mo me : Ex} {mt mu : Tx} {mr : Ax}
/-! ### tests -/
theorem rt_b (h : RE X W e me) (he : ∀ whole, isTrue e X.env whole = (do let v ← whole; standAt e.pos; holding [v] (truthy v)) := by intro _; rfl) : RT X W e (tB me) := by
  refine PT.imp (pt_val h he) fun σ H Q ⟨ρ, E, A, hE, hA, h⟩ => ⟨ρ, E, A, hE, hA, Post.bind h fun ρ1 d B v H1 n1 r1 h1 => ?_⟩
  cases d with
  | bl k =>
    cases r1
    exact ⟨k, rfl, h1 ρ1 k H1 (.refl n1.rep) rfl⟩
  | _ => exact h1.elim
theorem rt_w (h : RW X W e mt) : RT X W e mt := PW.pt h
theorem rw_and1 (h : RT X W a mt) : RW X W (.BoolOp .And [a] pos) mt := pw_and1 h
theorem rw_or1 (h : RT X W a mt) : RW X W (.BoolOp .Or [a] pos) mt := pw_or1 h
theorem rw_and (h : RT X W a mt) (h2 : RW X W (.BoolOp .And (b :: rest) pos) mu) : RW X W (.BoolOp .And (a :: b :: rest) pos) (tAnd mt mu) := by
  refine PW.imp (pw_and h h2) fun σ H Q ⟨ρ, E, A, hE, hA, h⟩ => ⟨ρ, E, A, hE, hA, Post.bind h fun ρ1 d B v H1 n1 r1 h1 => ?_⟩
  have r1' : d = v := r1
  subst r1'
  cases d with
  | true => exact iteT ⟨ρ1, E, B, hE.ext n1.ext, n1.rep, h1⟩
  | false => exact iteF (h1 ρ1 false H1 (.refl n1.rep) rfl)
theorem rw_or (h : RT X W a mt) (h2 : RW X W (.BoolOp .Or (b :: rest) pos) mu) : RW X W (.BoolOp .Or (a :: b :: rest) pos) (tOr mt mu) := by
  refine PW.imp (pw_or h h2) fun σ H Q ⟨ρ, E, A, hE, hA, h⟩ => ⟨ρ, E, A, hE, hA, Post.bind h fun ρ1 d B v H1 n1 r1 h1 => ?_⟩
  have r1' : d = v := r1
  subst r1'
  cases d with
  | true => exact iteT (h1 ρ1 true H1 (.refl n1.rep) rfl)
  | false => exact iteF ⟨ρ1, E, B, hE.ext n1.ext, n1.rep, h1⟩
theorem rt_not (h : RT X W a mt) : RT X W (.UnaryOp .Not a pos) (tNot mt) := by
  refine PT.imp (pt_not h) fun σ H Q ⟨ρ, E, A, hE, hA, h⟩ => ⟨ρ, E, A, hE, hA, Post.bind h fun ρ1 d B v H1 n1 r1 h1 => ?_⟩
  have r1' : d = v := r1
  subst r1'
  exact h1 ρ1 (!d) H1 (.refl n1.rep) rfl
theorem re_ifExp (hc : RT X W c mt) (ha : RE X W a ma) (hb : RE X W b mb) : RE X W (.IfExp c a b pos) (eIf mt ma mb) := by
  refine PE.imp (pe_ifExp hc ha hb) fun σ H Q ⟨ρ, E, A, hE, hA, h⟩ => ⟨ρ, E, A, hE, hA, Post.bind h fun ρ1 d B v H1 n1 r1 h1 => ?_⟩
  have r1' : d = v := r1
  subst r1'
  cases d with
  | true => exact iteT ⟨ρ1, E, B, hE.ext n1.ext, n1.rep, h1⟩
  | false => exact iteF ⟨ρ1, E, B, hE.ext n1.ext, n1.rep, h1⟩
theorem re_one {op} (h : RE X W a ma) : RE X W (.BoolOp op [a] pos) ma := pe_one h
theorem re_and (ha : RE X W a ma) (hb : RE X W (.BoolOp .And (b :: rest) pos) mb) : RE X W (.BoolOp .And (a :: b :: rest) pos) (eAnd ma mb) := by
  refine PE.imp (pe_and ha hb) fun σ H Q ⟨ρ, E, A, hE, hA, h⟩ => ⟨ρ, E, A, hE, hA, Post.bind h fun ρ1 d B v H1 n1 r1 h1 => ?_⟩
  cases d with
  | bl k =>
    cases r1
    refine ⟨k, rfl, ?_⟩
    cases k with
    | true => exact iteT ⟨ρ1, E, B, hE.ext n1.ext, n1.rep, h1⟩
    | false => exact iteF (h1 ρ1 _ H1 (.refl n1.rep) (.bl false))
  | _ => exact h1.elim
theorem re_or (ha : RE X W a ma) (hb : RE X W (.BoolOp .Or (b :: rest) pos) mb) : RE X W (.BoolOp .Or (a :: b :: rest) pos) (eOr ma mb) := by
  refine PE.imp (pe_or ha hb) fun σ H Q ⟨ρ, E, A, hE, hA, h⟩ => ⟨ρ, E, A, hE, hA, Post.bind h fun ρ1 d B v H1 n1 r1 h1 => ?_⟩
  cases d with
  | bl k =>
    cases r1
    refine ⟨k, rfl, ?_⟩
    cases k with
    | true => exact iteT (h1 ρ1 _ H1 (.refl n1.rep) (.bl true))
    | false => exact iteF ⟨ρ1, E, B, hE.ext n1.ext, n1.rep, h1⟩
  | _ => exact h1.elim
theorem re_not (ha : RE X W a ma) : RE X W (.UnaryOp .Not a pos) (eNot ma) := by
  refine PE.imp (pe_not ha) fun σ H Q ⟨ρ, E, A, hE, hA, h⟩ => ⟨ρ, E, A, hE, hA, Post.bind h fun ρ1 d B v H1 n1 r1 h1 => ?_⟩
  cases d with
  | bl k =>
    cases r1
    exact ⟨k, rfl, h1 ρ1 _ H1 (.refl n1.rep) (.bl _)⟩
  | _ => exact h1.elim
theorem chain {r r' : R2} {F G : Fn} (hk : Ok2 X.K r F) (hk' : Ok2 X.K r' G) {σ : Sl} {H : Hp} {Q : VK} (h : tE X.K W (eChain F G ma mb mc) σ H Q) : tChain r r' (tE X.K W ma) (tE X.K W mb) (tE X.K W mc) σ H Q := by
  obtain ⟨ρ, E, A, hE, hA, h⟩ := h
  refine ⟨ρ, E, A, hE, hA, Post.bind h fun ρ1 d B v H1 n1 r1 h1 => ?_⟩
  refine ⟨ρ1, E, B, hE.ext n1.ext, n1.rep, Post.bind h1 fun ρ2 d2 C u H2 n2 r2 h2 => ?_⟩
  refine hk W ρ2 C σ H2 d d2 v u _ n2.rep (r1.ext n2.ext) r2 (Post.bind (rel := RepV) (show Post X.K W RepV ρ2 C σ H2 ((F [d, d2] C).bind (kCh3 G mc E d2)) Q from h2) fun ρ3 z B3 w H3 n3 r3 h3 => ?_)
  cases z with
  | bl q =>
    cases r3
    refine ⟨q, rfl, ?_⟩
    cases q with
    | true =>
      refine iteT ⟨ρ3, E, B3, (hE.ext n1.ext).ext (n2.ext.trans n3.ext), n3.rep, Post.bind (show Post X.K W RepV ρ3 B3 σ H3 ((mc E B3).bind (kCh4 G d2)) Q from h3) fun ρ4 d4 B4 v4 H4 n4 r4 h4 => ?_⟩
      exact hk' W ρ4 B4 σ H4 d2 d4 u v4 Q n4.rep (r2.ext (n3.ext.trans n4.ext)) r4 h4
    | false => exact iteF (h3 ρ3 _ H3 (.refl n3.rep) (.bl false))
  | _ => exact h3.elim
theorem re_chain {op op' : CmpOp} {r r' : R2} {F G : Fn} (ho : OpR X (compareOp op) r) (hk : Ok2 X.K r F) (ho' : OpR X (compareOp op') r') (hk' : Ok2 X.K r' G) (ha : RE X W a ma) (hb : RE X W b mb) (hc : RE X W c mc) (hl : lastMarks [op, op'] [b, c] = false := by rfl) : RE X W (.Compare a [op, op'] [b, c] pos) (eChain F G ma mb mc) :=
  PE.imp (pe_chain ho ho' ha hb hc hl) fun σ H Q h => chain hk hk' h
theorem rt_chain {op op' : CmpOp} {r r' : R2} {F G : Fn} (ho : OpR X (compareOp op) r) (hk : Ok2 X.K r F) (ho' : OpR X (compareOp op') r') (hk' : Ok2 X.K r' G) (ha : RE X W a ma) (hb : RE X W b mb) (hc : RE X W c mc) (hl : lastMarks [op, op'] [b, c] = false := by rfl) : RT X W (.Compare a [op, op'] [b, c] pos) (tB (eChain F G ma mb mc)) := by
  refine PT.imp (pt_chain ho ho' ha hb hc hl) fun σ H Q ⟨ρ, E, A, hE, hA, h⟩ => chain hk hk' (W := W) ⟨ρ, E, A, hE, hA, Post.bind h fun ρ1 d B v H1 n1 r1 h1 => ?_⟩
  cases d with
  | bl k =>
    cases r1
    exact ⟨k, rfl, h1 ρ1 k H1 (.refl n1.rep) rfl⟩
  | _ => exact h1.elim
end
section
variable {X : Cx} {W : WX} {k : Nat} {pos : Pos} {a b c e o : Expr} {es rest : List Expr} {ma mb mc mo me : Ex} {mt mu : Tx} {mr : Ax} {st : Stmt} {sts sts2 : List Stmt} {m m2 : Sx} {g : Gx} {gs : Gsx}
/-! ### blocks -/
theorem rss_nil : RSs X W [] sNop := PSs.imp pss_nil fun Dn σ H ⟨ρ, E, A, hE, hA, h⟩ => h ρ σ H (.refl hA) hE
theorem PostS.seq {K : PySem.W.Frag} {ρ : Nat → Addr} {A : AH} {H : Hp} {r : SRes} {Dn : Ends} (h : PostS K W ρ A H (r.seq m2) Dn) : PostS K W ρ A H r { Dn with nx := tS K W m2 Dn } := by
  cases r with
  | nx E B => exact fun ρ' σ H' n r => ⟨ρ', E, B, r, n.rep, PostS.later h n⟩
  | rt d B => exact h
  | bk E B => exact h
  | ct E B => exact h
  | exc x E B => exact h
  | bad => exact h
theorem rss_cons (h1 : RS X W st m) (h2 : RSs X W sts m2) : RSs X W (st :: sts) (sSeq m m2) :=
  PSs.imp (pss_cons h1 h2) fun Dn σ H ⟨ρ, E, A, hE, hA, h⟩ => ⟨ρ, E, A, hE, hA, PostS.seq h⟩
theorem rss_one (h1 : RS X W st m) : RSs X W [st] m := pss_one h1
theorem rs_pass : RS X W (.Pass pos) sNop := PS.imp ps_pass fun Dn σ H ⟨ρ, E, A, hE, hA, h⟩ => h ρ σ H (.refl hA) hE
theorem rs_break : RS X W (.Break pos) sBrk := PS.imp ps_break fun Dn σ H ⟨ρ, E, A, hE, hA, h⟩ => h ρ σ H (.refl hA) hE
theorem rs_cont : RS X W (.Continue pos) sCnt := PS.imp ps_continue fun Dn σ H ⟨ρ, E, A, hE, hA, h⟩ => h ρ σ H (.refl hA) hE
theorem rs_doc {x j pos'} : RS X W (.Expr (.Constant (.str x) j pos) pos') sNop := PS.imp ps_doc fun Dn σ H ⟨ρ, E, A, hE, hA, h⟩ => h ρ σ H (.refl hA) hE
theorem rs_never : RS X W st sBad := PS.imp ps_never fun Dn σ H ⟨ρ, E, A, hE, hA, h⟩ => h
theorem rss_never : RSs X W sts sBad := PSs.imp pss_never fun Dn σ H ⟨ρ, E, A, hE, hA, h⟩ => h
theorem rs_expr (he : RE X W e me) (hs : swapsWith e none pos.line X.env = pure false := by rfl) : RS X W (.Expr e pos) (sDrop me) :=
  PS.imp (ps_expr he hs) fun Dn σ H ⟨ρ, E, A, hE, hA, h⟩ => ⟨ρ, E, A, hE, hA, PostS.then hE h fun ρ1 d B v H1 n1 r1 h1 => h1 ρ1 σ H1 (.refl n1.rep) (hE.ext n1.ext)⟩
theorem rs_ret (he : RE X W e me) : RS X W (.Return (some e) pos) (sRet me) :=
  PS.imp (ps_ret he) fun Dn σ H ⟨ρ, E, A, hE, hA, h⟩ => ⟨ρ, E, A, hE, hA, PostS.then hE h fun ρ1 d B v H1 n1 r1 h1 => h1 ρ1 v H1 (.refl n1.rep) r1⟩
theorem rs_retN : RS X W (.Return none pos) sRetN := PS.imp ps_retN fun Dn σ H ⟨ρ, E, A, hE, hA, h⟩ => h ρ .non H (.refl hA) .non
theorem rs_if (hc : RT X W c mt) (h1 : RSs X W sts m) (h2 : RSs X W sts2 m2) : RS X W (.If c sts sts2 pos) (sIf mt m m2) := by
  refine PS.imp (ps_if hc h1 h2) fun Dn σ H ⟨ρ, E, A, hE, hA, h⟩ => ⟨ρ, E, A, hE, hA, PostS.then hE h fun ρ1 d B v H1 n1 r1 h1 => ?_⟩
  have r1' : d = v := r1
  subst r1'
  cases d with
  | true => exact iteT ⟨ρ1, E, B, hE.ext n1.ext, n1.rep, h1⟩
  | false => exact iteF ⟨ρ1, E, B, hE.ext n1.ext, n1.rep, h1⟩
/-! ### targets and stores -/
theorem rg_name (cx : Ctx X W k) (i : Nat) {x : Str} (hi : X.N[i]? = some x := by rfl) (hx : Loc X.env.scope x := by first | exact Or.inl rfl | exact Or.inr rfl) (hf : X.fn x = true ∨ X.env.scope.names.lookup x = some .local := by first | exact .inl rfl | exact .inr rfl | assumption) : RG X W (.Name x pos) (gName i) :=
  PG.imp (pg_name cx.nd hi hx hf) fun v σ H Q ⟨ρ, E, A, d, hE, hA, r, h⟩ => h ρ _ H (.refl hA) (hE.set i r)
theorem rgs_nil : RGs X W [] gNil := PGs.imp pgs_nil fun vs σ H Q ⟨ρ, E, A, ds, hE, hA, r, h⟩ => by
  cases r with
  | nil => exact ⟨rfl, h ρ _ H (.refl hA) hE⟩
  | cons _ _ => exact h.elim
theorem PostG.only {K : PySem.W.Frag} {ρ : Nat → Addr} {A : AH} {H : Hp} {r : SRes} {f : Sx} {Q Q' : Sl → Hp → Prop} (h : PostG K W ρ A H (r.only.seq f) Q) (hq : ∀ ρ1 E B σ H1, Nxt K ρ A H ρ1 B H1 → RepE ρ1 B.length H1 E σ → PostG K W ρ1 B H1 (f E B) Q → Q' σ H1) : PostG K W ρ A H r Q' := by
  cases r with
  | nx E B => exact fun ρ' σ H' n r => hq ρ' E B σ H' n r (PostG.later h n)
  | exc x E B => exact h
  | _ => exact h
theorem rgs_cons (h1 : RG X W e g) (h2 : RGs X W es gs) (hs : (assignEach (e :: es) X.env).map (·.2) = assign e X.env :: (assignEach es X.env).map (·.2) := by rfl) : RGs X W (e :: es) (gCons g gs) := by
  refine PGs.imp (pgs_cons h1 h2 hs) fun vs σ H Q ⟨ρ, E, A, ds, hE, hA, r, h⟩ => ?_
  cases r with
  | nil => exact h.elim
  | @cons d ds v vs r1 r2 =>
    exact ⟨v, vs, rfl, ρ, E, A, d, hE, hA, r1, PostG.only h fun ρ1 E1 B σ1 H1 n1 e1 h1 => ⟨ρ1, E1, B, ds, e1, n1.rep, r2.ext n1.ext, h1⟩⟩
theorem rg_tup (cx : Ctx X W k) {x1 n : Nat} (h : RGs X W es gs) (hn : (assignEach es X.env).length = n := by rfl) (hst : (assignEach es X.env).findIdx? (·.1) = none := by rfl) : RG X W (.Tuple es x1 pos) (gTup n gs) := by
  refine PG.imp (pg_tup cx.calm h hn hst) fun v σ H Q ⟨ρ, E, A, d, hE, hA, r, h⟩ => ?_
  cases r with
  | @tup a vs ds h1 h2 =>
    have h' : PostG X.K W ρ A H (if ds.length = n then gs ds E A else .bad) Q := h
    by_cases z : ds.length = n
    · rw [if_pos z] at h'
      exact ⟨a, vs, rfl, SqT.of h1, by rw [← h2.len]; exact z, ρ, E, A, ds, hE, hA, h2, h'⟩
    · rw [if_neg z] at h'
      exact h'.elim
  | _ => exact h.elim
/-- a store to o[i], by values -/
def OkSt (K : PySem.W.Frag) (t : TSet) (S : Stx) : Prop := ∀ ρ A H x y d u v w B (Q : Hp → Prop), RepA K ρ H A → RepV ρ A.length H x u → RepV ρ A.length H y v → RepV ρ A.length H d w → S x y d A = some B → (∀ H', Nxt K ρ A H ρ B H' → Q H') → t u v w H Q
theorem PostG.okS {K : PySem.W.Frag} {ρ : Nat → Addr} {A : AH} {H : Hp} {E : Env} {q : Option AH} {Q : Sl → Hp → Prop} (h : PostG K W ρ A H (okS E q) Q) : ∃ B, q = some B := by
  cases q with
  | some B => exact ⟨B, rfl⟩
  | none => exact h.elim
theorem PostS.okS {K : PySem.W.Frag} {ρ : Nat → Addr} {A : AH} {H : Hp} {E : Env} {q : Option AH} {Dn : Ends} (h : PostS K W ρ A H (okS E q) Dn) : ∃ B, q = some B := by
  cases q with
  | some B => exact ⟨B, rfl⟩
  | none => exact h.elim
theorem rg_sub {t : TSet} {S : Stx} (hs : PSet X t) (hk : OkSt X.K t S) (ho : RE X W o mo) (hi : RE X W e me) (ha : ∀ v, assign (.Subscript o e pos) X.env v = (do
      let ov ← holding [v] (eval o X.env)
      let iv ← holding [v, ov] (eval e X.env)
      standAt pos
      holding [v, ov, iv] (setItem ov iv v)
      release [v, ov, iv] []) := by intro _; rfl) : RG X W (.Subscript o e pos) (gSub mo me S) := by
  refine PG.imp (pg_sub ho hi hs ha) fun v σ H Q ⟨ρ, E, A, d, hE, hA, r, h⟩ => ⟨ρ, E, A, hE, hA, PostG.then hE h fun ρ1 x B u H1 n1 r1 h1 => ?_⟩
  refine ⟨ρ1, E, B, hE.ext n1.ext, n1.rep, PostG.then (hE.ext n1.ext) h1 fun ρ2 y B2 w H2 n2 r2 h2 => ?_⟩
  obtain ⟨B3, e3⟩ := PostG.okS h2
  refine hk ρ2 B2 H2 x y d u w v B3 _ n2.rep (r1.ext n2.ext) r2 (r.ext (n1.ext.trans n2.ext)) e3 fun H3 n3 => ?_
  have h2' : PostG X.K W ρ2 B2 H2 (okS E (S x y d B2)) Q := h2
  rw [e3] at h2'
  exact h2' ρ2 σ H3 n3 (hE.ext (n1.ext.trans (n2.ext.trans n3.ext)))
theorem PostS.asg {K : PySem.W.Frag} {ρ : Nat → Addr} {A : AH} {H : Hp} {r : SRes} {Dn : Ends} (h : PostS K W ρ A H r.only Dn) : PostG K W ρ A H r Dn.nx := by
  cases r with
  | nx E B => exact h
  | exc x E B => exact h
  | _ => exact h
theorem rs_asg (he : RE X W e me) {tg : Expr} (hg : RG X W tg g) (hs : swapsWithSole [tg] e pos.line X.env = pure false := by rfl) (hw : swappedStores [tg] e X.env = pure none := by rfl)
    (h1 : (assignEach [tg] X.env).map (·.2) = [assign tg X.env] := by rfl) : RS X W (.Assign [tg] e pos) (sAsg me g) :=
  PS.imp (ps_asg he hg hs hw h1) fun Dn σ H ⟨ρ, E, A, hE, hA, h⟩ => ⟨ρ, E, A, hE, hA, PostS.then hE h fun ρ1 d B v H1 n1 r1 h1 => ⟨ρ1, E, B, d, hE.ext n1.ext, n1.rep, r1, PostS.asg h1⟩⟩
theorem rs_set (cx : Ctx X W k) (i : Nat) {x : Str} {pos' : Pos} (he : RE X W e me) (hi : X.N[i]? = some x := by rfl) (hx : Loc X.env.scope x := by first | exact Or.inl rfl | exact Or.inr rfl) (hs : swapsWith e (some (.Name x pos')) pos.line X.env = pure false := by rfl)
    (hf : X.fn x = true ∨ X.env.scope.names.lookup x = some .local := by first | exact .inl rfl | exact .inr rfl | assumption) : RS X W (.Assign [.Name x pos'] e pos) (sAsg me (gName i)) :=
  PS.imp (ps_set cx.nd hi hx he hs hf) fun Dn σ H ⟨ρ, E, A, hE, hA, h⟩ => ⟨ρ, E, A, hE, hA, PostS.then hE h fun ρ1 d B v H1 n1 r1 h1 => h1 ρ1 _ H1 (.refl n1.rep) ((hE.ext n1.ext).set i r1)⟩
/-- a, b = x, y (both names plain) -/
theorem rs_par (cx : Ctx X W k) (i j : Nat) {x y : Str} {px py pt : Pos} {kt k2 pt2} (ha : RA X W [a, b] mr) (hi : X.N[i]? = some x := by rfl) (hj : X.N[j]? = some y := by rfl) (hij : i ≠ j := by decide) (hx : X.env.scope.names.lookup x = some .local := by rfl) (hy : X.env.scope.names.lookup y = some .local := by rfl)
    (hw : swappedStores [.Tuple [.Name x px, .Name y py] kt pt] (.Tuple [a, b] k2 pt2) X.env = pure (some [x, y]) := by rfl) (hs : swapsWithSole [.Tuple [.Name x px, .Name y py] kt pt] (.Tuple [a, b] k2 pt2) pos.line X.env = pure false := by rfl) :
    RS X W (.Assign [.Tuple [.Name x px, .Name y py] kt pt] (.Tuple [a, b] k2 pt2) pos) (sPar i j mr) := by
  refine PS.imp (ps_par cx.calm cx.nd hi hj hij hx hy ha hw hs) fun Dn σ H ⟨ρ, E, A, hE, hA, h⟩ => ⟨ρ, E, A, hE, hA, PostS.then hE h fun ρ1 ds B vs H1 n1 r1 h1 => ?_⟩
  cases r1 with
  | nil => exact h1.elim
  | cons r1 r2 => cases r2 with
    | nil => exact h1.elim
    | cons r2 r3 => cases r3 with
      | nil => exact ⟨_, _, rfl, h1 ρ1 _ H1 (.refl n1.rep) (((hE.ext n1.ext).set i r1).set j r2)⟩
      | cons _ _ => exact h1.elim
/-- x op= e -/
def OkIp (K : PySem.W.Frag) (t : TIp) (F : Fn) : Prop := ∀ W ρ A σ H d e v u Q, RepA K ρ H A → RepV ρ A.length H d v → RepV ρ A.length H e u → Post K W RepV ρ A σ H (F [d, e] A) Q → t v u H Q
theorem rs_aug (cx : Ctx X W k) (i : Nat) {x : Str} {op : Operator} {ti : TIp} {F : Fn} {pos' : Pos} (hp : PIp X op ti) (hk : OkIp X.K ti F) (he : RE X W e me) (hi : X.N[i]? = some x := by rfl) (hx : Loc X.env.scope x := by first | exact Or.inl rfl | exact Or.inr rfl)
    (hf : X.fn x = true ∨ X.env.scope.names.lookup x = some .local := by first | exact .inl rfl | exact .inr rfl | assumption) : RS X W (.AugAssign (.Name x pos') op e pos) (sAug i me F) := by
  refine PS.imp (ps_aug cx.nd hi hx he hp hf) fun Dn σ H ⟨ρ, E, A, hE, hA, h⟩ => ?_
  have h' : PostS X.K W ρ A H ((okD A E[i]?).then E (kAug i me F E)) Dn := h
  cases z : E[i]? with
  | none => rw [z] at h'; exact h'.elim
  | some od =>
    cases od with
    | none => rw [z] at h'; exact h'.elim
    | some d =>
      rw [z] at h'
      obtain ⟨v, e1, r0⟩ := hE.get i d z
      have h2 : PostS X.K W ρ A H ((me E A).then E (kAug2 i F E d)) Dn := h'
      refine ⟨v, e1, ρ, E, A, hE, hA, PostS.then hE h2 fun ρ1 y B u H1 n1 r1 h1 => ?_⟩
      exact hk W ρ1 B σ H1 d y v u _ n1.rep (r0.ext n1.ext) r1 (PostS.then (hE.ext n1.ext) (show PostS X.K W ρ1 B H1 ((F [d, y] B).then E (kSet i E)) Dn from h1) fun ρ2 w C u2 H2 n2 r2 h2 => h2 ρ2 _ H2 (.refl n2.rep) ((hE.ext (n1.ext.trans n2.ext)).set i r2))
def OkGt (K : PySem.W.Frag) (t : V → V → Hp → VK → Prop) (F : Fn) : Prop := Ok2 K t F
theorem rs_augS {op : Operator} {tget : V → V → Hp → VK → Prop} {tip : TIp} {tset : TSet} {G F : Fn} {S : Stx} {tpos : Pos} (hg : PGet X tget) (hkg : OkGt X.K tget G) (hp : PIp X op tip) (hkp : OkIp X.K tip F) (hs : PSet X tset) (hks : OkSt X.K tset S) (ho : RE X W o mo) (hi : RE X W a ma) (he : RE X W e me)
    (ha : ∀ ov iv new, augStore a ov iv new = (do holding [new, ov, iv] (setItem ov iv new); release [new, ov, iv] []; pure .next) := by intros; rfl) : RS X W (.AugAssign (.Subscript o a tpos) op e pos) (sAugS mo ma me G F S) := by
  refine PS.imp (ps_augS ho hi hg he hp hs ha) fun Dn σ H ⟨ρ, E, A, hE, hA, h⟩ => ⟨ρ, E, A, hE, hA, PostS.then hE h fun ρ1 x B u H1 n1 r1 h1 => ?_⟩
  have E1 := hE.ext n1.ext
  refine ⟨ρ1, E, B, E1, n1.rep, PostS.then E1 h1 fun ρ2 y B2 w H2 n2 r2 h2 => ?_⟩
  have E2 := E1.ext n2.ext
  refine hkg W ρ2 B2 σ H2 x y u w _ n2.rep (r1.ext n2.ext) r2 (PostS.then E2 (show PostS X.K W ρ2 B2 H2 ((G [x, y] B2).then E (kAS3 me F S E x y)) Dn from h2) fun ρ3 od B3 ou H3 n3 r3 h3 => ?_)
  have E3 := E2.ext n3.ext
  refine ⟨ρ3, E, B3, E3, n3.rep, PostS.then E3 (show PostS X.K W ρ3 B3 H3 ((me E B3).then E (kAS4 F S E x y od)) Dn from h3) fun ρ4 d B4 v H4 n4 r4 h4 => ?_⟩
  have E4 := E3.ext n4.ext
  refine hkp W ρ4 B4 σ H4 od d ou v _ n4.rep (r3.ext n4.ext) r4 (PostS.then E4 (show PostS X.K W ρ4 B4 H4 ((F [od, d] B4).then E (kAS5 S E x y)) Dn from h4) fun ρ5 z B5 zu H5 n5 r5 h5 => ?_)
  have h5' : PostS X.K W ρ5 B5 H5 (okS E (S x y z B5)) Dn := h5
  obtain ⟨B6, e6⟩ := PostS.okS h5'
  refine hks ρ5 B5 H5 x y z u w zu B6 _ n5.rep (r1.ext (n2.ext.trans (n3.ext.trans (n4.ext.trans n5.ext)))) (r2.ext (n3.ext.trans (n4.ext.trans n5.ext))) r5 e6 fun H6 n6 => ?_
  rw [e6] at h5'
  exact h5' ρ5 σ H6 n6 (E4.ext (n5.ext.trans n6.ext))
/-! ### attributes -/
theorem ins_at {K : PySem.W.Frag} {ρ : Nat → Addr} {A : AH} {H : Hp} {i c : Nat} {fs : List (Nat × D)} (hA : RepA K ρ H A) (e : A[i]? = some (.ins c fs)) : ∃ dx gs, H (ρ i) = some (.ins (clsA K c) dx gs) ∧ RepF ρ A.length H fs gs := hA.objs i _ e
/-- what is known of the class's attribute -/
structure At (K : PySem.W.Frag) (cs : List Nat) (n : Nat) (x : Str) : Prop where
  nm : fldN[n]? = some x
  cl : ∀ c ∈ cs, Cls K (clsA K c) ∧ NoAttr K (clsA K c) x
theorem re_fld {cs : List Nat} {n : Nat} {x : Str} (at_ : At X.K cs n x) (ho : RE X W o mo) (hb : attributeBase o x X.env (eval o X.env) = eval o X.env := by rfl) : RE X W (.Attribute o x pos) (eF (fFld cs n) (aCons mo aNil)) := by
  refine PE.imp (pe_fld ho hb) fun σ H Q ⟨ρ, E, A, hE, hA, h⟩ => ?_
  rw [eF1] at h
  refine ⟨ρ, E, A, hE, hA, Post.bind h fun ρ1 d B v H1 n1 r1 h1 => ?_⟩
  cases r1 with
  | @ref i hi =>
    have h2 : Post X.K W RepV ρ1 B σ H1 (oFld cs n B B[i]?) Q := h1
    cases z : B[i]? with
    | none => rw [z] at h2; exact h2.elim
    | some u =>
      rw [z] at h2
      cases u with
      | ins c fs =>
        have h3 : Post X.K W RepV ρ1 B σ H1 (if c ∈ cs then okD B (some (lookF n fs)) else .bad) Q := h2
        by_cases hc : c ∈ cs
        · rw [if_pos hc] at h3
          obtain ⟨dx, gs, q1, q2⟩ := ins_at n1.rep z
          cases l : lookF n fs with
          | none => rw [l] at h3; exact h3.elim
          | some d =>
            rw [l] at h3
            obtain ⟨v, l1, l2⟩ := q2.look at_.nm l
            obtain ⟨k1, k2⟩ := at_.cl c hc
            exact ⟨ρ1 i, clsA X.K c, dx, gs, v, rfl, q1, k1, k2, l1, h3 ρ1 v H1 (.refl n1.rep) l2⟩
        · rw [if_neg hc] at h3
          exact h3.elim
      | _ => exact h2.elim
  | _ => exact h1.elim
theorem rs_fld {cs : List Nat} {n : Nat} {x : Str} {pos' : Pos} (at_ : At X.K cs n x) (ho : RE X W o mo) (he : RE X W e me) (hs : swapsWith e (some (.Attribute o x pos')) pos.line X.env = pure false := by rfl) : RS X W (.Assign [.Attribute o x pos'] e pos) (sFld cs n mo me) := by
  refine PS.imp (ps_fld ho he hs) fun Dn σ H ⟨ρ, E, A, hE, hA, h⟩ => ⟨ρ, E, A, hE, hA, PostS.then hE h fun ρ1 d B v H1 n1 r1 h1 => ?_⟩
  have E1 := hE.ext n1.ext
  refine ⟨ρ1, E, B, E1, n1.rep, PostS.then E1 (show PostS X.K W ρ1 B H1 ((mo E B).then E (kFld2 cs n E d)) Dn from h1) fun ρ2 q B2 u H2 n2 r2 h2 => ?_⟩
  have h2' : PostS X.K W ρ2 B2 H2 (okS E (putFld cs n d B2 q)) Dn := h2
  obtain ⟨B3, e3⟩ := PostS.okS h2'
  cases r2 with
  | @ref i hi =>
    have e3' : oPut cs n i d B2 B2[i]? = some B3 := e3
    cases z : B2[i]? with
    | none => rw [z] at e3'; cases e3'
    | some uo =>
      rw [z] at e3'
      cases uo with
      | ins c fs =>
        have e4 : (if c ∈ cs ∧ fs.length < 1000 then some (B2.set i (.ins c (setF n d fs))) else none) = some B3 := e3'
        by_cases hc : c ∈ cs ∧ fs.length < 1000
        · rw [if_pos hc] at e4
          obtain ⟨dx, gs, q1, q2⟩ := ins_at n2.rep z
          obtain ⟨k1, k2⟩ := at_.cl c hc.1
          refine ⟨ρ2 i, clsA X.K c, dx, gs, rfl, q1, k1, k2, by rw [← q2.len]; exact hc.2, ?_⟩
          have n3 : Nxt X.K ρ2 B2 H2 ρ2 (B2.set i (.ins c (setF n d fs))) (upd H2 (ρ2 i) (.ins (clsA X.K c) dx (putF x v gs))) :=
            Nxt.set n2.rep z rfl rfl fun ex => ⟨dx, putF x v gs, upd_same, (q2.put at_.nm (r1.ext n2.ext)).ext ex⟩
          rw [e3, ← Option.some.inj e4] at h2'
          exact h2' ρ2 σ _ n3 (E1.ext (n2.ext.trans n3.ext))
        · rw [if_neg hc] at e4
          cases e4
      | _ => cases e3'
  | _ => cases e3
end
end DL
set_option Elab.async false
set_option linter.all false
set_option maxRecDepth 100000
set_option maxHeartbeats 4000000
/-! Loops, comprehensions, what they walk (own work). -/
namespace DL
open PySem PySem.Spec PyProof.Rows L2
theorem line_eq : line = sizeLine := by rw [sizeLine_eq]; rfl
section
variable {X : Cx} {W : WX} {k : Nat} {pos : Pos} {tg it e : Expr} {body : List Stmt} {mi : Ix} {g : Gx} {m : Sx} {mt : Tx} {me : Ex} {mr : Ax}
theorem PostG.turn {K : PySem.W.Frag} {ρ : Nat → Addr} {A : AH} {H : Hp} {r : SRes} {b f : Sx} {Dn : Ends} {Q' : Sl → Hp → Prop} (h : PostS K W ρ A H ((r.only.seq b).turn f) Dn)
    (hq : ∀ ρ1 E B σ H1, Nxt K ρ A H ρ1 B H1 → RepE ρ1 B.length H1 E σ → PostS K W ρ1 B H1 ((b E B).turn f) Dn → Q' σ H1) : PostG K W ρ A H r Q' := by
  cases r with
  | nx E B => exact fun ρ' σ H' n r => hq ρ' E B σ H' n r (PostS.later h n)
  | exc x E B => exact h
  | _ => exact h
theorem PostS.turn {K : PySem.W.Frag} {ρ : Nat → Addr} {A : AH} {H : Hp} {r : SRes} {f : Sx} {Dn : Ends} {N : Sl → Hp → Prop} (h : PostS K W ρ A H (r.turn f) Dn)
    (hq : ∀ ρ1 E B σ H1, Nxt K ρ A H ρ1 B H1 → RepE ρ1 B.length H1 E σ → PostS K W ρ1 B H1 (f E B) Dn → N σ H1) : PostS K W ρ A H r { Dn with nx := N, ct := N, bk := Dn.nx } := by
  cases r with
  | nx E B => exact fun ρ' σ H' n r => hq ρ' E B σ H' n r (PostS.later h n)
  | ct E B => exact fun ρ' σ H' n r => hq ρ' E B σ H' n r (PostS.later h n)
  | bk E B => exact h
  | rt d B => exact h
  | exc x E B => exact h
  | bad => exact h
theorem PostS.thenI {K : PySem.W.Frag} {ρ : Nat → Addr} {A : AH} {σ : Sl} {H : Hp} {q : Res Src} {E : Env} {f : Src → AH → SRes} {Dn : Ends} {Q1 : It → Hp → Prop} (hE : RepE ρ A.length H E σ) (h : PostS K W ρ A H (q.then E f) Dn)
    (hq : ∀ ρ1 s B J H1, Nxt K ρ A H ρ1 B H1 → ItOk K ρ1 B H1 s J → PostS K W ρ1 B H1 (f s B) Dn → Q1 J H1) : PostI K W ρ A σ H q Q1 := by
  cases q with
  | ok a B => exact fun ρ' b H' n r => hq ρ' a B b H' n r (PostS.later h n)
  | exc x B => exact fun ρ' c d H' n r => h ρ' c d σ H' n (hE.ext n.ext) r
  | bad => exact h
theorem rs_for (cx : Ctx X W k) (hi : RI X W tg it mi) (hg : RG X W tg g) (hb : RSs X W body m) (hs : ∀ x, foldedSetIterable it X.env x = pure x := by intro _; rfl) : RS X W (.For tg it body [] pos) (sFor mi g m) := by
  refine PS.imp (ps_for cx.po cx.calm hi hg hb hs) fun Dn σ H ⟨ρ, E, A, hE, hA, h⟩ => ⟨ρ, E, A, hE, hA, PostS.thenI hE h fun ρ1 src B J H1 n1 itok h1 => ?_⟩
  refine ⟨fun i m' σ' H' => ∃ ρ2 E2 A2, RepE ρ2 A2.length H' E2 σ' ∧ Nxt X.K ρ1 B H1 ρ2 A2 H' ∧ PostS X.K W ρ2 A2 H' (forN src g m m' i E2 A2) Dn, ⟨src.size B + 1, ρ1, E, B, hE.ext n1.ext, .refl n1.rep, h1⟩, ?_⟩
  rintro i n σ2 H2 ⟨ρ2, E2, A2, e2, n2, h2⟩
  cases n with
  | zero => exact h2.elim
  | succ n =>
    have h3 : PostS X.K W ρ2 A2 H2 (forK g m (forN src g m n (i + 1)) E2 A2 (src.at A2 i)) Dn := h2
    have io := itok ρ2 A2 H2 n2 i
    cases z : src.at A2 i with
    | stop =>
      rw [z] at h3 io
      exact .inl ⟨io, h3 ρ2 σ2 H2 (.refl n2.rep) e2⟩
    | bad =>
      rw [z] at h3
      exact h3.elim
    | item d =>
      rw [z] at h3 io
      refine .inr ⟨io.1, _, fun σ' H' q => ⟨n, Nat.lt_succ_self _, q⟩, fun x H3 y => ?_⟩
      obtain ⟨sm, rv⟩ := io.2 x H3 y
      have n3 := Nxt.same n2.rep sm
      refine ⟨ρ2, E2, A2, d, e2.ext n3.ext, n3.rep, rv, PostG.turn (PostS.later h3 n3) fun ρ4 E4 A4 σ4 H4 n4 e4 h4 => ⟨ρ4, E4, A4, e4, n4.rep, PostS.turn h4 fun ρ5 E5 A5 σ5 H5 n5 e5 h5 => ?_⟩⟩
      exact ⟨ρ5, E5, A5, e5, n2.trans (n3.trans (n4.trans n5)), h5⟩
theorem rs_while (cx : Ctx X W k) (hc : RT X W e mt) (hb : RSs X W body m) : RS X W (.While e body [] pos) (sWhile mt m) := by
  refine PS.imp (ps_while cx.po hc hb) fun Dn σ H ⟨ρ, E, A, hE, hA, h⟩ => ?_
  refine ⟨fun m' σ' H' => ∃ ρ2 E2 A2, RepE ρ2 A2.length H' E2 σ' ∧ RepA X.K ρ2 H' A2 ∧ PostS X.K W ρ2 A2 H' (whileN mt m m' E2 A2) Dn, ⟨fuel, ρ, E, A, hE, hA, h⟩, ?_⟩
  rintro n σ2 H2 ⟨ρ2, E2, A2, e2, a2, h2⟩
  cases n with
  | zero => exact h2.elim
  | succ n =>
    have h3 : PostS X.K W ρ2 A2 H2 ((mt E2 A2).then E2 (kWh m (whileN mt m n) E2)) Dn := h2
    refine ⟨ρ2, E2, A2, e2, a2, PostS.then e2 h3 fun ρ3 c B b H3 n3 r3 h4 => ?_⟩
    have r3' : c = b := r3
    subst r3'
    have e3 := e2.ext n3.ext
    cases c with
    | true =>
      refine iteT ⟨_, fun σ' H' q => ⟨n, Nat.lt_succ_self _, q⟩, ρ3, E2, B, e3, n3.rep, PostS.turn h4 fun ρ5 E5 A5 σ5 H5 n5 e5 h5 => ⟨ρ5, E5, A5, e5, n5.rep, h5⟩⟩
    | false => exact iteF (h4 ρ3 σ2 H3 (.refl n3.rep) e3)

/-! ### what is walked -/
theorem Nxt.reps {K : PySem.W.Frag} {ρ ρ' : Nat → Addr} {A B : AH} {H H' : Hp} {ds : List D} {vs : List V} (n : Nxt K ρ A H ρ' B H') (r : RepVs ρ A.length H ds vs) : RepVs ρ' B.length H' ds vs := r.ext n.ext
theorem Same.rfl {H : Hp} : Same H H := fun _ _ h => h
theorem it_tup {K : PySem.W.Frag} {ρ : Nat → Addr} {A : AH} {H : Hp} {a : Addr} {ds : List D} {vs : List V} (ht : H a = some (.tup vs)) (r : RepVs ρ A.length H ds vs) : ItOk K ρ A H (.seq ds) (Itt K a) := fun ρ1 B H1 n i => by
  have t1 : SqT K H1 a vs := SqT.of (n.ext.tups a vs ht)
  have r1 := n.reps r
  show match stepO ds[i]? with | .item d => _ | .stop => _ | .bad => _
  cases z : ds[i]? with
  | none => exact ⟨vs, t1, by rw [← r.len]; exact List.getElem?_eq_none_iff.mp z⟩
  | some d =>
    obtain ⟨v, h1, h2⟩ := r1.get z
    exact ⟨⟨vs, v, t1, h1⟩, fun x H2 y => by
      obtain ⟨e1, e2⟩ := y
      subst e1
      have := e2 vs t1
      rw [h1] at this
      cases this
      exact ⟨Same.rfl, h2⟩⟩
theorem it_lst {K : PySem.W.Frag} {ρ : Nat → Addr} {A : AH} {H : Hp} {i : Nat} (hi : i < A.length) : ItOk K ρ A H (.lst i) (Itl K (ρ i)) := fun ρ1 B H1 n j => by
  show match (match seqAt B i with | some ds => stepO ds[j]? | none => Step.bad) with | .item d => _ | .stop => _ | .bad => _
  cases z : seqAt B i with
  | none => trivial
  | some ds =>
    obtain ⟨vs, h1, h2⟩ := n.rep.seq z
    rw [n.ext.same i hi] at h1
    show match stepO ds[j]? with | .item d => _ | .stop => _ | .bad => _
    cases y : ds[j]? with
    | none => exact ⟨vs, h1, by rw [← h2.len]; exact List.getElem?_eq_none_iff.mp y⟩
    | some d =>
      obtain ⟨v, q1, q2⟩ := h2.get y
      exact ⟨⟨vs, v, h1, q1⟩, fun x H2 q => by
        obtain ⟨e1, e2⟩ := q
        subst e1
        have := e2 vs h1
        rw [q1] at this
        cases this
        exact ⟨Same.rfl, q2⟩⟩
/-- a list or a tuple is walked -/
theorem pi_seq {l : Expr} {tl : TE} (hl : PE X l tl) : PI X tg l (fun σ H R => tl σ H fun x H1 => ∃ a, x = .ref a ∧ (((∃ xs, SqL X.K H1 a xs) ∧ R (Itl X.K a) H1) ∨ ((∃ xs, SqT X.K H1 a xs) ∧ R (Itt X.K a) H1))) := by
  refine ⟨fun pins s σ H R I h => thn (hl.run pins s σ H _ I h) fun v s1 ⟨x, H1, I1, r1, a, ex, q⟩ => ?_⟩
  subst ex
  obtain rfl : v = Value.ref a := r1
  have new : ∀ (ob : Obj) (b : Addr), b ∈ [s1.heap.objs.size] → FpOk X pins H1 b := fun ob b hb => by
    rw [List.mem_singleton.mp hb]
    exact I1.fpOk (Nat.le_refl _) (I1.hok.fresh (Nat.le_refl _))
  rcases q with ⟨⟨xs, hq⟩, q⟩ | ⟨⟨xs, hq⟩, q⟩
  · obtain ⟨its, rv, p, hz⟩ := I1.list hq
    exact wpAny_pyIter_list p.isList ⟨s1.heap.objs.size, [s1.heap.objs.size], _, _, H1, rfl, I1.kept (t' := s1.toks) fun b o e => Heap.get?_push_of_some _ e, turn_list a _, ⟨_, Heap.get?_push_size _ rfl, rfl, rfl⟩, new default, q⟩
  · obtain ⟨its, rv, p, hz⟩ := I1.tuple hq
    exact wpAny_pyIter_tuple (show s1.heap.IsTuple a its.toArray from p) ⟨s1.heap.objs.size, [s1.heap.objs.size], _, _, H1, rfl, I1.kept (t' := s1.toks) fun b o e => Heap.get?_push_of_some _ e, turn_tuple a _, ⟨_, Heap.get?_push_size _ rfl, rfl, rfl⟩, new default, q⟩
theorem PostI.bind {α β : Type} {rel : (Nat → Addr) → Nat → Hp → α → β → Prop} {K : PySem.W.Frag} {ρ : Nat → Addr} {A : AH} {σ : Sl} {H : Hp} {r : Res α} {f : α → AH → Res Src} {Q : It → Hp → Prop} {Q1 : β → Hp → Prop}
    (h : PostI K W ρ A σ H (r.bind f) Q) (hq : ∀ ρ1 a B b H1, Nxt K ρ A H ρ1 B H1 → rel ρ1 B.length H1 a b → PostI K W ρ1 B σ H1 (f a B) Q → Q1 b H1) : Post K W rel ρ A σ H r Q1 := by
  cases r with
  | ok a B =>
    refine fun ρ' b H' n r => hq ρ' a B b H' n r ?_
    have h' : PostI K W ρ A σ H (f a B) Q := h
    cases z : f a B with
    | ok s C =>
      rw [z] at h'
      exact fun ρ2 J H2 n2 r2 => h' ρ2 J H2 (n.trans n2) r2
    | exc x C =>
      rw [z] at h'
      exact fun ρ2 c d H2 n2 r2 => h' ρ2 c d H2 (n.trans n2) r2
    | bad => rw [z] at h'; exact h'
  | exc x B => exact h
  | bad => exact h
theorem ri_seq (he : RE X W e me) : RI X W tg e (iSeq me) := by
  refine PI.imp (pi_seq he) fun σ H R ⟨ρ, E, A, hE, hA, h⟩ => ⟨ρ, E, A, hE, hA, PostI.bind h fun ρ1 d B v H1 n1 r1 h1 => ?_⟩
  cases r1 with
  | @tup a vs ds q1 q2 => exact ⟨a, rfl, .inr ⟨⟨vs, SqT.of q1⟩, h1 ρ1 _ H1 (.refl n1.rep) (it_tup q1 q2)⟩⟩
  | @ref i hi =>
    have h2 : PostI X.K W ρ1 B σ H1 (okI (.lst i) B (seqAt B i)) R := h1
    cases z : seqAt B i with
    | none => rw [z] at h2; exact h2.elim
    | some ds =>
      rw [z] at h2
      obtain ⟨vs, q1, q2⟩ := n1.rep.seq z
      exact ⟨ρ1 i, rfl, .inl ⟨⟨vs, q1⟩, h2 ρ1 _ H1 (.refl n1.rep) (it_lst hi)⟩⟩
  | _ => exact h1.elim
theorem upto_get {lo : Int} {n i : Nat} : (upto lo n)[i]? = if i < n then some (.int (lo + i)) else none := by
  unfold upto
  rw [List.getElem?_map]
  by_cases z : i < n
  · rw [if_pos z, List.getElem?_range z]; rfl
  · rw [if_neg z, List.getElem?_eq_none (by simpa using z)]; rfl
theorem it_rng {K : PySem.W.Frag} {ρ : Nat → Addr} {A : AH} {H : Hp} {lo : Int} {n : Nat} : ItOk K ρ A H (.seq (upto lo n)) (Itr lo n) := fun ρ1 B H1 nx i => by
  show match stepO (upto lo n)[i]? with | .item d => _ | .stop => _ | .bad => _
  rw [upto_get]
  by_cases z : i < n
  · rw [if_pos z]
    refine ⟨z, fun x H2 y => ?_⟩
    obtain ⟨e1, e2⟩ := y
    subst e1 e2
    exact ⟨Same.rfl, .int _⟩
  · rw [if_neg z]
    exact Nat.le_of_not_lt z
theorem small62_ok {i : Int} (h : small62 i = true) : -(2 ^ 62) ≤ i ∧ i < 2 ^ 62 := by
  unfold small62 at h
  rw [Bool.and_eq_true] at h
  exact ⟨of_decide_eq_true h.1, of_decide_eq_true h.2⟩
variable {a b : Expr} {p : Pos}
theorem ri_rng1 (hg : Gl X "range") (hm : X.mg "range" = none) (ha : RA X W [a] mr) (hs : starEach [a] X.env = [(false, eval a X.env)] := by rfl) : RI X W tg (.Call (.Name "range" p) [a] [] pos) (iRng1 mr) := by
  refine PI.imp (pi_range1 hg hm ha hs) fun σ H R ⟨ρ, E, A, hE, hA, h⟩ => ⟨ρ, E, A, hE, hA, PostI.bind h fun ρ1 ds B vs H1 n1 r1 h1 => ?_⟩
  cases r1 with
  | nil => exact h1.elim
  | cons r1 r2 => cases r2 with
    | cons _ _ => cases r1 <;> exact h1.elim
    | nil => cases r1 with
      | int j =>
        have h2 : PostI X.K W ρ1 B σ H1 (if small62 j = true then .ok (.seq (upto 0 j.toNat)) B else .bad) R := h1
        by_cases z : small62 j = true
        · rw [if_pos z] at h2
          obtain ⟨s1, s2⟩ := small62_ok z
          exact ⟨j, rfl, s1, s2, h2 ρ1 _ H1 (.refl n1.rep) it_rng⟩
        · rw [if_neg z] at h2
          exact h2.elim
      | _ => exact h1.elim
theorem ri_rng2 (hg : Gl X "range") (hm : X.mg "range" = none) (ha : RA X W [a, b] mr) (hs : starEach [a, b] X.env = [(false, eval a X.env), (false, eval b X.env)] := by rfl) (hs2 : starEach [b] X.env = [(false, eval b X.env)] := by rfl) : RI X W tg (.Call (.Name "range" p) [a, b] [] pos) (iRng2 mr) := by
  refine PI.imp (pi_range2 hg hm ha hs hs2) fun σ H R ⟨ρ, E, A, hE, hA, h⟩ => ⟨ρ, E, A, hE, hA, PostI.bind h fun ρ1 ds B vs H1 n1 r1 h1 => ?_⟩
  cases r1 with
  | nil => exact h1.elim
  | cons r1 r2 => cases r2 with
    | nil => cases r1 <;> exact h1.elim
    | cons r2 r3 => cases r3 with
      | cons _ _ => cases r1 <;> cases r2 <;> exact h1.elim
      | nil => cases r1 with
        | int i => cases r2 with
          | int j =>
            have h2 : PostI X.K W ρ1 B σ H1 (if (small62 i && small62 j) = true then .ok (.seq (upto i (j - i).toNat)) B else .bad) R := h1
            by_cases z : (small62 i && small62 j) = true
            · rw [if_pos z] at h2
              rw [Bool.and_eq_true] at z
              obtain ⟨s1, s2⟩ := small62_ok z.1
              obtain ⟨s3, s4⟩ := small62_ok z.2
              exact ⟨i, j, rfl, ⟨s1, s2, s3, s4⟩, h2 ρ1 _ H1 (.refl n1.rep) it_rng⟩
            · rw [if_neg z] at h2
              exact h2.elim
          | _ => exact h1.elim
        | _ => cases r2 <;> exact h1.elim

/-! ### comprehensions -/
theorem wipe_in {σ : Sl} {i : Nat} : ∀ {vs : List Nat}, i ∈ vs → (L2.wipe σ vs)[i]? = if i < σ.length then some none else none
  | v :: vs, h => by
    unfold L2.wipe
    have hl : (L2.wipe σ vs).length = σ.length := wipe_length σ vs
    by_cases e : v = i
    · subst e
      by_cases z : v < σ.length
      · rw [if_pos z, List.getElem?_set_self (by rw [hl]; exact z)]
      · rw [if_neg z, List.getElem?_eq_none (by rw [List.length_set, hl]; omega)]
    · rw [List.getElem?_set_ne e]
      exact wipe_in (by rcases List.mem_cons.mp h with q | q; exact absurd q.symm e; exact q)
theorem wipe_set {σ : Sl} {i : Nat} {v : Option V} {vs : List Nat} (h : i ∈ vs) : L2.wipe (σ.set i v) vs = L2.wipe σ vs := by
  apply List.ext_getElem?
  intro j
  by_cases z : j ∈ vs
  · rw [wipe_in z, wipe_in z, List.length_set]
  · rw [wipe_out z, wipe_out z, List.getElem?_set_ne (fun e : i = j => z (e ▸ h))]
theorem wipe_wipe {σ : Sl} {vs : List Nat} : L2.wipe (L2.wipe σ vs) vs = L2.wipe σ vs := by
  apply List.ext_getElem?
  intro j
  by_cases z : j ∈ vs
  · rw [wipe_in z, wipe_in z, wipe_length]
  · rw [wipe_out z]
/-- a target that stores into the comprehension's own slots -/
def RGo (X : Cx) (W : WX) (own : List Nat) (e : Expr) (g : Gx) : Prop := PG X e (fun v σ H Q => tG X.K W g v σ H fun σ2 H2 => L2.wipe σ2 own = L2.wipe σ own → Q σ2 H2)
def RGos (X : Cx) (W : WX) (own : List Nat) (e : List Expr) (g : Gsx) : Prop := PGs X e (fun v σ H Q => tGs X.K W g v σ H fun σ2 H2 => L2.wipe σ2 own = L2.wipe σ own → Q σ2 H2)
variable {es : List Expr} {gs : Gsx} {own : List Nat}
theorem rgo_name (nd : X.N.Nodup) (i : Nat) {x : Str} (hi : X.N[i]? = some x) (hx : Loc X.env.scope x) (hf : X.fn x = true ∨ X.env.scope.names.lookup x = some .local) (ho : i ∈ own) : RGo X W own (.Name x pos) (gName i) :=
  PG.imp (pg_name nd hi hx hf) fun v σ H Q ⟨ρ, E, A, d, hE, hA, r, h⟩ => h ρ _ H (.refl hA) (hE.set i r) (wipe_set ho)
theorem rgos_nil : RGos X W own [] gNil := PGs.imp pgs_nil fun vs σ H Q ⟨ρ, E, A, ds, hE, hA, r, h⟩ => by
  cases r with
  | nil => exact ⟨rfl, h ρ _ H (.refl hA) hE rfl⟩
  | cons _ _ => exact h.elim
theorem PostG.mono {K : PySem.W.Frag} {ρ : Nat → Addr} {A : AH} {H : Hp} {r : SRes} {Q Q' : Sl → Hp → Prop} (h : PostG K W ρ A H r Q) (hq : ∀ σ H1, Q σ H1 → Q' σ H1) : PostG K W ρ A H r Q' := by
  cases r with
  | nx E B => exact fun ρ' σ H' n r => hq _ _ (h ρ' σ H' n r)
  | exc x E B => exact h
  | _ => exact h
theorem rgos_cons (h1 : RGo X W own e g) (h2 : RGos X W own es gs) (hs : (assignEach (e :: es) X.env).map (·.2) = assign e X.env :: (assignEach es X.env).map (·.2)) : RGos X W own (e :: es) (gCons g gs) := by
  refine PGs.imp (pgs_cons h1 h2 hs) fun vs σ H Q ⟨ρ, E, A, ds, hE, hA, r, h⟩ => ?_
  cases r with
  | nil => exact h.elim
  | @cons d ds v vs r1 r2 =>
    exact ⟨v, vs, rfl, ρ, E, A, d, hE, hA, r1, PostG.only h fun ρ1 E1 B σ1 H1 n1 e1 h1 w1 => ⟨ρ1, E1, B, ds, e1, n1.rep, r2.ext n1.ext, PostG.mono h1 fun σ2 H2 q w2 => q (w2.trans w1)⟩⟩
theorem rgo_tup (calm : X.calm = true) {x1 n : Nat} (h : RGos X W own es gs) (hn : (assignEach es X.env).length = n) (hst : (assignEach es X.env).findIdx? (·.1) = none) : RGo X W own (.Tuple es x1 pos) (gTup n gs) := by
  refine PG.imp (pg_tup calm h hn hst) fun v σ H Q ⟨ρ, E, A, d, hE, hA, r, h⟩ => ?_
  cases r with
  | @tup a vs ds h1 h2 =>
    have h' : PostG X.K W ρ A H (if ds.length = n then gs ds E A else .bad) (fun σ2 H2 => L2.wipe σ2 own = L2.wipe σ own → Q σ2 H2) := h
    by_cases z : ds.length = n
    · rw [if_pos z] at h'
      exact ⟨a, vs, rfl, SqT.of h1, by rw [← h2.len]; exact z, ρ, E, A, ds, hE, hA, h2, h'⟩
    · rw [if_neg z] at h'
      exact h'.elim
  | _ => exact h.elim
abbrev W0 : WX := fun _ _ _ _ => False
def RTs (X : Cx) (W : WX) (ifs : List Expr) (m : Tx) : Prop := PTs X ifs (tT X.K W m)
theorem PTs.imp {ifs : List Expr} {t t' : TT} (h : PTs X ifs t) (hh : ∀ σ H Q, t' σ H Q → t σ H Q) : PTs X ifs t' := ⟨fun pins s σ H Q I q => h.run pins s σ H Q I (hh σ H Q q)⟩
theorem rts_nil : RTs X W [] tYes := PTs.imp pts_nil fun σ H Q ⟨ρ, E, A, hE, hA, h⟩ => h ρ true H (.refl hA) rfl
theorem rts_one {c : Expr} (h : RT X W c mt) : RTs X W [c] mt := pts_one h
theorem Post.bindN {α β γ δ : Type} {K : PySem.W.Frag} {W' : WX} {rel : (Nat → Addr) → Nat → Hp → α → β → Prop} {rel2 : (Nat → Addr) → Nat → Hp → γ → δ → Prop} {ρ : Nat → Addr} {A : AH} {σ σ' : Sl} {H : Hp} {r : Res α} {f : α → AH → Res γ} {Q : δ → Hp → Prop} {Q1 : β → Hp → Prop}
    (h : Post K W rel2 ρ A σ H (r.bindN f) Q) (hq : ∀ ρ1 a B b H1, Nxt K ρ A H ρ1 B H1 → rel ρ1 B.length H1 a b → Post K W rel2 ρ1 B σ H1 (f a B) Q → Q1 b H1) : Post K W' rel ρ A σ' H r Q1 := by
  cases r with
  | ok a B => exact fun ρ' b H' n r => hq ρ' a B b H' n r (Post.later h n)
  | exc x B => exact h.elim
  | bad => exact h
/-- what a comprehension's parts are in its block -/
abbrev blkOf (X : Cx) (scope : Scope) (s : Shared) (H : Hp) (C : Addr) (cl : List (Str × Addr)) (fp : List Addr) : Cx := X.blk s H scope (compEnvC scope cl C X.env) fp
theorem lc_of {σ : Sl} {H : Hp} {Q : VK} (h : tE X.K W (eLc mi g mt me own) σ H Q) :
    tLc (tI X.K W mi) (fun v σ H Q => tG X.K W0 g v σ H fun σ2 H2 => L2.wipe σ2 own = L2.wipe σ own → Q σ2 H2) (tT X.K W0 mt) (tE X.K W0 me) own σ H Q := by
  obtain ⟨ρ, E, A, hE, hA, h⟩ := h
  refine ⟨ρ, E, A, hE, hA, ?_⟩
  have h0 : Post X.K W RepV ρ A σ H ((mi E A).bind (kLc g mt me (wipeE E own))) Q := h
  cases z : mi E A with
  | exc x B => rw [z] at h0; exact h0
  | bad => rw [z] at h0; exact h0
  | ok src B =>
    rw [z] at h0
    intro ρ1 J H1 n1 itok L hL
    have h1 : Post X.K W RepV ρ1 B σ H1 (lcN src g mt me (wipeE E own) B.length (src.size B + 1) 0 (B ++ [.lst []])) Q := Post.later h0 n1
    obtain ⟨ρ2, eL, n2⟩ := Nxt.alloc (o := .lst []) (ho := .lst []) n1.rep hL rfl fun ρ' _ => ⟨[], upd_same, .nil⟩
    have lB : B.length < (B ++ [O.lst []]).length := by rw [List.length_append]; exact Nat.lt_succ_self _
    refine ⟨fun i m H' => ∃ ρ3 A3, Nxt X.K ρ2 (B ++ [.lst []]) (upd H1 L (.lst [])) ρ3 A3 H' ∧ Post X.K W RepV ρ3 A3 σ H' (lcN src g mt me (wipeE E own) B.length m i A3) Q, ⟨src.size B + 1, ρ2, _, .refl n2.rep, Post.later h1 n2⟩, ?_⟩
    rintro i n H3 ⟨ρ3, A3, n3, h3⟩
    cases n with
    | zero => exact h3.elim
    | succ n =>
      have h4 : Post X.K W RepV ρ3 A3 σ H3 (lcK g mt me (wipeE E own) B.length (lcN src g mt me (wipeE E own) B.length n (i + 1)) A3 (src.at A3 i)) Q := h3
      have nn := n1.trans (n2.trans n3)
      have io := itok ρ3 A3 H3 (n2.trans n3) i
      have eW : RepE ρ3 A3.length H3 (wipeE E own) (L2.wipe σ own) := (hE.ext nn.ext).wipe own
      have e3 : ρ3 B.length = L := (n3.ext.same _ lB).trans eL
      have l3 : B.length < A3.length := Nat.lt_of_lt_of_le lB n3.ext.le
      cases y : src.at A3 i with
      | stop =>
        rw [y] at h4 io
        have q := h4 ρ3 (.ref (ρ3 B.length)) H3 (.refl n3.rep) (.ref l3)
        rw [e3] at q
        exact .inl ⟨io, q⟩
      | bad => rw [y] at h4; exact h4.elim
      | item d =>
        rw [y] at h4 io
        refine .inr ⟨io.1, _, fun H' q => ⟨n, Nat.lt_succ_self _, q⟩, fun x H4 yl => ?_⟩
        obtain ⟨sm, rv⟩ := io.2 x H4 yl
        have n4 := Nxt.same n3.rep sm
        refine ⟨ρ3, wipeE E own, A3, d, eW.ext n4.ext, n4.rep, rv, ?_⟩
        have h5 : Post X.K W RepV ρ3 A3 σ H4 (kLc1 mt me B.length (lcN src g mt me (wipeE E own) B.length n (i + 1)) (g d (wipeE E own) A3)) Q := Post.later h4 n4
        cases u : g d (wipeE E own) A3 with
        | nx E5 A5 =>
          rw [u] at h5
          intro ρ5 σ5 H5 n5 e5 w5
          have h6 : Post X.K W RepV ρ5 A5 σ H5 ((mt E5 A5).bindN (kLc2 me E5 B.length (lcN src g mt me (wipeE E own) B.length n (i + 1)))) Q := Post.later h5 n5
          refine ⟨by rw [w5]; exact wipe_wipe, ρ5, E5, A5, e5, n5.rep, Post.bindN h6 fun ρ6 c B6 b6 H6 n6 r6 h7 => ?_⟩
          have r6' : c = b6 := r6
          subst r6'
          cases c with
          | false => exact iteF ⟨ρ6, B6, n3.trans (n4.trans (n5.trans n6)), h7⟩
          | true =>
            have h8 : Post X.K W RepV ρ6 B6 σ H6 ((me E5 B6).bindN (kLc3 B.length (lcN src g mt me (wipeE E own) B.length n (i + 1)))) Q := h7
            refine iteT ⟨ρ6, E5, B6, e5.ext n6.ext, n6.rep, Post.bindN h8 fun ρ7 dv B7 v7 H7 n7 r7 h9 => ?_⟩
            have h10 : Post X.K W RepV ρ7 B7 σ H7 (okA (lcN src g mt me (wipeE E own) B.length n (i + 1)) (addO B.length dv B7 B7[B.length]?)) Q := h9
            have n37 := n3.trans (n4.trans (n5.trans (n6.trans n7)))
            have e7 : ρ7 B.length = L := (n37.ext.same _ lB).trans eL
            cases q : B7[B.length]? with
            | none => rw [q] at h10; exact h10.elim
            | some ob =>
              rw [q] at h10
              cases ob with
              | lst acc =>
                have h11 : Post X.K W RepV ρ7 B7 σ H7 (okA (lcN src g mt me (wipeE E own) B.length n (i + 1)) (if acc.length < line then some (B7.set B.length (.lst (acc ++ [dv]))) else none)) Q := h10
                by_cases lt : acc.length < line
                · rw [if_pos lt] at h11
                  obtain ⟨avs, q1, q2⟩ := n7.rep.objs _ _ q
                  rw [e7] at q1
                  have n8 : Nxt X.K ρ7 B7 H7 ρ7 (B7.set B.length (.lst (acc ++ [dv]))) (upd H7 (ρ7 B.length) (.lst (avs ++ [v7]))) :=
                    Nxt.set n7.rep q rfl rfl fun ex => ⟨_, upd_same, (q2.app (.cons r7 .nil)).ext ex⟩
                  rw [e7] at n8
                  exact ⟨avs, q1, by rw [← q2.len, ← line_eq]; exact lt, ρ7, _, n37.trans n8, Post.later h11 n8⟩
                · rw [if_neg lt] at h11
                  exact h11.elim
              | _ => exact h10.elim
        | exc x E5 A5 => rw [u] at h5; exact h5.elim
        | rt _ _ => rw [u] at h5; exact h5.elim
        | bk _ _ => rw [u] at h5; exact h5.elim
        | ct _ _ => rw [u] at h5; exact h5.elim
        | bad => rw [u] at h5; exact h5.elim
end
section
variable {X : Cx} {W : WX} {k : Nat} {pos : Pos} {tg iter elt : Expr} {ifs : List Expr} {scope : Scope} {own : List (Str × Nat)} {mi : Ix} {g : Gx} {mt : Tx} {me : Ex}
theorem re_lc (cx : Ctx X W k) (hi : RI X W tg iter mi) (ok : BlkOk X.N X.env.scope scope own)
    (hg : ∀ s H C cl fp, RGo (blkOf X scope s H C cl fp) W0 (own.map (·.2)) tg g) (ht : ∀ s H C cl fp, RTs (blkOf X scope s H C cl fp) W0 ifs mt) (he : ∀ s H C cl fp, RE (blkOf X scope s H C cl fp) W0 elt me)
    (hs : ∀ x, foldedSetIterable iter X.env x = pure x := by intro _; rfl) : RE X W (.ListComp elt [⟨tg, iter, ifs, 0⟩] scope pos) (eLc mi g mt me (own.map (·.2))) :=
  PE.imp (pe_lc (g := fun v σ H Q => tG X.K W0 g v σ H fun σ2 H2 => L2.wipe σ2 (own.map (·.2)) = L2.wipe σ (own.map (·.2)) → Q σ2 H2) (tt := tT X.K W0 mt) (te := tE X.K W0 me) cx.calm cx.nd hi ok hg ht he hs) fun σ H Q h => lc_of h
theorem rs_setLc (cx : Ctx X W k) (i : Nat) {y : Str} {py spos : Pos} (hi : RI X W tg iter mi) (ok : BlkOk X.N X.env.scope scope own)
    (hg : ∀ s H C cl fp, RGo (blkOf X scope s H C cl fp) W0 (own.map (·.2)) tg g) (ht : ∀ s H C cl fp, RTs (blkOf X scope s H C cl fp) W0 ifs mt) (he : ∀ s H C cl fp, RE (blkOf X scope s H C cl fp) W0 elt me)
    (hy : X.N[i]? = some y) (hyl : X.env.scope.names.lookup y = some .local) (hsw : swapsWith (.ListComp elt [⟨tg, iter, ifs, 0⟩] scope pos) (some (.Name y py)) spos.line X.env = pure true)
    (hs : ∀ x, foldedSetIterable iter X.env x = pure x := by intro _; rfl) : RS X W (.Assign [.Name y py] (.ListComp elt [⟨tg, iter, ifs, 0⟩] scope pos) spos) (sAsg (eLc mi g mt me (own.map (·.2))) (gName i)) :=
  PS.imp (ps_setLc (g := fun v σ H Q => tG X.K W0 g v σ H fun σ2 H2 => L2.wipe σ2 (own.map (·.2)) = L2.wipe σ (own.map (·.2)) → Q σ2 H2) (tt := tT X.K W0 mt) (te := tE X.K W0 me) cx.calm cx.nd hy hyl hsw hi ok hg ht he hs) fun Dn σ H ⟨ρ, E, A, hE, hA, h⟩ => lc_of (W := W) ⟨ρ, E, A, hE, hA, PostS.then hE h fun ρ1 d B v H1 n1 r1 h1 => h1 ρ1 _ H1 (.refl n1.rep) ((hE.ext n1.ext).set i r1)⟩
/-- a comprehension's block is a context like the others -/
theorem Ctx.blk (cx : Ctx X W k) (s : Shared) (H : Hp) (C : Addr) (cl : List (Str × Addr)) (fp : List Addr) : Ctx (blkOf X scope s H C cl fp) W0 k := ⟨cx.calm, cx.nd, takes0, .never, cx.room⟩
end
end DL
set_option Elab.async false
set_option linter.all false
set_option maxRecDepth 100000
set_option maxHeartbeats 4000000
/-! The operations' rules say what the plain functions say (own work). -/
namespace DL
open PySem PySem.Spec PyProof.Rows L2
section
variable {K : PySem.W.Frag} {W : WX} {ρ : Nat → Addr} {A : AH} {σ : Sl} {H : Hp} {Q : VK} {ds : List D} {vs : List V} {d : D} {v : V} {p : Addr}
theorem post_val (hA : RepA K ρ H A) (h : Post K W RepV ρ A σ H (.ok d A) Q) (r : RepV ρ A.length H d v) : Q v H := h ρ v H (.refl hA) r
theorem post_tup (hA : RepA K ρ H A) (h : Post K W RepV ρ A σ H (.ok (.tup ds) A) Q) (r : RepVs ρ A.length H ds vs) (hp : H p = none) : Q (.ref p) (upd H p (.tup vs)) := by
  have n := Nxt.same (H' := upd H p (.tup vs)) hA (same_upd hp)
  exact h ρ _ _ n (.tup upd_same (r.ext n.ext))
theorem post_new {o : O} {ho : HO} (hA : RepA K ρ H A) (h : Post K W RepV ρ A σ H (.ok (.ref A.length) (A ++ [o])) Q) (hp : H p = none) (m : o.mut = true)
    (new : ∀ ρ', Ext ρ A.length H ρ' (A.length + 1) (upd H p ho) → RepO K ρ' (A.length + 1) (upd H p ho) p o) : Q (.ref p) (upd H p ho) := by
  obtain ⟨ρ', e, n⟩ := Nxt.alloc hA hp m new
  rw [← e]
  refine h ρ' _ _ (by rw [e]; exact n) (.ref ?_)
  rw [List.length_append]
  exact Nat.lt_succ_self _
theorem post_lst (hA : RepA K ρ H A) (h : Post K W RepV ρ A σ H (.ok (.ref A.length) (A ++ [.lst ds])) Q) (r : RepVs ρ A.length H ds vs) (hp : H p = none) : Q (.ref p) (upd H p (.lst vs)) :=
  post_new hA h hp rfl fun ρ' x => ⟨vs, upd_same, r.ext x⟩
theorem reps1 (r : RepVs ρ n H [d] vs) : ∃ v, vs = [v] ∧ RepV ρ n H d v := by
  cases r with
  | cons a b => cases b; exact ⟨_, rfl, a⟩
end
section
variable {X : Cx} {W : WX} {k : Nat} {pos : Pos} {e : Expr} {es : List Expr} {me : Ex} {mr : Ax}
/-! ### displays -/
theorem re_tup {x1 : Nat} (ha : RA X W es mr) : RE X W (.Tuple es x1 pos) (eF mkTup mr) := by
  refine PE.imp (pe_tup ha) fun σ H Q ⟨ρ, E, A, hE, hA, h⟩ => ⟨ρ, E, A, hE, hA, Post.bind h fun ρ1 ds B vs H1 n1 r1 h1 => ?_⟩
  have h2 : Post X.K W RepV ρ1 B σ H1 (if ds.length ≤ line then .ok (.tup ds) B else .bad) Q := h1
  by_cases z : ds.length ≤ line
  · rw [if_pos z] at h2
    exact ⟨by rw [← r1.len, ← line_eq]; exact z, fun p hp => post_tup n1.rep h2 r1 hp⟩
  · rw [if_neg z] at h2
    exact h2.elim
theorem re_lst (ha : RA X W es mr) : RE X W (.List es pos) (eF mkLst mr) := by
  refine PE.imp (pe_lst ha) fun σ H Q ⟨ρ, E, A, hE, hA, h⟩ => ⟨ρ, E, A, hE, hA, Post.bind h fun ρ1 ds B vs H1 n1 r1 h1 => ?_⟩
  have h2 : Post X.K W RepV ρ1 B σ H1 (if ds.length ≤ line then .ok (.ref B.length) (B ++ [.lst ds]) else .bad) Q := h1
  by_cases z : ds.length ≤ line
  · rw [if_pos z] at h2
    exact ⟨by rw [← r1.len, ← line_eq]; exact z, fun p hp => post_lst n1.rep h2 r1 hp⟩
  · rw [if_neg z] at h2
    exact h2.elim
theorem re_dic : RE X W (.Dict [] [] pos) (eF mkDic aNil) :=
  PE.imp pe_dnewK fun σ H Q ⟨ρ, E, A, hE, hA, h⟩ p hp => post_new hA h hp rfl fun ρ' x => ⟨[], upd_same, .nil⟩
theorem re_dit : RE X W (.Dict [] [] pos) (eF mkDit aNil) :=
  PE.imp pe_dnewT fun σ H Q ⟨ρ, E, A, hE, hA, h⟩ p hp => post_new hA h hp rfl fun ρ' x => ⟨[], upd_same, .nil⟩
end
section
variable {X : Cx}
/-! ### operators -/
def rAdd4 (K : PySem.W.Frag) : R2 := fun x y H Q => (rI0 (fun i j => V.int (i + j)) x y H Q) ∨ (∃ i j, x = .str i ∧ y = .str j ∧ i.length + j.length ≤ sizeLine ∧ Q (.str (i ++ j)) H) ∨ rCatA K x y H Q ∨ rCat x y H Q
theorem op_add4 : OpR X (binaryOp .Add) (rAdd4 X.K) := OpR.or op_add (OpR.or op_add_str (OpR.or op_catA op_cat))
theorem lst_at {K : PySem.W.Frag} {ρ : Nat → Addr} {A : AH} {H : Hp} {i : Nat} {xs : List D} (hA : RepA K ρ H A) (e : A[i]? = some (.lst xs)) : ∃ vs, H (ρ i) = some (.lst vs) ∧ RepVs ρ A.length H xs vs := hA.objs i _ e
theorem ok_add : Ok2 X.K (rAdd4 X.K) opAdd := fun W ρ A σ H d e v u Q hA rd re h => by
  cases rd with
  | int i => cases re with
    | int j => exact .inl ⟨i, j, rfl, rfl, post_val hA h (.int _)⟩
    | _ => exact h.elim
  | str x => cases re with
    | str y =>
      have h2 : Post X.K W RepV ρ A σ H (if x.length + y.length ≤ line then .ok (.str (x ++ y)) A else .bad) Q := h
      by_cases z : x.length + y.length ≤ line
      · rw [if_pos z] at h2
        exact .inr (.inl ⟨x, y, rfl, rfl, by rw [← line_eq]; exact z, post_val hA h2 (.str _)⟩)
      · rw [if_neg z] at h2; exact h2.elim
    | _ => exact h.elim
  | @tup a vs xs q1 q2 => cases re with
    | @tup b us ys q3 q4 =>
      have h2 : Post X.K W RepV ρ A σ H (if xs.length + ys.length ≤ line then .ok (.tup (xs ++ ys)) A else .bad) Q := h
      by_cases z : xs.length + ys.length ≤ line
      · rw [if_pos z] at h2
        refine .inr (.inr (.inl ⟨a, b, vs, us, rfl, rfl, SqT.of q1, SqT.of q3, by rw [← q2.len, ← q4.len, ← line_eq]; exact z, fun e => ?_, fun _ e => ?_, fun _ _ p hp => post_tup hA h2 (q2.app q4) hp⟩))
        · subst e
          cases q2
          exact post_val hA h2 (.tup q3 q4)
        · subst e
          cases q4
          rw [List.append_nil] at h2
          exact post_val hA h2 (.tup q1 q2)
      · rw [if_neg z] at h2; exact h2.elim
    | _ => exact h.elim
  | @ref i hi => cases re with
    | @ref j hj =>
      have h2 : Post X.K W RepV ρ A σ H (lst2 A A[i]? A[j]?) Q := h
      cases e1 : A[i]? with
      | none => rw [e1] at h2; exact h2.elim
      | some o1 => cases e2 : A[j]? with
        | none => rw [e1, e2] at h2; cases o1 <;> exact h2.elim
        | some o2 =>
          rw [e1, e2] at h2
          cases o1 with
          | lst xs => cases o2 with
            | lst ys =>
              obtain ⟨vs, q1, q2⟩ := lst_at hA e1
              obtain ⟨us, q3, q4⟩ := lst_at hA e2
              have h3 : Post X.K W RepV ρ A σ H (if xs.length + ys.length ≤ line then .ok (.ref A.length) (A ++ [.lst (xs ++ ys)]) else .bad) Q := h2
              by_cases z : xs.length + ys.length ≤ line
              · rw [if_pos z] at h3
                exact .inr (.inr (.inr ⟨ρ i, ρ j, vs, us, rfl, rfl, q1, q3, by rw [← q2.len, ← q4.len, ← line_eq]; exact z, fun p hp => post_lst hA h3 (q2.app q4) hp⟩))
              · rw [if_neg z] at h3; exact h3.elim
            | _ => exact h2.elim
          | _ => exact h2.elim
    | _ => exact h.elim
  | _ => exact h.elim
theorem ok_sub : Ok2 X.K (rI0 fun i j => V.int (i - j)) opSub := fun W ρ A σ H d e v u Q hA rd re h => by
  cases rd with
  | int i => cases re with
    | int j => exact ⟨i, j, rfl, rfl, post_val hA h (.int _)⟩
    | _ => exact h.elim
  | _ => exact h.elim
def rMul3 (K : PySem.W.Frag) : R2 := fun x y H Q => (rI CMul (fun i j => V.int (i * j)) x y H Q) ∨ rRepT K x y H Q ∨ rRep x y H Q
theorem op_mul3 : OpR X (binaryOp .Mult) (rMul3 X.K) := OpR.or op_mul (OpR.or op_repT op_rep)
theorem rep_reps {ρ : Nat → Addr} {n : Nat} {H : Hp} {xs : List D} {vs : List V} (r : RepVs ρ n H xs vs) (k : Int) : RepVs ρ n H (rep k xs) (List.replicate k.toNat vs).flatten := by
  unfold rep
  induction k.toNat with
  | zero => exact .nil
  | succ m ih =>
    rw [List.replicate_succ, List.replicate_succ, List.flatten_cons, List.flatten_cons]
    exact r.app ih
theorem wide_of {i : Int} (h : tooWide i = false) : -(2 ^ 64) < i ∧ i < 2 ^ 64 := by
  unfold tooWide at h
  simp only [Bool.not_eq_false', Bool.and_eq_true, decide_eq_true_eq] at h
  exact h
theorem ok_mul : Ok2 X.K (rMul3 X.K) opMul := fun W ρ A σ H d e v u Q hA rd re h => by
  cases rd with
  | int i => cases re with
    | int j =>
      have h2 : Post X.K W RepV ρ A σ H (if (tooWide i && tooWide j) = true then .bad else .ok (.int (i * j)) A) Q := h
      by_cases z : (tooWide i && tooWide j) = true
      · rw [if_pos z] at h2; exact h2.elim
      · rw [if_neg z] at h2
        refine .inl ⟨i, j, rfl, rfl, ?_, post_val hA h2 (.int _)⟩
        cases y : tooWide i with
        | false => exact .inl (wide_of y)
        | true =>
          cases y2 : tooWide j with
          | false => exact .inr (wide_of y2)
          | true => rw [y, y2] at z; exact absurd rfl z
    | _ => exact h.elim
  | @tup a vs xs q1 q2 => cases re with
    | int k =>
      have h2 : Post X.K W RepV ρ A σ H (if xs ≠ [] ∧ 2 ≤ k ∧ k ≤ 1000 ∧ xs.length ≤ 1000 then .ok (.tup (rep k xs)) A else .bad) Q := h
      by_cases z : xs ≠ [] ∧ 2 ≤ k ∧ k ≤ 1000 ∧ xs.length ≤ 1000
      · rw [if_pos z] at h2
        refine .inr (.inl ⟨a, k, vs, rfl, rfl, SqT.of q1, fun e => ?_, z.2.1, z.2.2.1, by rw [← q2.len]; exact z.2.2.2, fun p hp => post_tup hA h2 (rep_reps q2 k) hp⟩)
        subst e
        cases q2
        exact z.1 rfl
      · rw [if_neg z] at h2; exact h2.elim
    | _ => exact h.elim
  | @ref i hi => cases re with
    | int k =>
      have h2 : Post X.K W RepV ρ A σ H (mulL A k A[i]?) Q := h
      cases e1 : A[i]? with
      | none => rw [e1] at h2; exact h2.elim
      | some o1 =>
        rw [e1] at h2
        cases o1 with
        | lst xs =>
          obtain ⟨vs, q1, q2⟩ := lst_at hA e1
          have h3 : Post X.K W RepV ρ A σ H (if -(2 ^ 63) ≤ k ∧ k < 2 ^ 63 then (if xs.length * k.toNat ≤ line then .ok (.ref A.length) (A ++ [.lst (rep k xs)]) else .bad) else .bad) Q := h2
          by_cases z : -(2 ^ 63) ≤ k ∧ k < 2 ^ 63
          · rw [if_pos z] at h3
            by_cases y : xs.length * k.toNat ≤ line
            · rw [if_pos y] at h3
              exact .inr (.inr ⟨ρ i, k, vs, rfl, rfl, q1, z.1, z.2, by rw [← q2.len, ← line_eq]; exact y, fun p hp => post_lst hA h3 (rep_reps q2 k) hp⟩)
            · rw [if_neg y] at h3; exact h3.elim
          · rw [if_neg z] at h3; exact h3.elim
        | _ => exact h2.elim
    | _ => exact h.elim
  | _ => exact h.elim
theorem ok_mod : Ok2 X.K (rI (fun _ j => j ≠ 0) fun i j => V.int (i.fmod j)) opMod := fun W ρ A σ H d e v u Q hA rd re h => by
  cases rd with
  | int i => cases re with
    | int j =>
      have h2 : Post X.K W RepV ρ A σ H (if j ≠ 0 then .ok (.int (i.fmod j)) A else .bad) Q := h
      by_cases z : j ≠ 0
      · rw [if_pos z] at h2; exact ⟨i, j, rfl, rfl, z, post_val hA h2 (.int _)⟩
      · rw [if_neg z] at h2; exact h2.elim
    | _ => exact h.elim
  | _ => exact h.elim
theorem ok_div : Ok2 X.K (rI CDivN fun i j => V.int (i.fdiv j)) opDiv := fun W ρ A σ H d e v u Q hA rd re h => by
  cases rd with
  | int i => cases re with
    | int j =>
      have h2 : Post X.K W RepV ρ A σ H (if j ≠ 0 ∧ j.natAbs < 1073741824 then .ok (.int (i.fdiv j)) A else .bad) Q := h
      by_cases z : j ≠ 0 ∧ j.natAbs < 1073741824
      · rw [if_pos z] at h2; exact ⟨i, j, rfl, rfl, z, post_val hA h2 (.int _)⟩
      · rw [if_neg z] at h2; exact h2.elim
    | _ => exact h.elim
  | _ => exact h.elim
theorem ok_pow : Ok2 X.K (rI CPow fun i j => V.int (i ^ j.toNat)) opPow := fun W ρ A σ H d e v u Q hA rd re h => by
  cases rd with
  | int i => cases re with
    | int j =>
      have h2 : Post X.K W RepV ρ A σ H (if 0 ≤ j ∧ j ≤ 1000000 ∧ i.natAbs < 2 ^ 64 then .ok (.int (i ^ j.toNat)) A else .bad) Q := h
      by_cases z : 0 ≤ j ∧ j ≤ 1000000 ∧ i.natAbs < 2 ^ 64
      · rw [if_pos z] at h2; exact ⟨i, j, rfl, rfl, z, post_val hA h2 (.int _)⟩
      · rw [if_neg z] at h2; exact h2.elim
    | _ => exact h.elim
  | _ => exact h.elim
theorem ok_neg : OkL X.K (fun vs H Q => ∃ v, vs = [v] ∧ rU (fun i => V.int (-i)) v H Q) opNeg := fun W ρ A σ H ds vs Q hA r h => by
  cases r with
  | nil => exact h.elim
  | cons r1 r2 => cases r2 with
    | cons _ _ => cases r1 <;> exact h.elim
    | nil => cases r1 with
      | int i => exact ⟨_, rfl, i, rfl, post_val hA h (.int _)⟩
      | _ => exact h.elim
theorem ok_lt : Ok2 X.K (rI0 fun i j => V.bl (decide (i < j))) opLt := fun W ρ A σ H d e v u Q hA rd re h => by
  cases rd with
  | int i => cases re with
    | int j => exact ⟨i, j, rfl, rfl, post_val hA h (.bl _)⟩
    | _ => exact h.elim
  | _ => exact h.elim
theorem ok_le : Ok2 X.K (rI0 fun i j => V.bl (decide (i ≤ j))) opLe := fun W ρ A σ H d e v u Q hA rd re h => by
  cases rd with
  | int i => cases re with
    | int j => exact ⟨i, j, rfl, rfl, post_val hA h (.bl _)⟩
    | _ => exact h.elim
  | _ => exact h.elim
theorem ok_gt : Ok2 X.K (rI0 fun i j => V.bl (decide (j < i))) opGt := fun W ρ A σ H d e v u Q hA rd re h => by
  cases rd with
  | int i => cases re with
    | int j => exact ⟨i, j, rfl, rfl, post_val hA h (.bl _)⟩
    | _ => exact h.elim
  | _ => exact h.elim
theorem ok_ge : Ok2 X.K (rI0 fun i j => V.bl (decide (j ≤ i))) opGe := fun W ρ A σ H d e v u Q hA rd re h => by
  cases rd with
  | int i => cases re with
    | int j => exact ⟨i, j, rfl, rfl, post_val hA h (.bl _)⟩
    | _ => exact h.elim
  | _ => exact h.elim
theorem isN_rep {ρ : Nat → Addr} {n : Nat} {H : Hp} {d : D} {v : V} (r : RepV ρ n H d v) : d.isN = decide (v = .non) := by
  cases r <;> first | rfl | exact (decide_eq_false (by intro z; cases z)).symm
theorem ok_is : Ok2 X.K (fun x y H Q => y = .non ∧ Q (.bl (decide (x = .non))) H) opIs := fun W ρ A σ H d e v u Q hA rd re h => by
  cases re with
  | non =>
    have h2 : Post X.K W RepV ρ A σ H (.ok (.bl d.isN) A) Q := h
    rw [isN_rep rd] at h2
    exact ⟨rfl, post_val hA h2 (.bl _)⟩
  | _ => exact h.elim
theorem ok_nis : Ok2 X.K (fun x y H Q => y = .non ∧ Q (.bl (!decide (x = .non))) H) opNis := fun W ρ A σ H d e v u Q hA rd re h => by
  cases re with
  | non =>
    have h2 : Post X.K W RepV ρ A σ H (.ok (.bl (!d.isN)) A) Q := h
    rw [isN_rep rd] at h2
    exact ⟨rfl, post_val hA h2 (.bl _)⟩
  | _ => exact h.elim

/-! ### equality -/
theorem allSome_get {α : Type} : ∀ {l : List (Option α)} {r : List α}, allSome l = some r → l = r.map some
  | [], r, h => by cases h; rfl
  | some a :: l, r, h => by
    have h' : (allSome l).map (a :: ·) = some r := h
    obtain ⟨r', e1, e2⟩ := Option.map_eq_some_iff.mp h'
    subst e2
    rw [allSome_get e1, List.map_cons]
  | none :: l, r, h => by cases h
theorem canLayAll_of {ps : List PyData} (h : ∀ p ∈ ps, p.canLay0 = true) : PyData.canLayAll0 ps = true := by
  induction ps with
  | nil => simp [PyData.canLayAll0]
  | cons p ps ih => simp [PyData.canLayAll0, h p List.mem_cons_self, ih fun q hq => h q (List.mem_cons_of_mem _ hq)]
theorem toPy_lay {A : AH} : ∀ {n : Nat} {d : D} {p : PyData}, toPy A n d = some p → p.canLay0 = true
  | 0, _, _, h => by simp [toPy] at h
  | n + 1, .non, p, h => by simp [toPy] at h; subst h; simp [PyData.canLay0]
  | n + 1, .bl b, p, h => by simp [toPy] at h; subst h; simp [PyData.canLay0]
  | n + 1, .int i, p, h => by simp [toPy] at h; subst h; simp [PyData.canLay0]
  | n + 1, .str x, p, h => by
    simp only [toPy] at h
    split at h
    · rename_i q; cases h; exact q
    · cases h
  | n + 1, .tup ds, p, h => by
    simp only [toPy] at h
    obtain ⟨ps, e1, e2⟩ := Option.map_eq_some_iff.mp h
    subst e2
    have q := allSome_get e1
    simp only [PyData.canLay0]
    refine canLayAll_of fun z hz => ?_
    have : some z ∈ ds.map (toPy A n) := by rw [q]; exact List.mem_map_of_mem hz
    obtain ⟨d, _, hd⟩ := List.mem_map.mp this
    exact toPy_lay hd
  | n + 1, .ref i, p, h => by
    simp only [toPy] at h
    cases e : seqAt A i with
    | none => rw [e] at h; cases h
    | some ds =>
      rw [e] at h
      obtain ⟨ps, e1, e2⟩ := Option.map_eq_some_iff.mp h
      subst e2
      have q := allSome_get e1
      simp only [PyData.canLay0]
      refine canLayAll_of fun z hz => ?_
      have : some z ∈ ds.map (toPy A n) := by rw [q]; exact List.mem_map_of_mem hz
      obtain ⟨d, _, hd⟩ := List.mem_map.mp this
      exact toPy_lay hd
theorem depthAll_of {n : Nat} {ps : List PyData} (h : ∀ p ∈ ps, p.depth ≤ n) : PyData.depthAll ps ≤ n := by
  induction ps with
  | nil => simp [PyData.depthAll]
  | cons p ps ih =>
    simp only [PyData.depthAll]
    exact Nat.max_le.mpr ⟨h p List.mem_cons_self, ih fun q hq => h q (List.mem_cons_of_mem _ hq)⟩
theorem toPy_depth {A : AH} : ∀ {n : Nat} {d : D} {p : PyData}, toPy A n d = some p → p.depth ≤ n
  | 0, _, _, h => by simp [toPy] at h
  | n + 1, .non, p, h => by simp [toPy] at h; subst h; simp [PyData.depth]
  | n + 1, .bl b, p, h => by simp [toPy] at h; subst h; simp [PyData.depth]
  | n + 1, .int i, p, h => by simp [toPy] at h; subst h; simp [PyData.depth]
  | n + 1, .str x, p, h => by
    simp only [toPy] at h
    split at h
    · cases h; simp [PyData.depth]
    · cases h
  | n + 1, .tup ds, p, h => by
    simp only [toPy] at h
    obtain ⟨ps, e1, e2⟩ := Option.map_eq_some_iff.mp h
    subst e2
    have q := allSome_get e1
    simp only [PyData.depth]
    refine Nat.succ_le_succ (depthAll_of fun z hz => ?_)
    have : some z ∈ ds.map (toPy A n) := by rw [q]; exact List.mem_map_of_mem hz
    obtain ⟨d, _, hd⟩ := List.mem_map.mp this
    exact toPy_depth hd
  | n + 1, .ref i, p, h => by
    simp only [toPy] at h
    cases e : seqAt A i with
    | none => rw [e] at h; cases h
    | some ds =>
      rw [e] at h
      obtain ⟨ps, e1, e2⟩ := Option.map_eq_some_iff.mp h
      subst e2
      have q := allSome_get e1
      simp only [PyData.depth]
      refine Nat.succ_le_succ (depthAll_of fun z hz => ?_)
      have : some z ∈ ds.map (toPy A n) := by rw [q]; exact List.mem_map_of_mem hz
      obtain ⟨d, _, hd⟩ := List.mem_map.mp this
      exact toPy_depth hd
theorem toPy_shaped {A : AH} {d : D} {p : PyData} (h : toPy A 60 d = some p) : SeqAt.shaped p = true := by
  unfold SeqAt.shaped
  rw [toPy_lay h, decide_eq_true (Nat.le_trans (toPy_depth h) (by decide))]
  rfl
theorem toPy_dpAll {K : PySem.W.Frag} {ρ : Nat → Addr} {A : AH} {H : Hp} {n : Nat} (f : ∀ (d : D) (v : V) (p : PyData), toPy A n d = some p → RepV ρ A.length H d v → Dp K H v p) : ∀ {ds : List D} {vs : List V} {ps : List PyData}, allSome (ds.map (toPy A n)) = some ps → RepVs ρ A.length H ds vs → DpAll K H vs ps
  | [], _, ps, h, .nil => by
    have e : ps = [] := by simpa [allSome] using h.symm
    subst e
    exact .nil
  | d :: ds, _, ps, h, .cons a b => by
    have q := allSome_get h
    cases ps with
    | nil => cases q
    | cons p ps =>
      rw [List.map_cons, List.map_cons] at q
      injection q with q1 q2
      refine .cons (f d _ p q1 a) (toPy_dpAll f (ds := ds) ?_ b)
      rw [List.map_cons, q1] at h
      obtain ⟨r, e1, e2⟩ := Option.map_eq_some_iff.mp (show (allSome (ds.map (toPy A n))).map (p :: ·) = some (p :: ps) from h)
      injection e2 with _ e3
      rw [e1, e3]
theorem toPy_dp {K : PySem.W.Frag} {ρ : Nat → Addr} {A : AH} {H : Hp} (hA : RepA K ρ H A) : ∀ (n : Nat) (d : D) (v : V) (p : PyData), toPy A n d = some p → RepV ρ A.length H d v → Dp K H v p
  | 0, _, _, _, h, _ => by simp [toPy] at h
  | n + 1, .non, _, p, h, .non => by simp [toPy] at h; subst h; exact .non
  | n + 1, .bl b, _, p, h, .bl _ => by simp [toPy] at h; subst h; exact .bl b
  | n + 1, .int i, _, p, h, .int _ => by simp [toPy] at h; subst h; exact .int i
  | n + 1, .str x, _, p, h, .str _ => by
    simp only [toPy] at h
    split at h
    · cases h; exact .str x
    · cases h
  | n + 1, .tup ds, _, p, h, .tup q1 q2 => by
    simp only [toPy] at h
    obtain ⟨ps, e1, e2⟩ := Option.map_eq_some_iff.mp h
    subst e2
    exact .tup (SqT.of q1) (toPy_dpAll (fun d v p => toPy_dp hA n d v p) e1 q2)
  | n + 1, .ref i, _, p, h, .ref hi => by
    simp only [toPy] at h
    cases e : seqAt A i with
    | none => rw [e] at h; cases h
    | some ds =>
      rw [e] at h
      obtain ⟨ps, e1, e2⟩ := Option.map_eq_some_iff.mp h
      subst e2
      obtain ⟨vs, q1, q2⟩ := hA.seq e
      exact .lst q1 (toPy_dpAll (fun d v p => toPy_dp hA n d v p) e1 q2)
theorem ok_eq : Ok2 X.K (rEqD X.K) opEq := fun W ρ A σ H d e v u Q hA rd re h => by
  have h2 : Post X.K W RepV ρ A σ H (eqO A id (toPy A 60 d) (toPy A 60 e)) Q := h
  cases e1 : toPy A 60 d with
  | none => rw [e1] at h2; exact h2.elim
  | some p => cases e2 : toPy A 60 e with
    | none => rw [e1, e2] at h2; exact h2.elim
    | some q =>
      rw [e1, e2] at h2
      exact ⟨p, q, toPy_dp hA 60 d v p e1 rd, toPy_dp hA 60 e u q e2 re, toPy_shaped e1, toPy_shaped e2, post_val hA h2 (.bl _)⟩
theorem ok_ne : Ok2 X.K (rNeD X.K) opNe := fun W ρ A σ H d e v u Q hA rd re h => by
  have h2 : Post X.K W RepV ρ A σ H (eqO A not (toPy A 60 d) (toPy A 60 e)) Q := h
  cases e1 : toPy A 60 d with
  | none => rw [e1] at h2; exact h2.elim
  | some p => cases e2 : toPy A 60 e with
    | none => rw [e1, e2] at h2; exact h2.elim
    | some q =>
      rw [e1, e2] at h2
      exact ⟨p, q, toPy_dp hA 60 d v p e1 rd, toPy_dp hA 60 e u q e2 re, toPy_shaped e1, toPy_shaped e2, post_val hA h2 (.bl _)⟩

/-! ### items, slices -/
theorem at_rep {ρ : Nat → Addr} {n : Nat} {H : Hp} {ds : List D} {vs : List V} {i : Int} {d : D} (r : RepVs ρ n H ds vs) (h : atD ds i = some d) : ∃ v, atI vs i = some v ∧ RepV ρ n H d v := by
  unfold atD at h
  obtain ⟨j, e1, e2⟩ := Option.bind_eq_some_iff.mp h
  obtain ⟨v, q1, q2⟩ := r.get e2
  refine ⟨v, ?_, q2⟩
  unfold atI
  rw [← r.len, show ixN ds.length i = some j from e1]
  exact q1
theorem ok_ix : Ok2 X.K (rIx X.K) opIx := fun W ρ A σ H d e v u Q hA rd re h => by
  cases rd with
  | @tup a vs xs q1 q2 => cases re with
    | int i =>
      have h2 : Post X.K W RepV ρ A σ H (okO A (atD xs i)) Q := h
      cases z : atD xs i with
      | none => rw [z] at h2; exact h2.elim
      | some c =>
        rw [z] at h2
        obtain ⟨w, w1, w2⟩ := at_rep q2 z
        exact .inr (.inl ⟨a, vs, i, w, rfl, rfl, SqT.of q1, w1, post_val hA h2 w2⟩)
    | _ => exact h.elim
  | @ref j hj => cases re with
    | int i =>
      have h2 : Post X.K W RepV ρ A σ H (atS A i (seqAt A j)) Q := h
      cases y : seqAt A j with
      | none => rw [y] at h2; exact h2.elim
      | some xs =>
        rw [y] at h2
        have h3 : Post X.K W RepV ρ A σ H (okO A (atD xs i)) Q := h2
        obtain ⟨vs, q1, q2⟩ := hA.seq y
        cases z : atD xs i with
        | none => rw [z] at h3; exact h3.elim
        | some c =>
          rw [z] at h3
          obtain ⟨w, w1, w2⟩ := at_rep q2 z
          exact .inl ⟨ρ j, vs, i, w, rfl, rfl, q1, w1, post_val hA h3 w2⟩
    | _ => exact h.elim
  | _ => cases re <;> exact h.elim
theorem ok_set : OkSt X.K rSetL stIx := fun ρ A H x y d u v w B Q hA rx ry rd e hq => by
  cases rx with
  | @ref i hi => cases ry with
    | int j =>
      have e' : setO i j d A A[i]? = some B := e
      cases z : A[i]? with
      | none => rw [z] at e'; cases e'
      | some o =>
        rw [z] at e'
        cases o with
        | lst ds =>
          obtain ⟨k, e1, e2⟩ := Option.map_eq_some_iff.mp (show (ixD ds.length j).map (fun k => A.set i (.lst (ds.set k d))) = some B from e')
          subst e2
          obtain ⟨vs, q1, q2⟩ := lst_at hA z
          exact ⟨ρ i, vs, j, k, rfl, rfl, q1, by rw [← q2.len]; exact e1, hq _ (Nxt.set hA z rfl rfl fun ex => ⟨_, upd_same, (q2.set rd k).ext ex⟩)⟩
        | _ => cases e'
    | _ => cases e
  | _ => cases ry <;> cases e
theorem sIx_eq (n d : Nat) (o : Option Int) : sIxD n d o = HT.sIx n d o := by cases o <;> rfl
theorem cut_rep {ρ : Nat → Addr} {n : Nat} {H : Hp} {ds : List D} {vs : List V} {lo hi : Option Int} (r : RepVs ρ n H ds vs) : RepVs ρ n H (cutD ds lo hi) (cutV vs lo hi) := by
  unfold cutD cutV
  rw [r.len, sIx_eq, sIx_eq]
  exact (r.drop _).take _
theorem cutV_whole {vs : List V} {lo hi : Option Int} (h : HT.sIx vs.length 0 lo = 0 ∧ HT.sIx vs.length vs.length hi = vs.length) : cutV vs lo hi = vs := by
  unfold cutV
  rw [h.1, h.2, List.drop_zero, Nat.sub_zero, List.take_length]
/-- what a slice's part is -/
def relP : (Nat → Addr) → Nat → Hp → Option Int → Option Int → Prop := fun _ _ _ a b => a = b
def tP (K : PySem.W.Frag) (W : WX) (m : Px) : TO := fun σ H Q => ∃ ρ E A, RepE ρ A.length H E σ ∧ RepA K ρ H A ∧ Post K W relP ρ A σ H (m E A) Q
def RP (X : Cx) (W : WX) (e : Option Expr) (m : Px) : Prop := PO X e (tP X.K W m)
theorem PO.imp {e : Option Expr} {t t' : TO} (h : PO X e t) (hh : ∀ σ H Q, t' σ H Q → t σ H Q) : PO X e t' := ⟨fun pins s σ H Q I q => h.run pins s σ H Q I (hh σ H Q q)⟩
variable {W : WX} {pos p2 : Pos} {e : Expr} {me : Ex}
theorem rp_none : RP X W none pNone := PO.imp po_none fun σ H Q ⟨ρ, E, A, hE, hA, h⟩ => h ρ none H (.refl hA) rfl
theorem rp_some (he : RE X W e me) : RP X W (some e) (pSome me) := PO.imp (po_some he) fun σ H Q ⟨ρ, E, A, hE, hA, h⟩ => ⟨ρ, E, A, hE, hA, Post.bind h fun ρ1 d B v H1 n1 r1 h1 => by
  cases r1 with
  | int i => exact ⟨i, rfl, h1 ρ1 _ H1 (.refl n1.rep) rfl⟩
  | _ => exact h1.elim⟩
theorem re_sl {lo hi : Option Expr} {ml mh : Px} (he : RE X W e me) (hl : RP X W lo ml) (hh : RP X W hi mh) : RE X W (.Subscript e (.Slice lo hi none p2) pos) (eSl me ml mh) := by
  refine PE.imp (pe_slice (SlR.or sl_tupA sl_list) he hl hh) fun σ H Q ⟨ρ, E, A, hE, hA, h⟩ => ⟨ρ, E, A, hE, hA, Post.bind h fun ρ1 d B v H1 n1 r1 h1 => ?_⟩
  refine ⟨ρ1, E, B, hE.ext n1.ext, n1.rep, Post.bind h1 fun ρ2 l C l' H2 n2 r2 h2 => ?_⟩
  have r2' : l = l' := r2
  subst r2'
  refine ⟨ρ2, E, C, hE.ext (n1.ext.trans n2.ext), n2.rep, Post.bind h2 fun ρ3 u G u' H3 n3 r3 h3 => ?_⟩
  have r3' : u = u' := r3
  subst r3'
  have h4 : Post X.K W RepV ρ3 G σ H3 (opSl l u G d) Q := h3
  cases r1.ext (n2.ext.trans n3.ext) with
  | @tup a vs ds q1 q2 =>
    refine .inl ⟨a, vs, rfl, SqT.of q1, fun z => post_val n3.rep h4 (.tup q1 ?_), fun _ p hp => post_tup n3.rep h4 (cut_rep q2) hp⟩
    have q := cut_rep (lo := l) (hi := u) q2
    rw [cutV_whole z] at q
    exact q
  | @ref i hi =>
    have h5 : Post X.K W RepV ρ3 G σ H3 (cutS G l u (seqAt G i)) Q := h4
    cases z : seqAt G i with
    | none => rw [z] at h5; exact h5.elim
    | some ds =>
      rw [z] at h5
      obtain ⟨vs, q1, q2⟩ := n3.rep.seq z
      exact .inr ⟨ρ3 i, vs, rfl, q1, fun p hp => post_lst n3.rep h5 (cut_rep q2) hp⟩
  | _ => exact h4.elim
/-! ### built-in functions -/
theorem one_of {K : PySem.W.Frag} {W : WX} {ρ : Nat → Addr} {A : AH} {σ : Sl} {H : Hp} {Q : VK} {F : Fn} {ds : List D} {vs : List V} (h1 : ∀ A, F [] A = .bad) (h2 : ∀ d e r A, F (d :: e :: r) A = .bad) (r : RepVs ρ A.length H ds vs) (h : Post K W RepV ρ A σ H (F ds A) Q) : ∃ d v, ds = [d] ∧ vs = [v] ∧ RepV ρ A.length H d v := by
  cases r with
  | nil => rw [h1] at h; exact h.elim
  | cons a b => cases b with
    | nil => exact ⟨_, _, rfl, rfl, a⟩
    | cons _ _ => rw [h2] at h; exact h.elim
theorem ok_len : OkL X.K (fun xs H Q => ∃ p ys, xs = [.ref p] ∧ (SqL X.K H p ys ∨ SqT X.K H p ys) ∧ Q (.int ys.length) H) biLen := fun W ρ A σ H ds vs Q hA r h => by
  obtain ⟨d, v, e1, e2, rd⟩ := one_of (F := biLen) (fun _ => rfl) (fun d e r A => by cases d <;> rfl) r h
  subst e1 e2
  cases rd with
  | @tup a vs xs q1 q2 =>
    have h2 : Post X.K W RepV ρ A σ H (.ok (.int xs.length) A) Q := h
    rw [q2.len] at h2
    exact ⟨a, vs, rfl, .inr (SqT.of q1), post_val hA h2 (.int _)⟩
  | @ref i hi =>
    have h2 : Post X.K W RepV ρ A σ H (lenS A A[i]?) Q := h
    have key : ∀ xs, seqAt A i = some xs → Post X.K W RepV ρ A σ H (.ok (.int xs.length) A) Q → ∃ p ys, [V.ref (ρ i)] = [.ref p] ∧ (SqL X.K H p ys ∨ SqT X.K H p ys) ∧ Q (.int ys.length) H := fun xs z h3 => by
      obtain ⟨us, q1, q2⟩ := hA.seq z
      rw [q2.len] at h3
      exact ⟨ρ i, us, rfl, .inl q1, post_val hA h3 (.int _)⟩
    cases z : A[i]? with
    | none => rw [z] at h2; exact h2.elim
    | some o =>
      rw [z] at h2
      cases o with
      | lst xs => exact key xs (by unfold seqAt; rw [z]; rfl) h2
      | rol xs => exact key xs (by unfold seqAt; rw [z]; rfl) h2
      | _ => exact h2.elim
  | _ => exact h.elim
theorem ok_list : OkL X.K (fun xs H Q => ∃ p ys, xs = [.ref p] ∧ (SqL X.K H p ys ∨ SqT X.K H p ys) ∧ ∀ l, H l = none → Q (.ref l) (upd H l (.lst ys))) biList := fun W ρ A σ H ds vs Q hA r h => by
  obtain ⟨d, v, e1, e2, rd⟩ := one_of (F := biList) (fun _ => rfl) (fun d e r A => by cases d <;> rfl) r h
  subst e1 e2
  cases rd with
  | @tup a vs xs q1 q2 => exact ⟨a, vs, rfl, .inr (SqT.of q1), fun l hl => post_lst hA h q2 hl⟩
  | @ref i hi =>
    have h2 : Post X.K W RepV ρ A σ H (toLst A (seqAt A i)) Q := h
    cases z : seqAt A i with
    | none => rw [z] at h2; exact h2.elim
    | some xs =>
      rw [z] at h2
      obtain ⟨us, q1, q2⟩ := hA.seq z
      exact ⟨ρ i, us, rfl, .inl q1, fun l hl => post_lst hA h2 q2 hl⟩
  | _ => exact h.elim
theorem ok_tuple : OkL X.K (fun xs H Q => ∃ p ys, xs = [.ref p] ∧ ((SqL X.K H p ys ∧ ∀ l, H l = none → Q (.ref l) (upd H l (.tup ys))) ∨ (SqT X.K H p ys ∧ Q (.ref p) H))) biTuple := fun W ρ A σ H ds vs Q hA r h => by
  obtain ⟨d, v, e1, e2, rd⟩ := one_of (F := biTuple) (fun _ => rfl) (fun d e r A => by cases d <;> rfl) r h
  subst e1 e2
  cases rd with
  | @tup a vs xs q1 q2 => exact ⟨a, vs, rfl, .inr ⟨SqT.of q1, post_val hA h (.tup q1 q2)⟩⟩
  | @ref i hi =>
    have h2 : Post X.K W RepV ρ A σ H (toTup A (seqAt A i)) Q := h
    cases z : seqAt A i with
    | none => rw [z] at h2; exact h2.elim
    | some xs =>
      rw [z] at h2
      obtain ⟨us, q1, q2⟩ := hA.seq z
      exact ⟨ρ i, us, rfl, .inl ⟨q1, fun l hl => post_tup hA h2 q2 hl⟩⟩
  | _ => exact h.elim
theorem ok_int : OkL X.K (fun xs H Q => (∃ i, xs = [V.int i] ∧ Q (.int i) H) ∨ ∃ k, xs = [V.bl k] ∧ Q (.int (if k then 1 else 0)) H) biInt := fun W ρ A σ H ds vs Q hA r h => by
  obtain ⟨d, v, e1, e2, rd⟩ := one_of (F := biInt) (fun _ => rfl) (fun d e r A => by cases d <;> rfl) r h
  subst e1 e2
  cases rd with
  | int i => exact .inl ⟨i, rfl, post_val hA h (.int _)⟩
  | bl b => exact .inr ⟨b, rfl, post_val hA h (.int _)⟩
  | _ => exact h.elim
theorem ok_abs : OkL X.K (fun xs H Q => ∃ i, xs = [V.int i] ∧ Q (.int (if i < 0 then -i else i)) H) biAbs := fun W ρ A σ H ds vs Q hA r h => by
  obtain ⟨d, v, e1, e2, rd⟩ := one_of (F := biAbs) (fun _ => rfl) (fun d e r A => by cases d <;> rfl) r h
  subst e1 e2
  cases rd with
  | int i => exact ⟨i, rfl, post_val hA h (.int _)⟩
  | _ => exact h.elim
theorem ints_repm {ρ : Nat → Addr} {n : Nat} {H : Hp} : ∀ {ds : List D} {vs : List V} {ns : List Int}, ds.map D.int? = ns.map some → RepVs ρ n H ds vs → vs = ns.map V.int
  | [], _, ns, q, .nil => by
    cases ns with
    | nil => rfl
    | cons _ _ => cases q
  | d :: ds, _, ns, q, .cons a b => by
    cases ns with
    | nil => cases q
    | cons c cs =>
      rw [List.map_cons, List.map_cons] at q
      injection q with q1 q2
      rw [ints_repm q2 b, List.map_cons]
      cases a <;> cases q1
      rfl
theorem ints_rep {ρ : Nat → Addr} {n : Nat} {H : Hp} {ds : List D} {vs : List V} {ns : List Int} (h : intsOf ds = some ns) (r : RepVs ρ n H ds vs) : vs = ns.map V.int := ints_repm (allSome_get h) r
theorem bls_rep {ρ : Nat → Addr} {n : Nat} {H : Hp} : ∀ {ds : List D} {vs : List V} {bs : List Bool}, ds.map D.bl? = bs.map some → RepVs ρ n H ds vs → vs = bs.map V.bl
  | [], _, bs, q, .nil => by
    cases bs with
    | nil => rfl
    | cons _ _ => cases q
  | d :: ds, _, bs, q, .cons a b => by
    cases bs with
    | nil => cases q
    | cons c cs =>
      rw [List.map_cons, List.map_cons] at q
      injection q with q1 q2
      rw [bls_rep q2 b, List.map_cons]
      cases a <;> cases q1
      rfl
theorem maxI_ge (m : Int) : ∀ ns : List Int, m ≤ maxI m ns ∧ ∀ y ∈ ns, y ≤ maxI m ns := by
  intro ns
  induction ns generalizing m with
  | nil => exact ⟨Int.le_refl _, fun _ h => by cases h⟩
  | cons n ns ih =>
    obtain ⟨h1, h2⟩ := ih (max m n)
    refine ⟨Int.le_trans (Int.le_max_left m n) h1, fun y hy => ?_⟩
    rcases List.mem_cons.mp hy with e | hy
    · subst e; exact Int.le_trans (Int.le_max_right m y) h1
    · exact h2 y hy
theorem maxI_mem (m : Int) : ∀ ns : List Int, maxI m ns = m ∨ maxI m ns ∈ ns := by
  intro ns
  induction ns generalizing m with
  | nil => exact .inl rfl
  | cons n ns ih =>
    rcases ih (max m n) with e | e
    · have e' : maxI m (n :: ns) = max m n := e
      rw [e']
      by_cases z : m ≤ n
      · rw [Int.max_eq_right z]; exact .inr List.mem_cons_self
      · rw [Int.max_eq_left (by omega)]; exact .inl rfl
    · exact .inr (List.mem_cons_of_mem _ e)
theorem ok_max : OkL X.K (rMax X.K) biMax := fun W ρ A σ H ds vs Q hA r h => by
  obtain ⟨d, v, e1, e2, rd⟩ := one_of (F := biMax) (fun _ => rfl) (fun d e r A => by cases d <;> rfl) r h
  subst e1 e2
  cases rd with
  | @ref i hi =>
    have h2 : Post X.K W RepV ρ A σ H (maxO A ((seqAt A i).bind intsOf)) Q := h
    cases z : seqAt A i with
    | none => rw [z] at h2; exact h2.elim
    | some xs =>
      rw [z] at h2
      have h3 : Post X.K W RepV ρ A σ H (maxO A (intsOf xs)) Q := h2
      obtain ⟨us, q1, q2⟩ := hA.seq z
      cases y : intsOf xs with
      | none => rw [y] at h3; exact h3.elim
      | some ns =>
        rw [y] at h3
        cases ns with
        | nil => exact h3.elim
        | cons n ns =>
          rw [ints_rep y q2] at q1
          have q := post_val hA (show Post X.K W RepV ρ A σ H (.ok (.int (maxI n ns)) A) Q from h3) (.int _)
          refine ⟨ρ i, n :: ns, rfl, q1, Nat.succ_pos _, fun m hm hle => ?_⟩
          have e : m = maxI n ns := by
            have a1 := maxI_ge n ns
            have b1 : m ≤ maxI n ns := by
              rcases List.mem_cons.mp hm with e | e
              · rw [e]; exact a1.1
              · exact a1.2 m e
            have b2 : maxI n ns ≤ m := by
              rcases maxI_mem n ns with e | e
              · rw [e]; exact hle n List.mem_cons_self
              · exact hle _ (List.mem_cons_of_mem _ e)
            omega
          rw [e]
          exact q
  | _ => exact h.elim
theorem ok_all : OkL X.K (rAll X.K) biAll := fun W ρ A σ H ds vs Q hA r h => by
  obtain ⟨d, v, e1, e2, rd⟩ := one_of (F := biAll) (fun _ => rfl) (fun d e r A => by cases d <;> rfl) r h
  subst e1 e2
  cases rd with
  | @ref i hi =>
    have h2 : Post X.K W RepV ρ A σ H (allO A ((seqAt A i).bind blsOf)) Q := h
    cases z : seqAt A i with
    | none => rw [z] at h2; exact h2.elim
    | some xs =>
      rw [z] at h2
      have h3 : Post X.K W RepV ρ A σ H (allO A (blsOf xs)) Q := h2
      obtain ⟨us, q1, q2⟩ := hA.seq z
      cases y : blsOf xs with
      | none => rw [y] at h3; exact h3.elim
      | some bs =>
        rw [y] at h3
        rw [bls_rep (allSome_get y) q2] at q1
        exact ⟨ρ i, bs, rfl, q1, post_val hA h3 (.bl _)⟩
  | _ => exact h.elim
theorem ok_any : OkL X.K (rAny X.K) biAny := fun W ρ A σ H ds vs Q hA r h => by
  obtain ⟨d, v, e1, e2, rd⟩ := one_of (F := biAny) (fun _ => rfl) (fun d e r A => by cases d <;> rfl) r h
  subst e1 e2
  cases rd with
  | @ref i hi =>
    have h2 : Post X.K W RepV ρ A σ H (anyO A ((seqAt A i).bind blsOf)) Q := h
    cases z : seqAt A i with
    | none => rw [z] at h2; exact h2.elim
    | some xs =>
      rw [z] at h2
      have h3 : Post X.K W RepV ρ A σ H (anyO A (blsOf xs)) Q := h2
      obtain ⟨us, q1, q2⟩ := hA.seq z
      cases y : blsOf xs with
      | none => rw [y] at h3; exact h3.elim
      | some bs =>
        rw [y] at h3
        rw [bls_rep (allSome_get y) q2] at q1
        exact ⟨ρ i, bs, rfl, q1, post_val hA h3 (.bl _)⟩
  | _ => exact h.elim
theorem ok_sum : OkL X.K (rSum X.K) biSum := fun W ρ A σ H ds vs Q hA r h => by
  obtain ⟨d, v, e1, e2, rd⟩ := one_of (F := biSum) (fun _ => rfl) (fun d e r A => by cases d <;> rfl) r h
  subst e1 e2
  cases rd with
  | @ref i hi =>
    have h2 : Post X.K W RepV ρ A σ H (sumO A ((seqAt A i).bind intsOf)) Q := h
    cases z : seqAt A i with
    | none => rw [z] at h2; exact h2.elim
    | some xs =>
      rw [z] at h2
      have h3 : Post X.K W RepV ρ A σ H (sumO A (intsOf xs)) Q := h2
      obtain ⟨us, q1, q2⟩ := hA.seq z
      cases y : intsOf xs with
      | none => rw [y] at h3; exact h3.elim
      | some ns =>
        rw [y] at h3
        rw [ints_rep y q2] at q1
        exact ⟨ρ i, ns, rfl, q1, post_val hA h3 (.int _)⟩
  | _ => exact h.elim
end
end DL
set_option Elab.async false
set_option linter.all false
set_option maxRecDepth 100000
set_option maxHeartbeats 4000000
/-! Further constructs (own work). -/
namespace DL
open PySem PySem.Spec PyProof.Rows L2
section
variable {X : Cx} {W : WX} {k : Nat} {pos p : Pos} {e : Expr} {es : List Expr} {me mo : Ex} {mr : Ax}
/-! ### stars in displays -/
theorem keyD_repV {ρ : Nat → Addr} {n : Nat} {H : Hp} {d : D} {k : Key} (h : keyD d = some k) : RepV ρ n H d (kV k) := by
  cases d with
  | int i => cases h; exact .int i
  | str x => cases h; exact .str x
  | _ => cases h
theorem repK_keys {ρ : Nat → Addr} {n : Nat} {H : Hp} : ∀ {fs : List (D × D)} {gs : List (Key × V)}, RepK keyD ρ n H fs gs → RepVs ρ n H (fs.map (·.1)) (gs.map fun kv => kV kv.1)
  | [], _, .nil => .nil
  | _ :: _, _, .cons a b c => .cons (keyD_repV a) (repK_keys c)
theorem kdl_iadd {prog : Program} {w : World} {A : Around} {s : Shared} {T : String} {r d : Addr} {n : Nat} {P : Nat → Value → Prop} {OK : Heap → Prop} {R : Result → Shared → Prop} (K : PySem.W.KdlSrc prog w T r d n P OK) (hh : A.handled = none) (hok : OK s.heap) (S : Addr) (hSr : S ≠ r) (hSd : S ≠ d) (c₀ : Nat) (hS : s.heap.get? S = some { cls := .type "list", data := .seq #[] c₀ })
    (hR : ∀ h' tk acc' c', (∀ b o, b ≠ S → s.heap.get? b = some o → h'.get? b = some o) → h'.get? S = some { cls := .type "list", dict := none, data := .seq acc' c', slots := #[] } → ItemsOf P acc' n → R (.ok (.ret (.ref S))) { s with heap := h', toks := tk }) (hn : n ≤ sizeLine) :
    codeAny (model prog w) A (.builtin "list.__iadd__" ⟨[.ref S, .ref r], []⟩) R s := by
  refine codeAny_builtin PySem.F.entry_list_iadd ?_
  rw [Around.under_plainId PySem.F.plain_list_iadd _]
  exact PySem.W.kdl_extend K hh hok S hSr hSd (.ref S) c₀ hS hR hn
/-- what a dict, a view gives when it is collected -/
theorem kdl_collect {prog : Program} {w : World} {A : Around} {E : Value → Shared → Prop} {s : Shared} {T : String} {r d : Addr} {n : Nat} {P : Nat → Value → Prop} {OK : Heap → Prop} {Q : List Value → Shared → Prop} (K : PySem.W.KdlSrc prog w T r d n P OK) (hh : A.handled = none) (hok : OK s.heap) (hn : n ≤ sizeLine)
    (hQ : ∀ h' tk acc', (∀ b o, s.heap.get? b = some o → h'.get? b = some o) → ItemsOf P acc' n → Q acc'.toList { s with heap := h', toks := tk }) : wpAny (model prog w) A (collect (.ref r)) Q E s := by
  have hlt := K.there _ hok
  unfold collect
  refine wpAny_bind (wpAny_runValue (codeAny_builtin PySem.F.entry_proto_collect ?_))
  rw [Around.under_plainId PySem.F.plain_proto_collect _]
  show wpAny _ A.in1 (newList [] >>= fun l => again (.builtin "list.__iadd__" ⟨[l, .ref r], []⟩)) _ _ s
  refine wpAny_bind (wpAny_newObj_type ?_)
  refine wpAny_pure ⟨plainId_quiet PySem.F.plain_list_iadd _, kdl_iadd K hh (K.keep s.heap _ hok fun b _ o e => Heap.get?_push_of_some _ e) _ (Nat.ne_of_gt hlt.1) (Nat.ne_of_gt hlt.2) 0 (Heap.get?_push_size _ rfl) (fun h' tk acc' c' hk hS' hacc => ?_) hn⟩
  show wpAny _ A (load s.heap.objs.size >>= _) _ _ _
  refine wpAny_bind (wpAny_load hS' ?_)
  exact wpAny_pure (hQ h' tk acc' (fun b o e => hk b o (Nat.ne_of_lt (Heap.lt_size e)) (Heap.get?_push_of_some _ e)) hacc)
theorem ra_star (cx : X.calm = true) (he : RE X W e me) (hr : RA X W es mr) (hs : starEach (.Starred e p :: es) X.env = (true, eval e X.env) :: starEach es X.env := by rfl) : RA X W (.Starred e p :: es) (aStar me mr) := by
  refine ⟨fun pos pins s σ H Q I ⟨ρ, E, A, hE, hA, h⟩ => ?_⟩
  have q := he.run pins s σ H _ I ⟨ρ, E, A, hE, hA, Post.bind h fun ρ1 d B v H1 n1 r1 h1 => (⟨ρ1, d, B, n1, r1, h1⟩ : ∃ ρ1 d B, Nxt X.K ρ A H ρ1 B H1 ∧ RepV ρ1 B.length H1 d v ∧ Post X.K W RepVs ρ1 B σ H1 (kStar mr E d B) Q)⟩
  refine PySem.W.items_star (thn q fun u s1 ⟨v, H1, I1, rv, ρ1, d, B, n1, r1, h1⟩ => ?_) hs
  have fin : ∀ (ds : List D) (vs : List V) (us : List Value) (a : Addr) (T : String) (o : Obj) (n : Nat), u = .ref a → T = "list" ∨ T = "tuple" → s1.heap.get? a = some o → o.cls = .type T → o.data = .seq us.toArray n → us.length ≤ sizeLine → Vals vs us → RepVs ρ1 B.length H1 ds vs →
      Post X.K W RepVs ρ1 B σ H1 ((mr E B).bind (kStar2 ds)) Q →
      PySem.W.StarOf (model X.prog X.w) X.A X.xe u (fun here s₂ => wpAny (model X.prog X.w) X.A (spliced (backTo pos (starEach es X.env))) (fun vs s₃ => AP X pins σ Q (here ++ vs) s₃) X.xe s₂) s1 := by
    intro ds vs us a T o n eu hT ho hc hd hz hv rd hp
    subst eu
    have hty : s1.TypeIs (.ref a) T := ⟨o, ho, hc⟩
    have z : wpAny (model X.prog X.w) X.A (collect (.ref a)) (fun here s₂ => wpAny (model X.prog X.w) X.A (spliced (backTo pos (starEach es X.env))) (fun vs s₃ => AP X pins σ Q (here ++ vs) s₃) X.xe s₂) X.xe s1 := by
      refine wpAny_collect_seq a hT ho hc hd (fun h' hk => ?_) (by simpa using hz)
      have I2 : Inv X pins σ H1 { s1 with heap := h' } := I1.kept (t' := s1.toks) hk
      have q2 := hr.run pos pins _ σ H1 _ I2 ⟨ρ1, E, B, hE.ext n1.ext, n1.rep, Post.bind hp fun ρ2 xs C ws H2 n2 r2 h2 => (⟨ρ2, xs, C, n2, r2, h2⟩ : ∃ ρ2 xs C, Nxt X.K ρ1 B H1 ρ2 C H2 ∧ RepVs ρ2 C.length H2 xs ws ∧ Post X.K W RepVs ρ2 C σ H2 (kStar2 ds xs C) Q)⟩
      refine thn q2 fun ws s3 ⟨wv, H2, I3, rw', ρ2, xs, C, n2, r2, h2⟩ => ?_
      exact ⟨vs ++ wv, H2, I3, by simpa using hv.append rw', h2 ρ2 _ H2 (.refl n2.rep) ((rd.ext n2.ext).app r2)⟩
    unfold PySem.W.StarOf notIterableAtAll
    rcases hT with rfl | rfl
    · exact wpAny_bind (wpAny_specialOf hty PySem.F.slot_list_iter.lookup (wpAny_pure ⟨rfl, z⟩))
    · exact wpAny_bind (wpAny_specialOf hty PySem.F.slot_tuple_iter.lookup (wpAny_pure ⟨rfl, z⟩))
  cases r1 with
  | @tup a vs ds q1 q2 =>
    obtain rfl : u = Value.ref a := rv
    obtain ⟨its, r, ⟨o, ho, hc, n, hd⟩, hz⟩ := I1.tuple (SqT.of q1)
    exact fin ds vs its a "tuple" o n rfl (.inr rfl) ho hc hd (by rw [← r.length]; exact hz) r q2 h1
  | @ref i hi =>
    obtain rfl : u = Value.ref (ρ1 i) := rv
    have h2 : Post X.K W RepVs ρ1 B σ H1 ((itemsO B (seqStar B[i]?)).bind (kStar1 mr E)) Q := h1
    have lst : ∀ ds, seqAt B i = some ds → Post X.K W RepVs ρ1 B σ H1 ((itemsO B (some ds)).bind (kStar1 mr E)) Q → PySem.W.StarOf (model X.prog X.w) X.A X.xe (.ref (ρ1 i)) (fun here s₂ => wpAny (model X.prog X.w) X.A (spliced (backTo pos (starEach es X.env))) (fun vs s₃ => AP X pins σ Q (here ++ vs) s₃) X.xe s₂) s1 := fun ds z h3 => by
      obtain ⟨vs, q1, q2⟩ := n1.rep.seq z
      obtain ⟨its, r, ⟨o, n, ho, hc, _, hd⟩, hz⟩ := I1.list q1
      exact fin ds vs its (ρ1 i) "list" o n rfl (.inl rfl) ho hc hd (by rw [← r.length]; exact hz) r q2 h3
    cases z : B[i]? with
    | none => rw [z] at h2; exact h2.elim
    | some ob =>
      rw [z] at h2
      cases ob with
      | lst ds => exact lst ds (by unfold seqAt; rw [z]; rfl) h2
      | rol ds => exact lst ds (by unfold seqAt; rw [z]; rfl) h2
      | dic kvs =>
        obtain ⟨gs, q1, q2⟩ := n1.rep.objs i _ z
        have h3 : Post X.K W RepVs ρ1 B σ H1 ((mr E B).bind (kStar2 (kvs.map (·.1)))) Q := h2
        obtain ⟨zz, lo, vs, rk, hd⟩ := (show ObjOk X.prog X.w H1 s1.heap (ρ1 i) (.dK gs) from I1.hok (ρ1 i) _ q1)
        obtain ⟨ep, hat⟩ := hd.dictAt
        have hl : gs.length = vs.length := Paired.length rk
        unfold PySem.W.StarOf notIterableAtAll
        refine wpAny_bind (wpAny_specialOf hd.typeIs PySem.F.slot_dict_iter.lookup (wpAny_pure ⟨rfl, ?_⟩))
        refine kdl_collect (PySem.W.kdl_dict (knd := mixKind X.prog X.w) (kvs := vs) (ep := ep) lo) (I1.ok.hd cx) hat (by rw [← hl]; exact zz) fun h' tk acc' hkeep hacc => ?_
        have I2 : Inv X pins σ H1 { s1 with heap := h', toks := tk } := I1.kept (t' := tk) hkeep
        have q3 := hr.run pos pins _ σ H1 _ I2 ⟨ρ1, E, B, hE.ext n1.ext, n1.rep, Post.bind h3 fun ρ2 xs C ws H2 n2 r2 h2 => (⟨ρ2, xs, C, n2, r2, h2⟩ : ∃ ρ2 xs C, Nxt X.K ρ1 B H1 ρ2 C H2 ∧ RepVs ρ2 C.length H2 xs ws ∧ Post X.K W RepVs ρ2 C σ H2 (kStar2 (kvs.map (·.1)) xs C) Q)⟩
        have hv : Vals (gs.map fun kv => kV kv.1) acc'.toList := by
          have el : acc'.toList.length = acc'.size := by simp
          refine vals_of_at (by rw [List.length_map, el, hacc.1, hl]) fun j x w h1 h2 => ?_
          obtain ⟨k, y, hky, hi⟩ := hacc.2 j w (by rw [← Array.getElem?_toList]; exact h2)
          have e1 : (gs.map (·.1))[j]? = some k := by
            rw [KV.keys rk, List.getElem?_map, hky] <;> rfl
          have e2 : (gs.map fun kv => kV kv.1)[j]? = some (kV k) := by
            have e3 : (gs.map fun kv => kV kv.1) = (gs.map (·.1)).map kV := by rw [List.map_map] <;> rfl
            rw [e3, List.getElem?_map, e1] <;> rfl
          rw [e2] at h1
          cases h1
          exact keyIs_rel hi
        refine thn q3 fun ws s3 ⟨wv, H2, I3, rw', ρ2, xs, C, n2, r2, h2⟩ => ?_
        exact ⟨(gs.map fun kv => kV kv.1) ++ wv, H2, I3, hv.append rw', h2 ρ2 _ H2 (.refl n2.rep) ((repK_keys (q2.ext n2.ext)).app r2)⟩
      | _ => exact h2.elim
  | _ => exact h1.elim
/-! ### xs[i] op= e -/
theorem get_list : PGet X (rIxL X.K) := by
  intro pins s σ H x y v u Q I rx ry h
  obtain ⟨a, xs, i, z, rfl, rfl, hq, he, q⟩ := h
  cases rx
  obtain ⟨t, rfl⟩ := ry
  obtain ⟨its, r, pl, hz⟩ := I.list hq
  obtain ⟨j, h1, h2, h3, h4, h5⟩ := atI_get he
  obtain ⟨w, ew, rw'⟩ := r.get h2
  have hl := r.length
  have hn := line63
  have fin : EP X pins σ Q w s := ⟨z, H, I, rw', q⟩
  by_cases h0 : 0 ≤ i
  · have hj : i.toNat = j := by
      rw [seqIndex_of h0 h5] at h1
      exact Option.some.inj h1
    exact wpAny_getItem_list pl.isList h0 (by omega) (by rw [hj]; simpa using ew) fin
  · have hj : (i + (its.toArray.size : Int)).toNat = j := by
      rw [seqIndex_neg (by omega) h4] at h1
      rw [List.size_toArray, ← hl]
      exact Option.some.inj h1
    exact wpAny_getItem_list_neg pl.isList (by omega) (by rw [List.size_toArray]; omega) (by omega) (by rw [hj]; simpa using ew) fin
theorem ok_ixL : Ok2 X.K (rIxL X.K) opIxL := fun W ρ A σ H d e v u Q hA rd re h => by
  cases rd with
  | @ref j hj => cases re with
    | int i =>
      have h2 : Post X.K W RepV ρ A σ H (atS A i (seqAt A j)) Q := h
      cases y : seqAt A j with
      | none => rw [y] at h2; exact h2.elim
      | some xs =>
        rw [y] at h2
        have h3 : Post X.K W RepV ρ A σ H (okO A (atD xs i)) Q := h2
        obtain ⟨vs, q1, q2⟩ := hA.seq y
        cases z : atD xs i with
        | none => rw [z] at h3; exact h3.elim
        | some c =>
          rw [z] at h3
          obtain ⟨w, w1, w2⟩ := at_rep q2 z
          exact ⟨ρ j, vs, i, w, rfl, rfl, q1, w1, post_val hA h3 w2⟩
    | _ => exact h.elim
  | _ => cases re <;> exact h.elim
def opAddI : Fn
  | [.int i, .int j], A => .ok (.int (i + j)) A
  | _, _ => .bad
def opSubI : Fn
  | [.int i, .int j], A => .ok (.int (i - j)) A
  | _, _ => .bad
theorem ok_ipadd : OkIp X.K (ipI fun i j => i + j) opAddI := fun W ρ A σ H d e v u Q hA rd re h => by
  cases rd with
  | int i => cases re with
    | int j => exact ⟨i, j, rfl, rfl, post_val hA h (.int _)⟩
    | _ => exact h.elim
  | _ => cases re <;> exact h.elim
theorem ok_ipsub : OkIp X.K (ipI fun i j => i - j) opSubI := fun W ρ A σ H d e v u Q hA rd re h => by
  cases rd with
  | int i => cases re with
    | int j => exact ⟨i, j, rfl, rfl, post_val hA h (.int _)⟩
    | _ => exact h.elim
  | _ => cases re <;> exact h.elim
/-! ### methods of built-in types -/
def kdT : Kd → String
  | .list => "list"
  | .dict => "dict"
  | .str => "str"
theorem kd_ty {K : PySem.W.Frag} {ρ : Nat → Addr} {A : AH} {H : Hp} {t : Kd} {d : D} {v : V} (hA : RepA K ρ H A) (r : RepV ρ A.length H d v) (h : isKd t A d = true) : tyV K (kdT t) v H := by
  cases r with
  | str x => cases t <;> first | rfl | cases h
  | @ref i hi =>
    have h2 : kindO t A[i]? = true := h
    cases z : A[i]? with
    | none => rw [z] at h2; cases t <;> cases h2
    | some o =>
      rw [z] at h2
      cases o with
      | lst ds =>
        cases t with
        | list =>
          obtain ⟨vs, q1, _⟩ := lst_at hA z
          exact .inl ⟨rfl, vs, SqL.of q1⟩
        | _ => cases h2
      | rol ds =>
        cases t with
        | list =>
          obtain ⟨vs, q1, _⟩ := hA.seq (ds := ds) (by unfold seqAt; rw [z]; rfl)
          exact .inl ⟨rfl, vs, q1⟩
        | _ => cases h2
      | dic kvs =>
        cases t with
        | dict =>
          obtain ⟨gs, q, _⟩ := hA.objs i _ z
          exact .inr (.inr (.inl ⟨rfl, .inl ⟨gs, q⟩⟩))
        | _ => cases h2
      | dit kvs =>
        cases t with
        | dict =>
          obtain ⟨gs, q, _⟩ := hA.objs i _ z
          exact .inr (.inr (.inl ⟨rfl, .inr ⟨gs, q⟩⟩))
        | _ => cases h2
      | ins _ _ => cases t <;> cases h2
      | fro _ => cases t <;> cases h2
  | _ => cases t <;> cases h
def OkM (K : PySem.W.Frag) (r : V → List V → Hp → VK → Prop) (F : Fn) : Prop := ∀ W ρ A σ H d ds v vs Q, RepA K ρ H A → RepV ρ A.length H d v → RepVs ρ A.length H ds vs → Post K W RepV ρ A σ H (F (d :: ds) A) Q → r v vs H Q
variable {o : Expr} {name : Str} {apos cpos : Pos} {t : Kd} {id : String} {r : V → List V → Hp → VK → Prop} {F : Fn}
theorem bm_of {σ : Sl} {H : Hp} {Q : VK} (hk : OkM X.K r F) (h : tE X.K W (eBM t F mo mr) σ H Q) : tBM X.K (kdT t) r (tE X.K W mo) (tAr X.K W mr) σ H Q := by
  obtain ⟨ρ, E, A, hE, hA, h⟩ := h
  refine ⟨ρ, E, A, hE, hA, Post.bind h fun ρ1 d B v H1 n1 r1 h1 => ?_⟩
  have h2 : Post X.K W RepV ρ1 B σ H1 (if isKd t B d = true then (mr E B).bind (kM2 F d) else .bad) Q := h1
  by_cases z : isKd t B d = true
  · rw [if_pos z] at h2
    refine ⟨kd_ty n1.rep r1 z, ρ1, E, B, hE.ext n1.ext, n1.rep, Post.bind h2 fun ρ2 xs C us H2 n2 r2 h3 => ?_⟩
    exact hk W ρ2 C σ H2 d xs v us Q n2.rep (r1.ext n2.ext) r2 h3
  · rw [if_neg z] at h2
    exact h2.elim
theorem re_bm (pa : PlainAttrs (kdT t)) (slot : Slot (kdT t) name id) (hty : typeOf (.builtin id) = pure (.type "method_descriptor")) (hm : MtR X id r) (hk : OkM X.K r F) (ho : RE X W o mo) (ha : RA X W (e :: es) mr)
    (hbase : attributeBase o name X.env (eval o X.env) = eval o X.env := by rfl)
    (hfew : ((backTo cpos (starEach (e :: es) X.env)).all (fun x => !x.1) && (backToKw cpos (keywordEach [] X.env)).all (fun x => x.1.isSome)
      && decide ((e :: es).length + ([] : List Keyword).length + (if ([] : List Keyword).isEmpty then 0 else 1) < 30)) = true := by rfl)
    (hline : (apos.endLine == cpos.line) = true := by rfl) (hs : starEach (e :: es) X.env = (false, eval e X.env) :: starEach es X.env := by rfl) (hplain : (backTo cpos (starEach es X.env)).any (·.1) = false := by rfl) :
    RE X W (.Call (.Attribute o name apos) (e :: es) [] cpos) (eBM t F mo mr) :=
  PE.imp (pe_bm pa slot hty hm ho ha hbase hfew hline hs hplain) fun σ H Q h => bm_of hk h
theorem re_bm0 (pa : PlainAttrs (kdT t)) (slot : Slot (kdT t) name id) (hty : typeOf (.builtin id) = pure (.type "method_descriptor")) (hm : MtR X id r) (hk : OkM X.K r F) (ho : RE X W o mo)
    (hbase : attributeBase o name X.env (eval o X.env) = eval o X.env := by rfl) (hline : (apos.endLine == cpos.line) = true := by rfl) : RE X W (.Call (.Attribute o name apos) [] [] cpos) (eBM t F mo aNil) := by
  refine PE.imp (pe_bm0 pa slot hty hm ho hbase hline) fun σ H Q ⟨ρ, E, A, hE, hA, h⟩ => ⟨ρ, E, A, hE, hA, Post.bind h fun ρ1 d B v H1 n1 r1 h1 => ?_⟩
  have h2 : Post X.K W RepV ρ1 B σ H1 (if isKd t B d = true then F [d] B else .bad) Q := h1
  by_cases z : isKd t B d = true
  · rw [if_pos z] at h2
    exact ⟨kd_ty n1.rep r1 z, hk W ρ1 B σ H1 d [] v [] Q n1.rep r1 .nil h2⟩
  · rw [if_neg z] at h2
    exact h2.elim
theorem post_set {K : PySem.W.Frag} {ρ : Nat → Addr} {A : AH} {H : Hp} {σ : Sl} {Q : VK} {i : Nat} {u u' : O} {ho : HO} {d : D} {v : V} (hA : RepA K ρ H A) (h : Post K W RepV ρ A σ H (.ok d (A.set i u')) Q) (z : A[i]? = some u) (m : u.mut = true) (m' : u'.mut = true) (rd : RepV ρ A.length H d v)
    (new : Ext ρ A.length H ρ A.length (upd H (ρ i) ho) → RepO K ρ A.length (upd H (ρ i) ho) (ρ i) u') (nf : ∀ kvs, u ≠ .fro kvs := by intro _ h; cases h) : Q v (upd H (ρ i) ho) := by
  have n := Nxt.set hA z m m' new nf
  exact h ρ v _ n (rd.ext n.ext)
theorem ok_append : OkM X.K rAppend mAppend := fun W ρ A σ H d ds v vs Q hA rd rs h => by
  cases rd with
  | @ref i hi => cases rs with
    | nil => exact h.elim
    | cons r1 r2 => cases r2 with
      | cons _ _ => exact h.elim
      | @nil =>
        rename_i x y
        have h2 : Post X.K W RepV ρ A σ H (appO i x A A[i]?) Q := h
        cases z : A[i]? with
        | none => rw [z] at h2; exact h2.elim
        | some o =>
          rw [z] at h2
          cases o with
          | lst xs =>
            have h3 : Post X.K W RepV ρ A σ H (if xs.length < line then .ok .non (A.set i (.lst (xs ++ [x]))) else .bad) Q := h2
            by_cases q : xs.length < line
            · rw [if_pos q] at h3
              obtain ⟨us, q1, q2⟩ := lst_at hA z
              exact ⟨ρ i, us, y, rfl, rfl, q1, by rw [← q2.len, ← line_eq]; exact q, post_set hA h3 z rfl rfl .non fun ex => ⟨_, upd_same, (q2.app (.cons r1 .nil)).ext ex⟩⟩
            · rw [if_neg q] at h3; exact h3.elim
          | _ => exact h2.elim
  | _ => cases rs with
    | nil => exact h.elim
    | cons r1 r2 => cases r2 <;> exact h.elim
/-! ### isinstance of built-in classes -/
def tyN : Ty → String
  | .int => "int"
  | .bool => "bool"
  | .tuple => "tuple"
  | .list => "list"
  | .str => "str"
theorem re_isi {T : Str} {p p2 : Pos} (t : Ty) (hg : Gl X "isinstance") (hm : X.mg "isinstance" = none) (hg2 : Gl X T) (hm2 : X.mg T = none) (hT : bootBuiltins T = some (.type (tyN t))) (he : RE X W e me) (hn : T ≠ "__name__" := by decide) (hdb : (T == ("__debug__" : Str)) = false := by decide)
    (hs : starEach (e :: [.Name T p2]) X.env = (false, eval e X.env) :: starEach [.Name T p2] X.env := by rfl) (hs2 : starEach [.Name T p2] X.env = (false, eval (.Name T p2) X.env) :: starEach [] X.env := by rfl) (hpl : (backTo pos (starEach [.Name T p2] X.env)).any (·.1) = false := by rfl) :
    RE X W (.Call (.Name "isinstance" p) [e, .Name T p2] [] pos) (eF (biIsi t) (aCons me aNil)) := by
  refine PE.imp (pe_callB (call_isi) hg hm (by decide +kernel) (pa_cons he (pa_cons (pe_bltn (v := .ty (tyN t)) hg2 hm2 hT rfl hn hdb) pa_nil hs2) hs) (by decide) (by decide) hs hpl) fun σ H Q ⟨ρ, E, A, hE, hA, h⟩ => ?_
  rw [eF1] at h
  refine ⟨ρ, E, A, hE, hA, Post.bind h fun ρ1 d B v H1 n1 r1 h1 => ?_⟩
  have kt : ∀ (a : String) (b : Bool), kitB a (tyN t) = some b → PySem.W.kitOne X.K (.type a) (.type (tyN t)) = some b := fun a b q => kit_ty q
  have go : ∀ (a : String) (b : Bool), TyX X.K H1 v (.type a) → kitB a (tyN t) = some b → Q (.bl b) H1 → rIsi X.K [v, .ty (tyN t)] H1 Q := fun a b ty q hq => ⟨v, .ty (tyN t), .type a, .type (tyN t), b, rfl, .ty _, ty, kt a b q, hq⟩
  show rIsi X.K [v, .ty (tyN t)] H1 Q
  cases r1 with
  | non => exact go "NoneType" false (.base .non) (by cases t <;> decide +kernel) (h1 ρ1 _ H1 (.refl n1.rep) (.bl _))
  | bl b => exact go "bool" t.ofB (.base (.bl b)) (by cases t <;> decide +kernel) (h1 ρ1 _ H1 (.refl n1.rep) (.bl _))
  | int i => exact go "int" t.ofI (.base (.int i)) (by cases t <;> decide +kernel) (h1 ρ1 _ H1 (.refl n1.rep) (.bl _))
  | str z => exact go "str" t.ofS (.base (.str z)) (by cases t <;> decide +kernel) (h1 ρ1 _ H1 (.refl n1.rep) (.bl _))
  | tup q1 q2 => exact go "tuple" t.ofT (.base (.tup q1)) (by cases t <;> decide +kernel) (h1 ρ1 _ H1 (.refl n1.rep) (.bl _))
  | @ref i hi =>
    have h2 : Post X.K W RepV ρ1 B σ H1 (tyO t B B[i]?) Q := h1
    cases z : B[i]? with
    | none => rw [z] at h2; exact h2.elim
    | some o =>
      rw [z] at h2
      cases o with
      | lst ds =>
        obtain ⟨vs, q1, q2⟩ := lst_at n1.rep z
        exact go "list" t.ofL (.base (.lst q1)) (by cases t <;> decide +kernel) (h2 ρ1 _ H1 (.refl n1.rep) (.bl _))
      | _ => exact h2.elim
/-! ### three names at once -/
theorem rs_par3 (cx : Ctx X W k) (i j l : Nat) {x y z : Str} {a b c : Expr} {px py pz pt : Pos} {kt k2 pt2} (ha : RA X W [a, b, c] mr) (hi : X.N[i]? = some x := by rfl) (hj : X.N[j]? = some y := by rfl) (hl : X.N[l]? = some z := by rfl) (hij : i ≠ j := by decide) (hil : i ≠ l := by decide) (hjl : j ≠ l := by decide)
    (hx : X.env.scope.names.lookup x = some .local := by rfl) (hy : X.env.scope.names.lookup y = some .local := by rfl) (hz : X.env.scope.names.lookup z = some .local := by rfl)
    (hw : swappedStores [.Tuple [.Name x px, .Name y py, .Name z pz] kt pt] (.Tuple [a, b, c] k2 pt2) X.env = pure (some [x, y, z]) := by rfl)
    (hs : swapsWithSole [.Tuple [.Name x px, .Name y py, .Name z pz] kt pt] (.Tuple [a, b, c] k2 pt2) pos.line X.env = pure false := by rfl) :
    RS X W (.Assign [.Tuple [.Name x px, .Name y py, .Name z pz] kt pt] (.Tuple [a, b, c] k2 pt2) pos) (sPar3 i j l mr) := by
  refine PS.imp (ps_par3 cx.calm cx.nd hi hj hl hij hil hjl hx hy hz ha hw hs) fun Dn σ H ⟨ρ, E, A, hE, hA, h⟩ => ⟨ρ, E, A, hE, hA, PostS.then hE h fun ρ1 ds B vs H1 n1 r1 h1 => ?_⟩
  cases r1 with
  | nil => exact h1.elim
  | cons r1 r2 => cases r2 with
    | nil => exact h1.elim
    | cons r2 r3 => cases r3 with
      | nil => exact h1.elim
      | cons r3 r4 => cases r4 with
        | nil => exact ⟨_, _, _, rfl, h1 ρ1 _ H1 (.refl n1.rep) ((((hE.ext n1.ext).set i r1).set j r2).set l r3)⟩
        | cons _ _ => exact h1.elim
end
end DL
set_option Elab.async false
set_option linter.all false
set_option maxRecDepth 100000
set_option maxHeartbeats 4000000
/-! New instances; enumerate (own work). -/
namespace DL
open PySem PySem.Spec PyProof.Rows L2
section
variable {X : Cx} {W : WX} {k : Nat} {f : Addr} {ps : List Str} {ds : List Value} {n : Nat} {F : Fn} {x : Str} {p pos : Pos} {e : Expr} {es : List Expr} {mr : Ax} {dd : List D} {dv : List V}
/-- a new instance, its __init__ behind it -/
theorem run_new {C : Nat} {fd : FuncData} (M : Mk X.K (clsA X.K C) f) (G : FnOk X.prog X.w X.K X.mg X.base (L2.CX X.prog X.w) k f fd ps (spD X.K n F)) (hb : Binds X.K fd ps ds) (hr : Room (k + 1) X.A) (tk : Takes X W) (hn : Asks n F) (hd : Vals dv ds) (hD : ∀ ρ n H, RepVs ρ n H dd dv)
    {pins : List (Addr × Obj)} {σ : Sl} {H : Hp} {s : Shared} {Q : VK} {us : List Value} {vs : List V} {ρ : Nat → Addr} {A : AH} {xs : List D} (I : Inv X pins σ H s) (r : Vals vs us) (hA : RepA X.K ρ H A) (hv : RepVs ρ A.length H xs vs)
    (h : Post X.K W RepV ρ A σ H (mkIns C (fun ys B => F (ys ++ dd) B) xs A) Q) : wpAny (model X.prog X.w) X.A (call (.ref (clsA X.K C)) us) (EP X pins σ Q) X.xe s := by
  have hfree1 : H (s.heap.objs.size + 1) = none := I.hok.fresh (Nat.le_succ _)
  have hfree0 : H s.heap.objs.size = none := I.hok.fresh (Nat.le_refl _)
  have I2 := Inv.made (C := clsA X.K C) I
  have n0 : Nxt X.K ρ A H ρ A (upd H s.heap.objs.size (.own (s.heap.objs.size + 1))) := Nxt.same hA (same_upd hfree0)
  have hfree2 : (upd H s.heap.objs.size (.own (s.heap.objs.size + 1))) (s.heap.objs.size + 1) = none := by rw [upd_ne (Nat.succ_ne_self _)]; exact hfree1
  obtain ⟨ρ1, e1, n1⟩ := Nxt.alloc (o := .ins C []) (ho := .ins (clsA X.K C) s.heap.objs.size []) n0.rep hfree2 rfl fun ρ' _ => ⟨_, [], upd_same, .nil⟩
  have n01 := n0.trans n1
  have lA : (A ++ [O.ins C []]).length = A.length + 1 := by rw [List.length_append]; rfl
  have r0 : RepV ρ1 (A ++ [O.ins C []]).length (upd (upd H s.heap.objs.size (.own (s.heap.objs.size + 1))) (s.heap.objs.size + 1) (.ins (clsA X.K C) s.heap.objs.size [])) (.ref A.length) (.ref (s.heap.objs.size + 1)) := by
    rw [← e1]
    exact .ref (by rw [lA]; exact Nat.lt_succ_self _)
  have r1 := RepVs.cons r0 (hv.ext n01.ext)
  have h1 : Post X.K W RepV ρ1 (A ++ [.ins C []]) σ _ ((F (.ref A.length :: xs ++ dd) (A ++ [.ins C []])).bind (kMk A.length)) Q := Post.later h n01
  have r2 : Vals (V.ref (s.heap.objs.size + 1) :: vs ++ dv) (Value.ref (s.heap.objs.size + 1) :: us ++ ds) := Vals.append (Paired.cons rfl r : Vals (V.ref (s.heap.objs.size + 1) :: vs) (Value.ref (s.heap.objs.size + 1) :: us)) hd
  have bad : F (.ref A.length :: xs ++ dd) (A ++ [.ins C []]) ≠ .bad := fun z => by
    rw [z] at h1
    exact h1
  have hl : (V.ref (s.heap.objs.size + 1) :: vs ++ dv).length = n := lenD hn (hD _ _ _) r1 bad
  have hq : spD X.K n F (V.ref (s.heap.objs.size + 1) :: vs ++ dv) (upd (upd H s.heap.objs.size (.own (s.heap.objs.size + 1))) (s.heap.objs.size + 1) (.ins (clsA X.K C) s.heap.objs.size [])) (fun v H2 => v = .non ∧ Q (.ref (s.heap.objs.size + 1)) H2) (WE W σ) := by
    refine ⟨hl, ρ1, .ref A.length :: xs ++ dd, _, r1.app (hD _ _ _), n1.rep, ?_⟩
    cases z : F (.ref A.length :: xs ++ dd) (A ++ [.ins C []]) with
    | ok d B =>
      rw [z] at h1
      intro ρ2 v H2 n2 rv
      cases rv with
      | non =>
        refine ⟨rfl, ?_⟩
        have h3 : Post X.K W RepV ρ1 (A ++ [.ins C []]) σ _ (.ok (.ref A.length) B) Q := h1
        have e2 : ρ2 A.length = s.heap.objs.size + 1 := (n2.ext.same _ (by rw [lA]; exact Nat.lt_succ_self _)).trans e1
        have q := h3 ρ2 (.ref (ρ2 A.length)) H2 n2 (.ref (Nat.lt_of_lt_of_le (by rw [lA]; exact Nat.lt_succ_self _) n2.ext.le))
        rw [e2] at q
        exact q
      | _ => exact (h1 : False).elim
    | exc y B =>
      rw [z] at h1
      exact h1
    | bad => exact absurd z bad
  have hl2 : (Value.ref (s.heap.objs.size + 1) :: us ++ ds).length = ps.length := by rw [← r2.length]; exact G.len _ _ _ _ hq
  refine wpAny_call (make_map (f := f) I.kIn M.makes M.init (beq_iff_eq.mp M.fn) (codeAny_mono (G.run _ X.stack _ _ ⟨Value.ref (s.heap.objs.size + 1) :: us, []⟩ (Value.ref (s.heap.objs.size + 1) :: us ++ ds) _ _ (WE W σ) (hr.make (clsA X.K C) us [])
    (I2.env0.make (clsA X.K C) us []) (hb _ (Value.ref (s.heap.objs.size + 1) :: us) I2.kIn hl2) r2 hq) fun rr s' hq' => ?_))
  cases rr with
  | error ev => exact passAt tk σ pins _ _ ev s' I2 hq'
  | ok fl =>
    cases fl with
    | ret u =>
      obtain ⟨v, H', I3, rv, ev, q3⟩ := I2.after hq'
      subst ev
      exact ⟨rv, ⟨V.ref (s.heap.objs.size + 1), H', I3, rfl, q3⟩⟩
    | _ => exact False.elim hq'
theorem re_make {C : Nat} (M : Mk X.K (clsA X.K C) f) (G : DefOk X.prog X.w X.K X.mg X.base k f ps ds n F) (c : Ctx X W (k + 1)) (hn : Asks n F) (hg : Gl X x) (hm : X.mg x = some (.ref (clsA X.K C))) (hd : Vals dv ds) (hD : ∀ ρ n H, RepVs ρ n H dd dv) (ha : RA X W (e :: es) mr)
    (hdb : (x == ("__debug__" : Str)) = false := by decide) (he : starEach (e :: es) X.env = (false, eval e X.env) :: starEach es X.env := by rfl) (hpl : (backTo pos (starEach es X.env)).any (·.1) = false := by rfl) :
    RE X W (.Call (.Name x p) (e :: es) [] pos) (eF (mkIns C (fun ys B => F (ys ++ dd) B)) mr) := by
  obtain ⟨fd, G1, hb⟩ := G.ex
  refine ⟨fun pins s σ H Q I ⟨ρ, E, A, hE, hA, h⟩ => ?_⟩
  refine wpAny_Call_Name_kw (ld_glob I hg hm ?_ hdb)
  have q := ha.run pos pins s σ H _ I ⟨ρ, E, A, hE, hA, Post.bind h fun ρ1 xs B vs H1 n1 r1 h1 => (⟨ρ1, xs, B, n1.rep, r1, h1⟩ : ∃ ρ1 xs B, RepA X.K ρ1 H1 B ∧ RepVs ρ1 B.length H1 xs vs ∧ Post X.K W RepV ρ1 B σ H1 (mkIns C (fun ys B => F (ys ++ dd) B) xs B) Q)⟩
  refine PySem.W.callWith_K (h₀ := X.base) I.ok.mod.kin M.kp (thn q fun us s1 ⟨vs, H1, I1, rv, ρ1, xs, B, hB, r1, h1⟩ => ⟨I1.kIn, ?_⟩) he hpl
  exact run_new M G1 hb c.room c.tk hn hd hD I1 rv hB r1 h1
theorem re_make0 {C : Nat} (M : Mk X.K (clsA X.K C) f) (G : DefOk X.prog X.w X.K X.mg X.base k f ps ds n F) (c : Ctx X W (k + 1)) (hn : Asks n F) (hg : Gl X x) (hm : X.mg x = some (.ref (clsA X.K C))) (hd : Vals dv ds) (hD : ∀ ρ n H, RepVs ρ n H dd dv)
    (hdb : (x == ("__debug__" : Str)) = false := by decide) : RE X W (.Call (.Name x p) [] [] pos) (eF (mkIns C (fun ys B => F (ys ++ dd) B)) aNil) := by
  obtain ⟨fd, G1, hb⟩ := G.ex
  refine ⟨fun pins s σ H Q I ⟨ρ, E, A, hE, hA, h⟩ => ?_⟩
  refine wpAny_Call_Name_kw (ld_glob I hg hm ?_ hdb)
  exact PySem.W.callWith_K0 I.kIn M.kp (run_new (us := []) (xs := []) M G1 hb c.room c.tk hn hd hD I .nil hA .nil h)
end

/-! ### enumerate -/
theorem meets_enumT {v : Value} {o : Obj} {H : Heap → Prop} (B : Begins v o H) :
    Meets (Builtin.«enumerate.__new__» ⟨[.type "enumerate", v], []⟩) (fun _ R s => H s.heap ∧
      R (.ok (.ret (.ref (s.heap.push o).objs.size))) { s with heap := (s.heap.push o).push { cls := .type "enumerate", data := .fields #[.none, .bool false, .ref s.heap.objs.size, rawInt 0, .none, .none] } }) :=
  .of_wp fun prog w A R s h => by
    obtain ⟨hp, g, d, tk, os⟩ := s
    obtain ⟨h1, h⟩ := h
    have hsub := sub_enumerate
    have q1 : ∀ {A' : Around} {E : Value → Shared → Prop} {Q : Value → Shared → Prop}, Q (.ref hp.objs.size) ⟨hp.push o, g, d, tk, os⟩ → wpAny (model prog w) A' (pyIter v) Q E ⟨hp, g, d, tk, os⟩ :=
      fun q => B.iter prog w _ _ ⟨hp, g, d, tk, os⟩ _ h1 q
    wp_walk using q1
    refine wpAny_stack_any fun st => wpAny_pure ?_
    split
    · rename_i c _ _ _ _ _
      cases (c == Value.type "enumerate") <;> (wp_walk using q1; exact ⟨_, rfl, h⟩)
    · wp_walk using q1
      exact ⟨_, rfl, h⟩
theorem call_enumT {prog : Program} {w : World} {A : Around} {E : Value → Shared → Prop} {s : Shared} {v : Value} {o : Obj} {H : Heap → Prop} {Q : Value → Shared → Prop} (B : Begins v o H) (h1 : H s.heap)
    (h : ∀ h', IsEnum h' (s.heap.objs.size + 1) s.heap.objs.size 0 .none → h'.get? s.heap.objs.size = some o → (∀ b ob, s.heap.get? b = some ob → h'.get? b = some ob) → Q (.ref (s.heap.objs.size + 1)) { s with heap := h' }) :
    wpAny (model prog w) A (call (.type "enumerate") [v]) Q E s := by
  refine callType_new F.called_enumerate (by decide) (F.typeCall_enumerate_1 _) (F.newCall_enumerate_1 _) (fun obj => F.args_object_init_2 obj _) F.entry_enumerate_new (meets_enumT B) ⟨h1, ?_⟩
  have hz : (s.heap.push o).objs.size = s.heap.objs.size + 1 := Heap.size_push ..
  show _ ∧ _
  rw [hz]
  have he : IsEnum ((s.heap.push o).push { cls := .type "enumerate", data := .fields #[.none, .bool false, .ref s.heap.objs.size, rawInt 0, .none, .none] }) (s.heap.objs.size + 1) s.heap.objs.size 0 .none := by
    have z := Heap.get?_push_size (s.heap.push o) (o := { cls := .type "enumerate", data := .fields #[.none, .bool false, .ref s.heap.objs.size, rawInt 0, .none, .none] }) rfl
    rw [hz] at z
    exact z
  exact ⟨⟨_, he, rfl⟩, h _ he (Heap.get?_push_of_some _ (Heap.get?_push_size _ B.free)) fun b ob q => Heap.get?_push_of_some _ (Heap.get?_push_of_some _ q)⟩
/-- the tuple at a, each item in a new pair -/
def ItET (K : PySem.W.Frag) (a : Addr) : It :=
  ⟨fun i H => ∃ (xs : List V) (x : V), SqT K H a xs ∧ xs[i]? = some x, fun i H v H' => ∃ T x, v = .ref T ∧ H T = none ∧ H' = upd H T (.tup [.int (i : Nat), x]) ∧ ∀ xs, SqT K H a xs → xs[i]? = some x, fun i H => ∃ xs : List V, SqT K H a xs ∧ xs.length ≤ i⟩
theorem turn_enumT {P : Program} {w : World} {K : PySem.W.Frag} {elts : List Expr} {kk : Nat} {tpos : Pos} (a e it : Addr) (hea : e ≠ a) (hia : a ≠ it) :
    Turn P w K (.Tuple elts kk tpos) (ItET K a) [e, it] e (fun i h => (∃ old, IsEnum h e it ((i : Nat) : Int) old) ∧ h.IsTupleIter it a i ∧ e ≠ it) where
  mem := List.mem_cons_self
  obj := fun i h st b hb => by
    obtain ⟨⟨old, he⟩, ⟨o, ho, hc, hd⟩, _⟩ := st
    rcases List.mem_cons.mp hb with z | z
    · rw [z]; exact ⟨_, he, fun v q => nomatch q⟩
    · rw [List.mem_singleton.mp z]; exact ⟨o, ho, fun v q => by rw [hd] at q; cases q⟩
  keep := fun i h h' st kp => let ⟨⟨old, he⟩, hi, hne⟩ := st; ⟨⟨old, kp e (by simp) _ he⟩, hi.at fun o q => kp it (by simp) o q, hne⟩
  item := by
    intro X hP hw hK hc i pins s σ H E I hf st hg
    subst hP hw hK
    obtain ⟨⟨old, he⟩, hit, hne⟩ := st
    obtain ⟨xs, x, hq, hx⟩ := hg
    obtain ⟨its, rv, pt, hz⟩ := I.tuple hq
    obtain ⟨u, hu, ru⟩ := rv.get hx
    have hel : e < s.heap.objs.size := Heap.lt_size he
    have hil : it < s.heap.objs.size := by obtain ⟨_, q, _⟩ := hit; exact Heap.lt_size q
    have Dr := Draws.tuple (prog := X.prog) (w := X.w) (A := X.A.in1) (I.ok.hd hc) it a hia its.toArray
    have hlt : i < its.toArray.size := by
      have := (List.getElem?_eq_some_iff.mp hu).1
      simpa using this
    refine wpAny_pyNext_enum_itemD (i := i) Dr he ⟨hit, pt⟩ hlt hne (by simp [hne, hea]) fun y h' tk hy ho hst hT hsz hkp => ?_
    obtain ⟨hit', pt'⟩ := hst
    have ey : y = u := by
      have q : its.toArray[i]? = some u := by simpa using hu
      rw [q] at hy
      exact (Option.some.inj hy).symm
    subst ey
    refine ⟨_, rfl, wpAny_letOwnedTupleGo_enum (s := { s with heap := h', toks := tk + 1 }) ho fun h'' he' sb => ?_⟩
    have hT2 : h''.get? s.heap.objs.size = some { cls := .type "tuple", data := .seq #[.int i tk, y] } := (sb.2 _ (Nat.ne_of_gt hel)).trans hT
    have new : ObjOk X.prog X.w (upd H s.heap.objs.size (.tup [.int (i : Nat), x])) h'' s.heap.objs.size (.tup [.int (i : Nat), x]) :=
      ⟨by show 2 ≤ sizeLine; decide, [.int i tk, y], .cons ⟨_, rfl⟩ (.cons ru .nil), ⟨_, hT2, rfl, _, rfl⟩⟩
    have I1 : Inv X pins σ (upd H s.heap.objs.size (.tup [.int (i : Nat), x])) { s with heap := h'', toks := tk + 1 } :=
      I.turnedNew (ch := [e, it]) (fun b ob hb q => (sb.2 b (fun z => hb (by simp [z]))).trans (hkp b ob (fun z => hb (by simp [z])) (fun z => hb (by simp [z])) q)) hf (Nat.le_refl _) new
    refine ⟨.ref s.heap.objs.size, _, I1, rfl, ⟨_, x, rfl, I.hok.fresh (Nat.le_refl _), rfl, fun ys hy2 => by rw [I.tuple_inj hy2 hq]; exact hx⟩, ⟨⟨y, ?_⟩, hit'.at fun o q => (sb.2 it (Ne.symm hne)).trans q, hne⟩, fun b hb => ?_⟩
    · have e1 : ((i + 1 : Nat) : Int) = (i : Int) + 1 := by omega
      rw [e1]
      exact he'
    · have hb' : b < s.heap.objs.size := by
        rcases List.mem_cons.mp hb with z | z
        · rw [z]; exact hel
        · rw [List.mem_singleton.mp z]; exact hil
      rw [upd_ne (Nat.ne_of_lt hb')]
      exact (hf b hb).1
  done := by
    intro X hP hw hK hc i pins s σ H E I hf st hg
    subst hP hw hK
    obtain ⟨⟨old, he⟩, hit, hne⟩ := st
    obtain ⟨xs, hq, hx⟩ := hg
    obtain ⟨its, rv, pt, hz⟩ := I.tuple hq
    obtain ⟨f0, f1, f2, f3, f4, f5⟩ := hf it (by simp)
    have hl := rv.length
    have hT : s.TypeIs (.ref e) "enumerate" := ⟨_, he, rfl⟩
    unfold pyNext
    refine wpAny_bind (wpAny_attempt (wpAny_callSpecial?_slot (name := Str.ofString "__next__") hT F.slot_enumerate_next (wpAny_call_entry F.slot_enumerate_next hT F.entry_enumerate_next ?_ (F.args_enumerate_next_1 _))))
    show wpAny _ _ (field (.ref e) 2 >>= _) _ _ _
    refine wpAny_bind (wpAny_field he rfl (x := .ref it) rfl ?_)
    refine wpAny_bind (wpAny_nextOf_tuple_end (I.ok.hd hc) hit pt (by simp; omega) fun h' y he' hx' => ?_)
    obtain ⟨o, ho, hc2⟩ := hx'
    refine wpAny_bind (wpAny_isInstance (T := "StopIteration") (b := true) ⟨o, ho, hc2⟩ isSubtype_stop ?_)
    exact wpAny_pure ⟨rfl, I.turned (t' := s.toks) (fun b o hb q => he' b o hb q) f0 f1 f3 f4 f5⟩
  self := fun A i s Q E st h => let ⟨⟨_, he⟩, _⟩ := st; wpAny_pyIter_enum he h

theorem enumD_get {k i : Nat} : ∀ {ds : List D}, (enumD k ds)[i]? = (ds[i]?).map fun d => .tup [.int ((k + i : Nat) : Int), d] := by
  intro ds
  induction ds generalizing k i with
  | nil => unfold enumD; rfl
  | cons d ds ih =>
    unfold enumD
    cases i with
    | zero => rfl
    | succ i =>
      rw [List.getElem?_cons_succ, List.getElem?_cons_succ, ih, Nat.add_right_comm, Nat.add_assoc]
theorem same_new {H : Hp} {T : Addr} {ho : HO} (h : H T = none) : Same H (upd H T ho) := same_upd h
theorem it_enumT {K : PySem.W.Frag} {ρ : Nat → Addr} {A : AH} {H : Hp} {a : Addr} {ds : List D} {vs : List V} (ht : H a = some (.tup vs)) (r : RepVs ρ A.length H ds vs) : ItOk K ρ A H (.seq (enumD 0 ds)) (ItET K a) := fun ρ1 B H1 n i => by
  have t1 : SqT K H1 a vs := SqT.of (n.ext.tups a vs ht)
  have r1 := n.reps r
  show match stepO (enumD 0 ds)[i]? with | .item d => _ | .stop => _ | .bad => _
  rw [enumD_get, Nat.zero_add]
  cases z : ds[i]? with
  | none => exact ⟨vs, t1, by rw [← r1.len]; exact List.getElem?_eq_none_iff.mp z⟩
  | some d =>
    obtain ⟨v, h1, h2⟩ := r1.get z
    exact ⟨⟨vs, v, t1, h1⟩, fun x H2 y => by
      obtain ⟨T, u, e1, e2, e3, e4⟩ := y
      subst e1 e3
      have := e4 vs t1
      rw [h1] at this
      cases this
      have sm := same_new (ho := HO.tup [.int (i : Nat), v]) e2
      exact ⟨sm, .tup upd_same (.cons (.int _) (.cons (h2.ext (Nxt.same n.rep sm).ext) .nil))⟩⟩
theorem it_enum {K : PySem.W.Frag} {ρ : Nat → Addr} {A : AH} {H : Hp} {i : Nat} (hi : i < A.length) : ItOk K ρ A H (.enum i) (Ite K (ρ i)) := fun ρ1 B H1 n j => by
  show match (match seqAt B i with | some ds => stepE j ds[j]? | none => Step.bad) with | .item d => _ | .stop => _ | .bad => _
  cases z : seqAt B i with
  | none => trivial
  | some ds =>
    obtain ⟨vs, h1, h2⟩ := n.rep.seq z
    rw [n.ext.same i hi] at h1
    show match stepE j ds[j]? with | .item d => _ | .stop => _ | .bad => _
    cases y : ds[j]? with
    | none => exact ⟨vs, h1, by rw [← h2.len]; exact List.getElem?_eq_none_iff.mp y⟩
    | some d =>
      obtain ⟨v, q1, q2⟩ := h2.get y
      exact ⟨⟨vs, v, h1, q1⟩, fun x H2 q => by
        obtain ⟨T, u, e1, e2, e3, e4⟩ := q
        subst e1 e3
        have := e4 vs h1
        rw [q1] at this
        cases this
        have sm := same_new (ho := HO.tup [.int (j : Nat), v]) e2
        exact ⟨sm, .tup upd_same (.cons (.int _) (.cons (q2.ext (Nxt.same n.rep sm).ext) .nil))⟩⟩
section
variable {X : Cx} {W : WX} {k : Nat} {p pos tpos : Pos} {e o : Expr} {mr : Ax} {elts : List Expr} {kk : Nat}
/-- enumerate of a list or a tuple -/
theorem pi_enumB {ta : TA} (hg : Gl X "enumerate") (hm : X.mg "enumerate" = none) (ha : PA X [e] ta) (hs : starEach [e] X.env = [(false, eval e X.env)] := by rfl) :
    PI X (.Tuple elts kk tpos) (.Call (.Name "enumerate" p) [e] [] pos) (fun σ H R => ta σ H fun vs H1 => ∃ a, vs = [.ref a] ∧ ((∃ xs, SqL X.K H1 a xs ∧ R (Ite X.K a) H1) ∨ (∃ xs, SqT X.K H1 a xs ∧ R (ItET X.K a) H1))) := by
  refine ⟨fun pins s σ H R I h => ?_⟩
  refine Call_ (ld_blt I hg hm boot_enumerate (PyProof.Rows.callWith_type1 (thn (ha.run pos pins s σ H _ I h) fun us s1 ⟨vs, H1, I1, r1, q1⟩ => ?_) hs rfl))
  obtain ⟨a, ex, q⟩ := q1
  subst ex
  cases r1 with
  | cons r rr =>
    cases rr
    cases r
    have new : ∀ b ∈ [s1.heap.objs.size + 1, s1.heap.objs.size], FpOk X pins H1 b := fun b hb => by
      have e' : b = s1.heap.objs.size + 1 ∨ b = s1.heap.objs.size := by simpa using hb
      have hle : s1.heap.objs.size ≤ b := by
        rcases e' with z | z
        · rw [z]; exact Nat.le_add_right _ _
        · rw [z]; exact Nat.le_refl _
      exact I1.fpOk hle (I1.hok.fresh hle)
    rcases q with ⟨xs, hq, q⟩ | ⟨xs, hq, q⟩
    · obtain ⟨its, rv, p', hz⟩ := I1.list hq
      refine call_enumerate_list p'.isList fun h' he hit hsz hk => wpAny_pyIter_enum he ?_
      have I2 : Inv X pins σ H1 { s1 with heap := h' } := I1.kept (t' := s1.toks) hk
      exact ⟨s1.heap.objs.size + 1, [s1.heap.objs.size + 1, s1.heap.objs.size], _, _, H1, rfl, I2, turn_enum a (s1.heap.objs.size + 1) s1.heap.objs.size, ⟨⟨.none, he⟩, hit, Nat.succ_ne_self _⟩, new, q⟩
    · obtain ⟨its, rv, p', hz⟩ := I1.tuple hq
      have pt : s1.heap.IsTuple a its.toArray := p'
      have hal : a < s1.heap.objs.size := by obtain ⟨o, ho, _⟩ := pt; exact Heap.lt_size ho
      refine call_enumT (begins_tuple a its.toArray) pt fun h' he hit hk => wpAny_pyIter_enum he ?_
      have I2 : Inv X pins σ H1 { s1 with heap := h' } := I1.kept (t' := s1.toks) hk
      exact ⟨s1.heap.objs.size + 1, [s1.heap.objs.size + 1, s1.heap.objs.size], _, _, H1, rfl, I2, turn_enumT a (s1.heap.objs.size + 1) s1.heap.objs.size (Nat.ne_of_gt (Nat.lt_succ_of_lt hal)) (Nat.ne_of_lt hal), ⟨⟨.none, he⟩, ⟨_, hit, rfl, rfl⟩, Nat.succ_ne_self _⟩, new, q⟩
theorem ri_enum (hg : Gl X "enumerate") (hm : X.mg "enumerate" = none) (ha : RA X W [e] mr) (hs : starEach [e] X.env = [(false, eval e X.env)] := by rfl) : RI X W (.Tuple elts kk tpos) (.Call (.Name "enumerate" p) [e] [] pos) (iEnum mr) := by
  refine PI.imp (pi_enumB hg hm ha hs) fun σ H R ⟨ρ, E, A, hE, hA, h⟩ => ⟨ρ, E, A, hE, hA, PostI.bind h fun ρ1 ds B vs H1 n1 r1 h1 => ?_⟩
  cases r1 with
  | nil => exact h1.elim
  | cons r1 r2 => cases r2 with
    | cons _ _ => cases r1 <;> exact h1.elim
    | nil => cases r1 with
      | @tup a vs ds q1 q2 => exact ⟨a, rfl, .inr ⟨vs, SqT.of q1, h1 ρ1 _ H1 (.refl n1.rep) (it_enumT q1 q2)⟩⟩
      | @ref i hi =>
        have h2 : PostI X.K W ρ1 B σ H1 (okI (.enum i) B (seqAt B i)) R := h1
        cases z : seqAt B i with
        | none => rw [z] at h2; exact h2.elim
        | some ds =>
          rw [z] at h2
          obtain ⟨vs, q1, q2⟩ := n1.rep.seq z
          exact ⟨ρ1 i, rfl, .inl ⟨vs, q1, h2 ρ1 _ H1 (.refl n1.rep) (it_enum hi)⟩⟩
      | _ => exact h1.elim
end
/-! ### pop -/
theorem last_rep {ρ : Nat → Addr} {n : Nat} {H : Hp} {ds : List D} {vs : List V} {d : D} (r : RepVs ρ n H ds vs) (h : ds.getLast? = some d) : ∃ v, vs[vs.length - 1]? = some v ∧ RepV ρ n H d v := by
  rw [List.getLast?_eq_getElem?] at h
  rw [← r.len]
  exact r.get h
theorem dropLast_rep {ρ : Nat → Addr} {n : Nat} {H : Hp} {ds : List D} {vs : List V} (r : RepVs ρ n H ds vs) : RepVs ρ n H ds.dropLast vs.dropLast := by
  rw [List.dropLast_eq_take, List.dropLast_eq_take, r.len]
  exact r.take _
theorem ok_pop {X : Cx} : OkM X.K rPop mPop := fun W ρ A σ H d ds v vs Q hA rd rs h => by
  cases rs with
  | cons r1 r2 => cases rd <;> exact h.elim
  | nil =>
    cases rd with
    | @ref i hi =>
      have h2 : Post X.K W RepV ρ A σ H (popO i A A[i]?) Q := h
      cases z : A[i]? with
      | none => rw [z] at h2; exact h2.elim
      | some o =>
        rw [z] at h2
        cases o with
        | lst xs =>
          have h3 : Post X.K W RepV ρ A σ H (match xs.getLast? with | some d => .ok d (A.set i (.lst xs.dropLast)) | none => .bad) Q := h2
          cases y : xs.getLast? with
          | none => rw [y] at h3; exact h3.elim
          | some d =>
            rw [y] at h3
            obtain ⟨us, q1, q2⟩ := lst_at hA z
            obtain ⟨w, w1, w2⟩ := last_rep q2 y
            exact ⟨ρ i, us, w, rfl, rfl, q1, w1, post_set hA h3 z rfl rfl w2 fun ex => ⟨_, upd_same, (dropLast_rep q2).ext ex⟩⟩
        | _ => exact h2.elim
    | _ => exact h.elim
end DL
set_option Elab.async false
set_option linter.all false
set_option maxRecDepth 100000
set_option maxHeartbeats 4000000
/-! Letting go behind a statement; forgetting names (own work). -/
namespace DL
open PySem PySem.Spec PyProof.Rows L2
def envBd (n : Nat) : Env → Bool
  | [] => true
  | some d :: E => d.bd n && envBd n E
  | none :: E => envBd n E
open Classical in
noncomputable def gcE (A : AH) (E : Env) (B : AH) : AH := if envBd A.length E = true ∧ okPre A (B.take A.length) then B.take A.length else B
noncomputable def gcS (A : AH) : SRes → SRes
  | .nx E B => .nx E (gcE A E B)
  | .ct E B => .ct E (gcE A E B)
  | .bk E B => .bk E (gcE A E B)
  | r => r
noncomputable def sGc (m : Sx) : Sx := fun E A => gcS A (m E A)
def fgE : List Nat → Env → Env
  | [], E => E
  | i :: is, E => fgE is (E.set i none)
def fgR (is : List Nat) : SRes → SRes
  | .nx E B => .nx (fgE is E) B
  | .ct E B => .ct (fgE is E) B
  | .bk E B => .bk (fgE is E) B
  | r => r
def sFg (is : List Nat) (m : Sx) : Sx := fun E A => fgR is (m E A)
theorem envBd_get : ∀ {E : Env} {n i : Nat} {d : D}, envBd n E = true → E[i]? = some (some d) → d.bd n = true
  | [], _, _, _, _, h => by cases h
  | some c :: E, n, 0, d, h, e => by
    unfold envBd at h
    rw [Bool.and_eq_true] at h
    cases e
    exact h.1
  | none :: E, n, 0, d, h, e => by cases e
  | some c :: E, n, i + 1, d, h, e => by
    unfold envBd at h
    rw [Bool.and_eq_true] at h
    exact envBd_get (i := i) h.2 e
  | none :: E, n, i + 1, d, h, e => by
    unfold envBd at h
    exact envBd_get (i := i) h e
section
variable {K : PySem.W.Frag} {ρ ρ' : Nat → Addr} {A B : AH} {H H' : Hp} {σ : Sl} {E : Env}
theorem RepE.cut {n m : Nat} (h : RepE ρ n H E σ) (b : envBd m E = true) : RepE ρ m H E σ := ⟨h.len, fun i d e => by
  obtain ⟨v, h1, h2⟩ := h.get i d e
  exact ⟨v, h1, h2.cut (envBd_get b e)⟩⟩
theorem RepE.none {n : Nat} (h : RepE ρ n H E σ) (i : Nat) : RepE ρ n H (E.set i none) σ := ⟨by rw [List.length_set]; exact h.len, fun j d e => by
  by_cases z : i = j
  · subst z
    rw [List.getElem?_set] at e
    split at e
    · split at e <;> cases e
    · exact h.get i d e
  · rw [List.getElem?_set_ne z] at e
    exact h.get j d e⟩
theorem RepE.fg {n : Nat} : ∀ {is : List Nat} {E : Env}, RepE ρ n H E σ → RepE ρ n H (fgE is E) σ
  | [], _, h => h
  | i :: is, _, h => RepE.fg (is := is) (h.none i)
theorem gcE_ok (R : RepA K ρ H A) (x : Nxt K ρ A H ρ' B H') (r : RepE ρ' B.length H' E σ) : Nxt K ρ A H ρ' (gcE A E B) H' ∧ RepE ρ' (gcE A E B).length H' E σ := by
  unfold gcE
  by_cases c : envBd A.length E = true ∧ okPre A (B.take A.length)
  · rw [if_pos c]
    refine ⟨Nxt.cut R x c.2, ?_⟩
    rw [c.2.1]
    exact r.cut c.1
  · rw [if_neg c]
    exact ⟨x, r⟩
theorem PostS.gc {W : WX} {r : SRes} {Dn : Ends} (R : RepA K ρ H A) (h : PostS K W ρ A H (gcS A r) Dn) : PostS K W ρ A H r Dn := by
  cases r with
  | nx E B => exact fun ρ' σ H' n r => h ρ' σ H' (gcE_ok R n r).1 (gcE_ok R n r).2
  | ct E B => exact fun ρ' σ H' n r => h ρ' σ H' (gcE_ok R n r).1 (gcE_ok R n r).2
  | bk E B => exact fun ρ' σ H' n r => h ρ' σ H' (gcE_ok R n r).1 (gcE_ok R n r).2
  | rt d B => exact h
  | exc x E B => exact h
  | bad => exact h
theorem PostS.fg {W : WX} {r : SRes} {Dn : Ends} {is : List Nat} (h : PostS K W ρ A H (fgR is r) Dn) : PostS K W ρ A H r Dn := by
  cases r with
  | nx E B => exact fun ρ' σ H' n r => h ρ' σ H' n r.fg
  | ct E B => exact fun ρ' σ H' n r => h ρ' σ H' n r.fg
  | bk E B => exact fun ρ' σ H' n r => h ρ' σ H' n r.fg
  | rt d B => exact h
  | exc x E B => exact h
  | bad => exact h
end
section
variable {X : Cx} {W : WX} {st : Stmt} {sts : List Stmt} {m : Sx} {is : List Nat}
theorem rs_gc (h : RS X W st m) : RS X W st (sGc m) := PS.imp h fun Dn σ H ⟨ρ, E, A, hE, hA, q⟩ => ⟨ρ, E, A, hE, hA, PostS.gc hA q⟩
theorem rss_gc (h : RSs X W sts m) : RSs X W sts (sGc m) := PSs.imp h fun Dn σ H ⟨ρ, E, A, hE, hA, q⟩ => ⟨ρ, E, A, hE, hA, PostS.gc hA q⟩
theorem rs_fg (h : RS X W st m) : RS X W st (sFg is m) := PS.imp h fun Dn σ H ⟨ρ, E, A, hE, hA, q⟩ => ⟨ρ, E, A, hE, hA, PostS.fg q⟩
theorem rss_fg (h : RSs X W sts m) : RSs X W sts (sFg is m) := PSs.imp h fun Dn σ H ⟨ρ, E, A, hE, hA, q⟩ => ⟨ρ, E, A, hE, hA, PostS.fg q⟩
end

/-! ### for the printed texts -/
/-- a def's function with the defaults filled in -/
abbrev cl (F : Fn) (dd : List D) : Fn := fun xs A => F (xs ++ dd) A
def blkChk (N : List Str) (sc scope : Scope) (own : List (Str × Nat)) : Bool :=
  (match scope.kind with | .function => true | _ => false) && (scope.names.all fun y => scope.names.lookup y.1 == some y.2) && (own.all fun p => N[p.2]? == some p.1) &&
  (scope.names.all fun y => !(y.2 == .free) || (sc.names.lookup y.1 == some .cell || sc.names.lookup y.1 == some .free)) &&
  (scope.names.all fun y => !(y.2 == .local || y.2 == .cell) || ((own.map (·.1)).contains y.1 || !N.contains y.1))
theorem blk_of {N : List Str} {sc scope : Scope} {own : List (Str × Nat)} (h : blkChk N sc scope own = true) : BlkOk N sc scope own := by
  unfold blkChk at h
  simp only [Bool.and_eq_true, List.all_eq_true, Bool.or_eq_true, Bool.not_eq_true', beq_iff_eq, beq_eq_false_iff_ne, List.contains_iff_mem] at h
  obtain ⟨⟨⟨⟨h1, h2⟩, h3⟩, h4⟩, h5⟩ := h
  refine ⟨?_, fun y hy => h2 y hy, fun p hp => h3 p hp, fun y hy e => ?_, fun y hy e => ?_⟩
  · cases z : scope.kind <;> rw [z] at h1 <;> first | rfl | cases h1
  · rcases h4 y hy with q | q
    · exact absurd e q
    · exact q
  · rcases h5 y hy with q | q
    · rcases e with e | e
      · rw [e] at q; exact absurd q (by decide)
      · rw [e] at q; exact absurd q (by decide)
    · rcases q with q | q
      · exact .inl q
      · exact .inr (by simpa using q)
theorem bt_len : bootBuiltins "len" = some (.builtin "len") := by decide +kernel
theorem bt_list : bootBuiltins "list" = some (.type "list") := by decide +kernel
theorem bt_tuple : bootBuiltins "tuple" = some (.type "tuple") := by decide +kernel
theorem bt_int : bootBuiltins "int" = some (.type "int") := by decide +kernel
theorem bt_bool : bootBuiltins "bool" = some (.type "bool") := by decide +kernel
theorem bt_str : bootBuiltins "str" = some (.type "str") := by decide +kernel
theorem bt_dict : bootBuiltins "dict" = some (.type "dict") := by decide +kernel
theorem bt_abs : bootBuiltins "abs" = some (.builtin "abs") := by decide +kernel
theorem bt_max : bootBuiltins "max" = some (.builtin "max") := by decide +kernel
theorem bt_all : bootBuiltins "all" = some (.builtin "all") := by decide +kernel
theorem bt_any : bootBuiltins "any" = some (.builtin "any") := by decide +kernel
theorem bt_sum : bootBuiltins "sum" = some (.builtin "sum") := by decide +kernel
end DL
set_option Elab.async false
set_option linter.all false
set_option maxRecDepth 100000
set_option maxHeartbeats 4000000
/-! Dicts (own work). -/
namespace DL
open PySem PySem.Spec PyProof.Rows L2
section
variable {κ : Type} [DecidableEq κ]
/-- two keys are alike -/
def keqF (kf : D → Option κ) (a b : D) : Bool := match kf a, kf b with
  | some x, some y => decide (x = y)
  | _, _ => false
def valF (kf : D → Option κ) (kvs : List (D × D)) (k : D) : Option D := (kvs.find? fun p => keqF kf p.1 k).map (·.2)
def putF' (kf : D → Option κ) (kvs : List (D × D)) (k d : D) : List (D × D) := if (kvs.any fun p => keqF kf p.1 k) = true then kvs.map (fun p => if keqF kf p.1 k = true then (p.1, d) else p) else kvs ++ [(k, d)]
variable {kf : D → Option κ} {ρ : Nat → Addr} {n : Nat} {H : Hp}
theorem keqF_eq {a b : D} {x y : κ} (h : kf a = some x) (g : kf b = some y) : keqF kf a b = decide (x = y) := by
  unfold keqF
  rw [h, g]
theorem RepK.val {k : D} {x : κ} (hk : kf k = some x) : ∀ {kvs : List (D × D)} {gs : List (κ × V)}, RepK kf ρ n H kvs gs → (∀ d, valF kf kvs k = some d → ∃ v, valV gs x = some v ∧ RepV ρ n H d v) ∧ (valF kf kvs k = none → valV gs x = none)
  | [], _, .nil => ⟨fun d e => (by cases e), fun _ => rfl⟩
  | (q, d) :: kvs, (y, v) :: gs, .cons a b c => by
    have ih := RepK.val hk c
    have e : keqF kf q k = decide (y = x) := keqF_eq a hk
    unfold valF at ih ⊢
    rw [List.find?_cons]
    show _ ∧ _
    rw [e]
    by_cases z : y = x
    · subst z
      rw [decide_eq_true rfl]
      exact ⟨fun d' e' => by cases e'; exact ⟨v, valV_pos rfl, b⟩, fun e' => by cases e'⟩
    · rw [decide_eq_false z, valV_neg (p := (y, v)) z]
      exact ih
theorem RepK.any {k : D} {x : κ} (hk : kf k = some x) : ∀ {kvs : List (D × D)} {gs : List (κ × V)}, RepK kf ρ n H kvs gs → (kvs.any fun p => keqF kf p.1 k) = gs.any fun kv => decide (kv.1 = x)
  | [], _, .nil => rfl
  | (q, d) :: kvs, (y, v) :: gs, .cons a b c => by
    rw [List.any_cons, List.any_cons, RepK.any hk c, keqF_eq a hk]
theorem RepK.mapPut {k d : D} {x : κ} {v : V} (hk : kf k = some x) (r : RepV ρ n H d v) : ∀ {kvs : List (D × D)} {gs : List (κ × V)}, RepK kf ρ n H kvs gs → RepK kf ρ n H (kvs.map fun p => if keqF kf p.1 k = true then (p.1, d) else p) (gs.map fun kv => if kv.1 = x then (kv.1, v) else kv)
  | [], _, .nil => .nil
  | (q, e) :: kvs, (y, u) :: gs, .cons a b c => by
    have ih := RepK.mapPut hk r c
    have e1 : keqF kf q k = decide (y = x) := keqF_eq a hk
    rw [List.map_cons, List.map_cons]
    show RepK kf ρ n H ((if keqF kf q k = true then (q, d) else (q, e)) :: _) ((if y = x then (y, v) else (y, u)) :: _)
    rw [e1]
    by_cases z : y = x
    · rw [if_pos (decide_eq_true z), if_pos z]
      exact .cons a r ih
    · rw [if_neg (by simp [z]), if_neg z]
      exact .cons a b ih
theorem RepK.app {kvs ls : List (D × D)} {gs hs : List (κ × V)} (a : RepK kf ρ n H kvs gs) (b : RepK kf ρ n H ls hs) : RepK kf ρ n H (kvs ++ ls) (gs ++ hs) := by
  induction a with
  | nil => exact b
  | cons x y _ ih => exact .cons x y ih
theorem RepK.put {k d : D} {x : κ} {v : V} (hk : kf k = some x) (r : RepV ρ n H d v) {kvs : List (D × D)} {gs : List (κ × V)} (h : RepK kf ρ n H kvs gs) : RepK kf ρ n H (putF' kf kvs k d) (putK gs x v) := by
  unfold putF' putK
  rw [h.any hk]
  by_cases z : (gs.any fun kv => decide (kv.1 = x)) = true
  · rw [if_pos z, if_pos z]
    exact h.mapPut hk r
  · rw [if_neg z, if_neg z]
    exact h.app (.cons hk r .nil)
end
section
variable {ρ : Nat → Addr} {n : Nat} {H : Hp}
theorem keyD_rep {k : D} {x : Key} {v : V} (h : keyD k = some x) (r : RepV ρ n H k v) : v = kV x := by
  cases r <;> cases h <;> rfl
theorem keysD_rep : ∀ {ds : List D} {ks : List Key} {vs : List V}, keysD ds = some ks → RepVs ρ n H ds vs → vs = ks.map kV
  | [], ks, _, h, .nil => by cases h; rfl
  | d :: ds, ks, _, h, .cons a b => by
    unfold keysD at h
    cases e1 : keyD d with
    | none => rw [e1] at h; cases h
    | some k =>
      cases e2 : keysD ds with
      | none => rw [e1, e2] at h; cases h
      | some r =>
        rw [e1, e2] at h
        cases h
        rw [keyD_rep e1 a, keysD_rep e2 b]
        rfl
theorem keyT_rep {k : D} {x : List Key} {v : V} (h : keyT k = some x) (r : RepV ρ n H k v) : ∃ b, v = .ref b ∧ H b = some (.tup (x.map kV)) := by
  cases r with
  | tup q1 q2 =>
    have h' : keysD _ = some x := h
    rw [keysD_rep h' q2] at q1
    exact ⟨_, rfl, q1⟩
  | _ => cases h
end
/-! ### d[k], of a list, a tuple, a dict -/
def getO (A : AH) (k : D) : Option O → Res D
  | some (.dic kvs) => if (keyD k).isSome = true then okO A (valF keyD kvs k) else .bad
  | some (.dit kvs) => if (keyT k).isSome = true then okO A (valF keyT kvs k) else .bad
  | _ => .bad
def opGet : Fn
  | [.ref i, k], A => getO A k A[i]?
  | _, _ => .bad
def rGet (K : PySem.W.Frag) : R2 := fun x y H Q => ∃ a v, x = .ref a ∧ DGet H a y (some v) ∧ Q v H
section
variable {X : Cx} {W : WX} {pos : Pos}
theorem ix_dict (hu : X.A.units + 1 < cLine) : IxR X (rGet X.K) := by
  intro value slice pins s σ H x y v u Q I rx ry h hs
  obtain ⟨a, w, rfl, g, q⟩ := h
  obtain rfl : v = Value.ref a := rx
  exact tail_any (dict_typeIs I g) PySem.F.slot_dict_getitem.lookup (d_getItem hu I g ry fun w' s3 I3 rw' => ⟨w, H, I3, rw', q⟩) hs
theorem ok_get : Ok2 X.K (rGet X.K) opGet := fun W ρ A σ H d e v u Q hA rd re h => by
  cases rd with
  | @ref i hi =>
    have h2 : Post X.K W RepV ρ A σ H (getO A e A[i]?) Q := h
    cases z : A[i]? with
    | none => rw [z] at h2; exact h2.elim
    | some o =>
      rw [z] at h2
      cases o with
      | dic kvs =>
        have h3 : Post X.K W RepV ρ A σ H (if (keyD e).isSome = true then okO A (valF keyD kvs e) else .bad) Q := h2
        cases y : keyD e with
        | none => rw [y] at h3; exact h3.elim
        | some k =>
          rw [y, if_pos (show (some k).isSome = true from rfl)] at h3
          obtain ⟨gs, q1, q2⟩ := hA.objs i _ z
          cases y2 : valF keyD kvs e with
          | none => rw [y2] at h3; exact h3.elim
          | some c =>
            rw [y2] at h3
            obtain ⟨w, w1, w2⟩ := (q2.val y).1 c y2
            rw [keyD_rep y re]
            exact ⟨ρ i, w, rfl, by rw [← w1]; exact DGet.k q1, post_val hA h3 w2⟩
      | dit kvs =>
        have h3 : Post X.K W RepV ρ A σ H (if (keyT e).isSome = true then okO A (valF keyT kvs e) else .bad) Q := h2
        cases y : keyT e with
        | none => rw [y] at h3; exact h3.elim
        | some k =>
          rw [y, if_pos (show (some k).isSome = true from rfl)] at h3
          obtain ⟨gs, q1, q2⟩ := hA.objs i _ z
          cases y2 : valF keyT kvs e with
          | none => rw [y2] at h3; exact h3.elim
          | some c =>
            rw [y2] at h3
            obtain ⟨w, w1, w2⟩ := (q2.val y).1 c y2
            obtain ⟨b, rfl, eb⟩ := keyT_rep y re
            exact ⟨ρ i, w, rfl, by rw [← w1]; exact DGet.t q1 eb, post_val hA h3 w2⟩
      | _ => exact h2.elim
  | _ => exact h.elim
theorem Ok2.or {K : PySem.W.Frag} {r r' : R2} {F G : Fn} (a : Ok2 K r F) (b : Ok2 K r' G) {C : Fn} (hC : ∀ d e A, C [d, e] A = F [d, e] A ∨ C [d, e] A = G [d, e] A) : Ok2 K (fun x y H Q => r x y H Q ∨ r' x y H Q) C := fun W ρ A σ H d e v u Q hA rd re h => by
  rcases hC d e A with z | z
  · rw [z] at h; exact .inl (a W ρ A σ H d e v u Q hA rd re h)
  · rw [z] at h; exact .inr (b W ρ A σ H d e v u Q hA rd re h)
def isDk : Option O → Bool
  | some (.dic _) => true
  | some (.dit _) => true
  | _ => false
def isDict (A : AH) : D → Bool
  | .ref i => isDk A[i]?
  | _ => false
/-- o[i], whatever o is -/
def opItem : Fn
  | [d, e], A => if isDict A d = true then opGet [d, e] A else opIx [d, e] A
  | _, _ => .bad
theorem ok_item : Ok2 X.K (fun x y H Q => rGet X.K x y H Q ∨ rIx X.K x y H Q) opItem := ok_get.or ok_ix fun d e A => by
  show (if isDict A d = true then opGet [d, e] A else opIx [d, e] A) = _ ∨ (if isDict A d = true then opGet [d, e] A else opIx [d, e] A) = _
  by_cases z : isDict A d = true
  · exact .inl (if_pos z)
  · exact .inr (if_neg z)
theorem ix_item (hu : X.A.units + 1 < cLine) : IxR X (fun x y H Q => rGet X.K x y H Q ∨ rIx X.K x y H Q) := (ix_dict hu).or ix_seq
/-! ### d[k] = v -/
def putO (i : Nat) (k d : D) (A : AH) : Option O → Option AH
  | some (.dic kvs) => if (keyD k).isSome = true ∧ kvs.length < line then some (A.set i (.dic (putF' keyD kvs k d))) else none
  | some (.dit kvs) => if (keyT k).isSome = true ∧ kvs.length < line then some (A.set i (.dit (putF' keyT kvs k d))) else none
  | _ => none
def stPut : Stx := fun x y d A => match x with
  | .ref i => putO i y d A A[i]?
  | _ => none
theorem ok_put : OkSt X.K rSetD stPut := fun ρ A H x y d u v w B Q hA rx ry rd e hq => by
  cases rx with
  | @ref i hi =>
    have e' : putO i y d A A[i]? = some B := e
    cases z : A[i]? with
    | none => rw [z] at e'; cases e'
    | some o =>
      rw [z] at e'
      cases o with
      | dic kvs =>
        have e2 : (if (keyD y).isSome = true ∧ kvs.length < line then some (A.set i (.dic (putF' keyD kvs y d))) else none) = some B := e'
        by_cases c : (keyD y).isSome = true ∧ kvs.length < line
        · rw [if_pos c] at e2
          obtain ⟨k, hk⟩ := Option.isSome_iff_exists.mp c.1
          obtain ⟨gs, q1, q2⟩ := hA.objs i _ z
          cases e2
          rw [keyD_rep hk ry]
          exact ⟨ρ i, _, rfl, DPut.k q1 (by rw [← q2.len, ← line_eq]; exact c.2), hq _ (Nxt.set hA z rfl rfl fun ex => ⟨_, upd_same, (q2.put hk rd).ext ex⟩)⟩
        · rw [if_neg c] at e2; cases e2
      | dit kvs =>
        have e2 : (if (keyT y).isSome = true ∧ kvs.length < line then some (A.set i (.dit (putF' keyT kvs y d))) else none) = some B := e'
        by_cases c : (keyT y).isSome = true ∧ kvs.length < line
        · rw [if_pos c] at e2
          obtain ⟨k, hk⟩ := Option.isSome_iff_exists.mp c.1
          obtain ⟨gs, q1, q2⟩ := hA.objs i _ z
          cases e2
          obtain ⟨b, rfl, eb⟩ := keyT_rep hk ry
          exact ⟨ρ i, _, rfl, DPut.t q1 eb (by rw [← q2.len, ← line_eq]; exact c.2), hq _ (Nxt.set hA z rfl rfl fun ex => ⟨_, upd_same, (q2.put hk rd).ext ex⟩)⟩
        · rw [if_neg c] at e2; cases e2
      | _ => cases e'
  | _ => cases e
/-- o[i] = v, whatever o is -/
def stItem : Stx := fun x y d A => if isDict A x = true then stPut x y d A else stIx x y d A
def rSetI : TSet := fun o i v H Q => rSetD o i v H Q ∨ rSetL o i v H Q
theorem set_item (hu : X.A.units + 1 < cLine) : PSet X rSetI := fun pins s σ H o i v ov iv u Q I ro ri rv h => by
  rcases h with h | h
  · exact set_dict hu pins s σ H o i v ov iv u Q I ro ri rv h
  · exact set_list pins s σ H o i v ov iv u Q I ro ri rv h
theorem ok_setI : OkSt X.K rSetI stItem := fun ρ A H x y d u v w B Q hA rx ry rd e hq => by
  have e' : (if isDict A x = true then stPut x y d A else stIx x y d A) = some B := e
  by_cases z : isDict A x = true
  · rw [if_pos z] at e'; exact .inl (ok_put ρ A H x y d u v w B Q hA rx ry rd e' hq)
  · rw [if_neg z] at e'; exact .inr (ok_set ρ A H x y d u v w B Q hA rx ry rd e' hq)
end
end DL
set_option Elab.async false
set_option linter.all false
set_option maxRecDepth 100000
set_option maxHeartbeats 4000000
/-! in, defs that call themselves (own work). -/
namespace DL
open PySem PySem.Spec PyProof.Rows L2
/-- a def whose promise asks nothing: the first step for one that calls itself -/
def fnBad : Fn := fun _ _ => .bad
theorem Asks.bad {n : Nat} : Asks n fnBad := fun _ _ h => absurd rfl h
theorem def_bad {P : Program} {w : World} {K : PySem.W.Frag} {mg : Str → Option Value} {base : Heap} {x qual : Str} {params : Arguments} {body : List Stmt} {scope : Scope} {dvs : List V} {kws : List (Str × V)} {f : Addr} {fd : FuncData} {ps : List Str} {ds : List Value} {k : Nat}
    (F : FunD K x qual params body scope dvs kws f fd) (hB : Binds K fd ps ds) : DefOk P w K mg base k f ps ds ps.length fnBad :=
  ⟨⟨fd, ⟨fun vs H Q E h => h.1, fun A outer s H args us vs Q E hr he hb hv hs => by
    obtain ⟨_, ρ, xs, C, _, _, hp⟩ := hs
    exact hp.elim⟩, hB⟩, F.kp⟩
/-! ### k in d -/
def inO (A : AH) (neg : Bool) (k : D) : Option O → Res D
  | some (.dic kvs) => if (keyD k).isSome = true then .ok (.bl (if neg then !(valF keyD kvs k).isSome else (valF keyD kvs k).isSome)) A else .bad
  | some (.dit kvs) => if (keyT k).isSome = true then .ok (.bl (if neg then !(valF keyT kvs k).isSome else (valF keyT kvs k).isSome)) A else .bad
  | _ => .bad
def opInD (neg : Bool) : Fn
  | [k, .ref i], A => inO A neg k A[i]?
  | _, _ => .bad
def rInDict (neg : Bool) : R2 := fun x y H Q => ∃ a o, y = .ref a ∧ DGet H a x o ∧ Q (.bl (if neg then !o.isSome else o.isSome)) H
section
variable {X : Cx}
theorem op_inDict (hu : X.A.units + 1 < cLine) : OpR X (compareOp .In) (rInDict false) := by
  intro pins s σ H x y v u Q I rx ry h
  obtain ⟨a, o, rfl, g, q⟩ := h
  obtain rfl : u = Value.ref a := ry
  exact d_in hu I g rx fun s3 I3 => ⟨.bl o.isSome, H, I3, rfl, q⟩
theorem op_notInDict (hu : X.A.units + 1 < cLine) : OpR X (compareOp .NotIn) (rInDict true) := by
  intro pins s σ H x y v u Q I rx ry h
  obtain ⟨a, o, rfl, g, q⟩ := h
  obtain rfl : u = Value.ref a := ry
  exact d_notIn hu I g rx fun s3 I3 => ⟨.bl (!o.isSome), H, I3, rfl, q⟩
theorem RepK.valO {κ : Type} [DecidableEq κ] {kf : D → Option κ} {ρ : Nat → Addr} {n : Nat} {H : Hp} {k : D} {x : κ} (hk : kf k = some x) {kvs : List (D × D)} {gs : List (κ × V)} (r : RepK kf ρ n H kvs gs) : (valF kf kvs k).isSome = (valV gs x).isSome := by
  cases z : valF kf kvs k with
  | none => rw [(r.val hk).2 z]; rfl
  | some d =>
    obtain ⟨v, h, _⟩ := (r.val hk).1 d z
    rw [h]; rfl
theorem ok_inDict (neg : Bool) : Ok2 X.K (rInDict neg) (opInD neg) := fun W ρ A σ H d e v u Q hA rd re h => by
  cases re with
  | @ref i hi =>
    have h2 : Post X.K W RepV ρ A σ H (inO A neg d A[i]?) Q := h
    cases z : A[i]? with
    | none => rw [z] at h2; exact h2.elim
    | some o =>
      rw [z] at h2
      cases o with
      | dic kvs =>
        have h3 : Post X.K W RepV ρ A σ H (if (keyD d).isSome = true then .ok (.bl (if neg then !(valF keyD kvs d).isSome else (valF keyD kvs d).isSome)) A else .bad) Q := h2
        cases y : keyD d with
        | none => rw [y] at h3; exact h3.elim
        | some k =>
          rw [y, if_pos (show (some k).isSome = true from rfl)] at h3
          obtain ⟨gs, q1, q2⟩ := hA.objs i _ z
          rw [q2.valO y] at h3
          rw [keyD_rep y rd]
          exact ⟨ρ i, _, rfl, DGet.k q1, post_val hA h3 (.bl _)⟩
      | dit kvs =>
        have h3 : Post X.K W RepV ρ A σ H (if (keyT d).isSome = true then .ok (.bl (if neg then !(valF keyT kvs d).isSome else (valF keyT kvs d).isSome)) A else .bad) Q := h2
        cases y : keyT d with
        | none => rw [y] at h3; exact h3.elim
        | some k =>
          rw [y, if_pos (show (some k).isSome = true from rfl)] at h3
          obtain ⟨gs, q1, q2⟩ := hA.objs i _ z
          rw [q2.valO y] at h3
          obtain ⟨b, rfl, eb⟩ := keyT_rep y rd
          exact ⟨ρ i, _, rfl, DGet.t q1 eb, post_val hA h3 (.bl _)⟩
      | _ => exact h2.elim
  | _ => cases rd <;> exact h.elim
/-! ### x in a list or a tuple -/
def inR (A : AH) (neg : Bool) (b : Bool) : Res D := .ok (.bl (if neg then !b else b)) A
def inL (A : AH) (neg : Bool) : Option PyData → Option PyData → Res D
  | some d, some (.list ds) => inR A neg (ds.any fun z => PyData.eqv z d)
  | _, _ => .bad
def toFlat : D → Option V
  | .non => some .non
  | .bl b => some (.bl b)
  | .int i => some (.int i)
  | .str x => some (.str x)
  | _ => none
def inT (A : AH) (neg : Bool) : Option V → Option (List V) → Res D
  | some x, some xs => inR A neg (inV x xs)
  | _, _ => .bad
def opInS (neg : Bool) : Fn
  | [x, .ref i], A => inL A neg (toPy A 60 x) (toPy A 60 (.ref i))
  | [x, .tup ds], A => inT A neg (toFlat x) (allSome (ds.map toFlat))
  | _, _ => .bad
theorem flat_rep {ρ : Nat → Addr} {n : Nat} {H : Hp} {d : D} {v z : V} (h : toFlat d = some z) (r : RepV ρ n H d v) : v = z ∧ flatV z = true := by
  cases r <;> cases h <;> exact ⟨rfl, rfl⟩
theorem flats_rep {ρ : Nat → Addr} {n : Nat} {H : Hp} : ∀ {ds : List D} {vs zs : List V}, ds.map toFlat = zs.map some → RepVs ρ n H ds vs → vs = zs ∧ zs.all flatV = true
  | [], _, zs, h, .nil => by
    cases zs with
    | nil => exact ⟨rfl, rfl⟩
    | cons _ _ => cases h
  | d :: ds, _, zs, h, .cons a b => by
    cases zs with
    | nil => cases h
    | cons z zs =>
      rw [List.map_cons, List.map_cons] at h
      injection h with h1 h2
      obtain ⟨rfl, f1⟩ := flat_rep h1 a
      obtain ⟨rfl, f2⟩ := flats_rep h2 b
      exact ⟨rfl, by rw [List.all_cons, f1, f2]; rfl⟩
def rInS (K : PySem.W.Frag) (neg : Bool) : R2 := fun x y H Q => (∃ d ds, Dp K H x d ∧ Dp K H y (.list ds) ∧ SeqAt.shaped d = true ∧ SeqAt.shaped (.list ds) = true ∧ Q (.bl (if neg then !(ds.any fun z => PyData.eqv z d) else ds.any fun z => PyData.eqv z d)) H) ∨ rIn K neg x y H Q
theorem op_inS (hu : X.A.units + 65 < cLine) : OpR X (compareOp .In) (DL.rInS X.K false) := (op_inD hu).or op_in_seq
theorem op_notInS (hu : X.A.units + 65 < cLine) : OpR X (compareOp .NotIn) (DL.rInS X.K true) := (op_notInD hu).or op_notIn_seq
theorem ok_inS (neg : Bool) : Ok2 X.K (DL.rInS X.K neg) (opInS neg) := fun W ρ A σ H d e v u Q hA rd re h => by
  cases re with
  | @ref i hi =>
    have h2 : Post X.K W RepV ρ A σ H (inL A neg (toPy A 60 d) (toPy A 60 (.ref i))) Q := h
    cases y1 : toPy A 60 d with
    | none => rw [y1] at h2; exact h2.elim
    | some p =>
      cases y2 : toPy A 60 (.ref i) with
      | none => rw [y1, y2] at h2; exact h2.elim
      | some q =>
        rw [y1, y2] at h2
        cases q with
        | list ds => exact .inl ⟨p, ds, toPy_dp hA 60 d v p y1 rd, toPy_dp hA 60 _ _ _ y2 (.ref hi), toPy_shaped y1, toPy_shaped y2, post_val hA h2 (.bl _)⟩
        | _ => exact h2.elim
  | @tup a vs ds q1 q2 =>
    have h2 : Post X.K W RepV ρ A σ H (inT A neg (toFlat d) (allSome (ds.map toFlat))) Q := by cases d <;> exact h
    cases y1 : toFlat d with
    | none => rw [y1] at h2; exact h2.elim
    | some z =>
      cases y2 : allSome (ds.map toFlat) with
      | none => rw [y1, y2] at h2; exact h2.elim
      | some zs =>
        rw [y1, y2] at h2
        obtain ⟨rfl, f1⟩ := flat_rep y1 rd
        obtain ⟨rfl, f2⟩ := flats_rep (allSome_get y2) q2
        exact .inr ⟨a, vs, rfl, .inr (SqT.of q1), f1, f2, post_val hA h2 (.bl _)⟩
  | _ => cases rd <;> exact h.elim
/-- in, whatever stands behind it -/
def opIn (neg : Bool) : Fn
  | [x, y], A => if isDict A y = true then opInD neg [x, y] A else opInS neg [x, y] A
  | _, _ => .bad
def rInA (K : PySem.W.Frag) (neg : Bool) : R2 := fun x y H Q => rInDict neg x y H Q ∨ DL.rInS K neg x y H Q
theorem op_inA (hu : X.A.units + 65 < cLine) : OpR X (compareOp .In) (rInA X.K false) := (op_inDict (by omega)).or (DL.op_inS hu)
theorem op_notInA (hu : X.A.units + 65 < cLine) : OpR X (compareOp .NotIn) (rInA X.K true) := (op_notInDict (by omega)).or (DL.op_notInS hu)
theorem ok_inA (neg : Bool) : Ok2 X.K (rInA X.K neg) (opIn neg) := (ok_inDict neg).or (ok_inS neg) fun d e A => by
  show (if isDict A e = true then _ else _) = _ ∨ (if isDict A e = true then _ else _) = _
  by_cases z : isDict A e = true
  · exact .inl (if_pos z)
  · exact .inr (if_neg z)
end
end DL
set_option Elab.async false
set_option linter.all false
set_option maxRecDepth 100000
set_option maxHeartbeats 4000000
/-! {k: v for ..} (own work). -/
namespace DL
open PySem PySem.Spec PyProof.Rows L2
def addK (n : Nat) (k d : D) (A : AH) : Option O → Option AH
  | some (.dic kvs) => if (keyD k).isSome = true ∧ kvs.length < line then some (A.set n (.dic (putF' keyD kvs k d))) else none
  | _ => none
def kDc4 (n : Nat) (f : AH → Res D) (k : D) : D → AH → Res D := fun d A => okA f (addK n k d A A[n]?)
def kDc3 (e : Ex) (E : Env) (n : Nat) (f : AH → Res D) : D → AH → Res D := fun k A => (e E A).bindN (kDc4 n f k)
def kDc2 (k e : Ex) (E : Env) (n : Nat) (f : AH → Res D) : Bool → AH → Res D := fun b A => if b = true then (k E A).bindN (kDc3 e E n f) else f A
def kDc1 (t : Tx) (k e : Ex) (n : Nat) (f : AH → Res D) : SRes → Res D
  | .nx E A => (t E A).bindN (kDc2 k e E n f)
  | _ => .bad
def dcK (g : Gx) (t : Tx) (k e : Ex) (E : Env) (n : Nat) (f : AH → Res D) (A : AH) : Step → Res D
  | .stop => .ok (.ref n) A
  | .bad => .bad
  | .item d => kDc1 t k e n f (g d E A)
def dcN (src : Src) (g : Gx) (t : Tx) (k e : Ex) (E : Env) (at_ : Nat) : Nat → Nat → AH → Res D
  | 0, _, _ => .bad
  | n + 1, i, A => dcK g t k e E at_ (dcN src g t k e E at_ n (i + 1)) A (src.at A i)
def kDc (g : Gx) (t : Tx) (k e : Ex) (E : Env) : Src → AH → Res D := fun src A => dcN src g t k e E A.length (src.size A + 1) 0 (A ++ [.dic []])
def eDc (it : Ix) (g : Gx) (t : Tx) (k e : Ex) (own : List Nat) : Ex := fun E A => (it E A).bind (kDc g t k e (wipeE E own))
section
variable {X : Cx} {W : WX} {mi : Ix} {g : Gx} {mt : Tx} {mk me : Ex} {own : List Nat}
theorem dc_of {σ : Sl} {H : Hp} {Q : VK} (h : tE X.K W (eDc mi g mt mk me own) σ H Q) :
    tDc (tI X.K W mi) (fun v σ H Q => tG X.K W0 g v σ H fun σ2 H2 => L2.wipe σ2 own = L2.wipe σ own → Q σ2 H2) (tT X.K W0 mt) (tE X.K W0 mk) (tE X.K W0 me) own σ H Q := by
  obtain ⟨ρ, E, A, hE, hA, h⟩ := h
  refine ⟨ρ, E, A, hE, hA, ?_⟩
  have h0 : Post X.K W RepV ρ A σ H ((mi E A).bind (kDc g mt mk me (wipeE E own))) Q := h
  cases z : mi E A with
  | exc x B => rw [z] at h0; exact h0
  | bad => rw [z] at h0; exact h0
  | ok src B =>
    rw [z] at h0
    intro ρ1 J H1 n1 itok L hL
    have h1 : Post X.K W RepV ρ1 B σ H1 (dcN src g mt mk me (wipeE E own) B.length (src.size B + 1) 0 (B ++ [.dic []])) Q := Post.later h0 n1
    obtain ⟨ρ2, eL, n2⟩ := Nxt.alloc (o := .dic []) (ho := .dK []) n1.rep hL rfl fun ρ' _ => ⟨[], upd_same, .nil⟩
    have lB : B.length < (B ++ [O.dic []]).length := by rw [List.length_append]; exact Nat.lt_succ_self _
    refine ⟨fun i m H' => ∃ ρ3 A3, Nxt X.K ρ2 (B ++ [.dic []]) (upd H1 L (.dK [])) ρ3 A3 H' ∧ Post X.K W RepV ρ3 A3 σ H' (dcN src g mt mk me (wipeE E own) B.length m i A3) Q, ⟨src.size B + 1, ρ2, _, .refl n2.rep, Post.later h1 n2⟩, ?_⟩
    rintro i n H3 ⟨ρ3, A3, n3, h3⟩
    cases n with
    | zero => exact h3.elim
    | succ n =>
      have h4 : Post X.K W RepV ρ3 A3 σ H3 (dcK g mt mk me (wipeE E own) B.length (dcN src g mt mk me (wipeE E own) B.length n (i + 1)) A3 (src.at A3 i)) Q := h3
      have nn := n1.trans (n2.trans n3)
      have io := itok ρ3 A3 H3 (n2.trans n3) i
      have eW : RepE ρ3 A3.length H3 (wipeE E own) (L2.wipe σ own) := (hE.ext nn.ext).wipe own
      have e3 : ρ3 B.length = L := (n3.ext.same _ lB).trans eL
      have l3 : B.length < A3.length := Nat.lt_of_lt_of_le lB n3.ext.le
      cases y : src.at A3 i with
      | stop =>
        rw [y] at h4 io
        have q := h4 ρ3 (.ref (ρ3 B.length)) H3 (.refl n3.rep) (.ref l3)
        rw [e3] at q
        exact .inl ⟨io, q⟩
      | bad => rw [y] at h4; exact h4.elim
      | item d =>
        rw [y] at h4 io
        refine .inr ⟨io.1, _, fun H' q => ⟨n, Nat.lt_succ_self _, q⟩, fun x H4 yl => ?_⟩
        obtain ⟨sm, rv⟩ := io.2 x H4 yl
        have n4 := Nxt.same n3.rep sm
        refine ⟨ρ3, wipeE E own, A3, d, eW.ext n4.ext, n4.rep, rv, ?_⟩
        have h5 : Post X.K W RepV ρ3 A3 σ H4 (kDc1 mt mk me B.length (dcN src g mt mk me (wipeE E own) B.length n (i + 1)) (g d (wipeE E own) A3)) Q := Post.later h4 n4
        cases u : g d (wipeE E own) A3 with
        | nx E5 A5 =>
          rw [u] at h5
          intro ρ5 σ5 H5 n5 e5 w5
          have h6 : Post X.K W RepV ρ5 A5 σ H5 ((mt E5 A5).bindN (kDc2 mk me E5 B.length (dcN src g mt mk me (wipeE E own) B.length n (i + 1)))) Q := Post.later h5 n5
          refine ⟨by rw [w5]; exact wipe_wipe, ρ5, E5, A5, e5, n5.rep, Post.bindN h6 fun ρ6 c B6 b6 H6 n6 r6 h7 => ?_⟩
          have r6' : c = b6 := r6
          subst r6'
          cases c with
          | false => exact iteF ⟨ρ6, B6, n3.trans (n4.trans (n5.trans n6)), h7⟩
          | true =>
            have h8 : Post X.K W RepV ρ6 B6 σ H6 ((mk E5 B6).bindN (kDc3 me E5 B.length (dcN src g mt mk me (wipeE E own) B.length n (i + 1)))) Q := h7
            refine iteT ⟨ρ6, E5, B6, e5.ext n6.ext, n6.rep, Post.bindN h8 fun ρ7 kd B7 v7 H7 n7 r7 h9 => ?_⟩
            have h9' : Post X.K W RepV ρ7 B7 σ H7 ((me E5 B7).bindN (kDc4 B.length (dcN src g mt mk me (wipeE E own) B.length n (i + 1)) kd)) Q := h9
            refine ⟨ρ7, E5, B7, (e5.ext n6.ext).ext n7.ext, n7.rep, Post.bindN h9' fun ρ9 dv B9 v9 H9 n9 r9 h10 => ?_⟩
            have h11 : Post X.K W RepV ρ9 B9 σ H9 (okA (dcN src g mt mk me (wipeE E own) B.length n (i + 1)) (addK B.length kd dv B9 B9[B.length]?)) Q := h10
            have n39 := n3.trans (n4.trans (n5.trans (n6.trans (n7.trans n9))))
            have e9 : ρ9 B.length = L := (n39.ext.same _ lB).trans eL
            cases q : B9[B.length]? with
            | none => rw [q] at h11; exact h11.elim
            | some ob =>
              rw [q] at h11
              cases ob with
              | dic kvs =>
                have h12 : Post X.K W RepV ρ9 B9 σ H9 (okA (dcN src g mt mk me (wipeE E own) B.length n (i + 1)) (if (keyD kd).isSome = true ∧ kvs.length < line then some (B9.set B.length (.dic (putF' keyD kvs kd dv))) else none)) Q := h11
                by_cases lt : (keyD kd).isSome = true ∧ kvs.length < line
                · rw [if_pos lt] at h12
                  obtain ⟨key, hkey⟩ := Option.isSome_iff_exists.mp lt.1
                  obtain ⟨gs, q1, q2⟩ := n9.rep.objs _ _ q
                  rw [e9] at q1
                  have n10 : Nxt X.K ρ9 B9 H9 ρ9 (B9.set B.length (.dic (putF' keyD kvs kd dv))) (upd H9 (ρ9 B.length) (.dK (putK gs key v9))) :=
                    Nxt.set n9.rep q rfl rfl fun ex => ⟨_, upd_same, (q2.put hkey r9).ext ex⟩
                  rw [e9] at n10
                  exact ⟨gs, key, keyD_rep hkey (r7.ext n9.ext), q1, by rw [← q2.len, ← line_eq]; exact lt.2, ρ9, _, n39.trans n10, Post.later h12 n10⟩
                · rw [if_neg lt] at h12
                  exact h12.elim
              | _ => exact h11.elim
        | exc x E5 A5 => rw [u] at h5; exact h5.elim
        | rt _ _ => rw [u] at h5; exact h5.elim
        | bk _ _ => rw [u] at h5; exact h5.elim
        | ct _ _ => rw [u] at h5; exact h5.elim
        | bad => rw [u] at h5; exact h5.elim
end
section
variable {X : Cx} {W : WX} {k : Nat} {pos : Pos} {tg iter kx elt : Expr} {ifs : List Expr} {scope : Scope} {own : List (Str × Nat)} {mi : Ix} {g : Gx} {mt : Tx} {mk me : Ex}
theorem re_dc (cx : Ctx X W k) (hi : RI X W tg iter mi) (ok : BlkOk X.N X.env.scope scope own)
    (hg : ∀ s H C cl fp, RGo (blkOf X scope s H C cl fp) W0 (own.map (·.2)) tg g) (ht : ∀ s H C cl fp, RTs (blkOf X scope s H C cl fp) W0 ifs mt) (hk : ∀ s H C cl fp, RE (blkOf X scope s H C cl fp) W0 kx mk) (he : ∀ s H C cl fp, RE (blkOf X scope s H C cl fp) W0 elt me)
    (hs : ∀ x, foldedSetIterable iter X.env x = pure x := by intro _; rfl) : RE X W (.DictComp kx elt [⟨tg, iter, ifs, 0⟩] scope pos) (eDc mi g mt mk me (own.map (·.2))) :=
  PE.imp (pe_dc (g := fun v σ H Q => tG X.K W0 g v σ H fun σ2 H2 => L2.wipe σ2 (own.map (·.2)) = L2.wipe σ (own.map (·.2)) → Q σ2 H2) (tt := tT X.K W0 mt) (tk := tE X.K W0 mk) (tv := tE X.K W0 me) cx.calm cx.nd hi ok hg ht hk he hs) fun σ H Q h => dc_of h
end
end DL
set_option Elab.async false
set_option linter.all false
set_option maxRecDepth 100000
set_option maxHeartbeats 4000000
/-! sorted, count, +=, dict(d) (own work). -/
namespace DL
open PySem PySem.Spec PyProof.Rows L2
def sortI (ns : List Int) : List Int := ns.mergeSort fun a b => decide (a ≤ b)
theorem sortI_eq {ns ms : List Int} (p : ms.Perm ns) (s : ms.Pairwise (· ≤ ·)) : ms = sortI ns := by
  refine List.Perm.eq_of_pairwise (le := (· ≤ ·)) (fun a b _ _ h1 h2 => Int.le_antisymm h1 h2) s ?_ (p.trans (List.mergeSort_perm ns _).symm)
  have := List.pairwise_mergeSort (le := fun a b : Int => decide (a ≤ b)) (fun a b c h1 h2 => by simp at *; omega) (fun a b => by simp; omega) ns
  exact this.imp fun h => of_decide_eq_true h
def sortO (A : AH) : Option (List Int) → Res D
  | some ns => .ok (.ref A.length) (A ++ [.lst ((sortI ns).map D.int)])
  | none => .bad
/-- sorted(list of ints) -/
def biSorted : Fn
  | [.ref i], A => sortO A ((seqAt A i).bind intsOf)
  | _, _ => .bad
def cntO (A : AH) (k : Int) : Option (List Int) → Res D
  | some ns => .ok (.int (ns.count k : Nat)) A
  | none => .bad
/-- l.count(k), ints -/
def mCount : Fn
  | [.ref i, .int k], A => cntO A k ((seqAt A i).bind intsOf)
  | _, _ => .bad
def extO (i : Nat) (A : AH) : Option O → Option O → Res D
  | some (.lst xs), some (.lst ys) => if xs.length + ys.length ≤ line then .ok (.ref i) (A.set i (.lst (xs ++ ys))) else .bad
  | _, _ => .bad
/-- l += m -/
def opExt : Fn
  | [.ref i, .ref j], A => extO i A A[i]? A[j]?
  | _, _ => .bad
/-- x += y of ints, of lists -/
def opIAdd : Fn
  | [.int i, .int j], A => .ok (.int (i + j)) A
  | [.ref i, .ref j], A => extO i A A[i]? A[j]?
  | _, _ => .bad
def dicO (A : AH) : Option O → Res D
  | some (.dic kvs) => .ok (.ref A.length) (A ++ [.dic kvs])
  | _ => .bad
/-- dict(d) -/
def biDict : Fn
  | [.ref i], A => dicO A A[i]?
  | _, _ => .bad
theorem Ctx.u1 {X : Cx} {W : WX} {k : Nat} (c : Ctx X W k) : X.A.units + 1 < cLine := by have := c.room.un; omega
theorem Ctx.u65 {X : Cx} {W : WX} {k : Nat} (c : Ctx X W k) : X.A.units + 65 < cLine := by have := c.room.un; omega
theorem bt_sorted : bootBuiltins "sorted" = some (.builtin "sorted") := by decide +kernel
section
variable {X : Cx}
theorem ok_sorted : OkL X.K (rSortedI X.K) biSorted := fun W ρ A σ H ds vs Q hA r h => by
  obtain ⟨d, v, e1, e2, rd⟩ := one_of (F := biSorted) (fun _ => rfl) (fun d e r A => by cases d <;> rfl) r h
  subst e1 e2
  cases rd with
  | @ref i hi =>
    have h2 : Post X.K W RepV ρ A σ H (sortO A ((seqAt A i).bind intsOf)) Q := h
    cases z : seqAt A i with
    | none => rw [z] at h2; exact h2.elim
    | some xs =>
      rw [z] at h2
      have h3 : Post X.K W RepV ρ A σ H (sortO A (intsOf xs)) Q := h2
      obtain ⟨us, q1, q2⟩ := hA.seq z
      cases y : intsOf xs with
      | none => rw [y] at h3; exact h3.elim
      | some ns =>
        rw [y] at h3
        rw [ints_rep y q2] at q1
        refine ⟨ρ i, ns, rfl, q1, fun ns' p hp hs hq => ?_⟩
        rw [sortI_eq hp hs]
        exact post_lst hA h3 (RepVs.ints _) hq
  | _ => exact h.elim
theorem ok_count : OkM X.K (rCntI X.K) mCount := fun W ρ A σ H d ds v vs Q hA rd rs h => by
  cases rd with
  | @ref i hi => cases rs with
    | nil => exact h.elim
    | cons r1 r2 => cases r2 with
      | cons _ _ => cases r1 <;> exact h.elim
      | nil => cases r1 with
        | int k =>
          have h2 : Post X.K W RepV ρ A σ H (cntO A k ((seqAt A i).bind intsOf)) Q := h
          cases z : seqAt A i with
          | none => rw [z] at h2; exact h2.elim
          | some xs =>
            rw [z] at h2
            have h3 : Post X.K W RepV ρ A σ H (cntO A k (intsOf xs)) Q := h2
            obtain ⟨us, q1, q2⟩ := hA.seq z
            cases y : intsOf xs with
            | none => rw [y] at h3; exact h3.elim
            | some ns =>
              rw [y] at h3
              rw [ints_rep y q2] at q1
              exact ⟨ρ i, ns, k, rfl, rfl, q1, post_val hA h3 (.int _)⟩
        | _ => exact h.elim
  | _ => cases rs with
    | nil => exact h.elim
    | cons r1 r2 => exact h.elim
theorem ok_ext : OkIp X.K rExt2 opExt := fun W ρ A σ H d e v u Q hA rd re h => by
  cases rd with
  | @ref i hi => cases re with
    | @ref j hj =>
      have h2 : Post X.K W RepV ρ A σ H (extO i A A[i]? A[j]?) Q := h
      cases e1 : A[i]? with
      | none => rw [e1] at h2; exact h2.elim
      | some o1 => cases e2 : A[j]? with
        | none => rw [e1, e2] at h2; cases o1 <;> exact h2.elim
        | some o2 =>
          rw [e1, e2] at h2
          cases o1 with
          | lst xs => cases o2 with
            | lst ys =>
              have h3 : Post X.K W RepV ρ A σ H (if xs.length + ys.length ≤ line then .ok (.ref i) (A.set i (.lst (xs ++ ys))) else .bad) Q := h2
              obtain ⟨vs, q1, q2⟩ := lst_at hA e1
              obtain ⟨us, q3, q4⟩ := lst_at hA e2
              by_cases z : xs.length + ys.length ≤ line
              · rw [if_pos z] at h3
                exact ⟨ρ i, ρ j, vs, us, rfl, rfl, q1, q3, by rw [← q2.len, ← q4.len, ← line_eq]; exact z, post_set hA h3 e1 rfl rfl (.ref hi) fun ex => ⟨_, upd_same, (q2.app q4).ext ex⟩⟩
              · rw [if_neg z] at h3; exact h3.elim
            | _ => exact h2.elim
          | _ => exact h2.elim
    | _ => exact h.elim
  | _ => cases re <;> exact h.elim
def rIAdd : TIp := fun x y H Q => ipI (fun i j => i + j) x y H Q ∨ rExt2 x y H Q
theorem ip_iadd : PIp X .Add rIAdd := fun pins s σ H x y v u Q I rx ry h => by
  rcases h with h | h
  · exact ip_add pins s σ H x y v u Q I rx ry h
  · exact iop_ext pins s σ H x y v u Q I rx ry h
theorem ok_iadd : OkIp X.K rIAdd opIAdd := fun W ρ A σ H d e v u Q hA rd re h => by
  cases rd with
  | int i => cases re with
    | int j => exact .inl ⟨i, j, rfl, rfl, post_val hA h (.int _)⟩
    | _ => exact h.elim
  | @ref i hi => cases re with
    | @ref j hj => exact .inr (ok_ext W ρ A σ H (.ref i) (.ref j) _ _ Q hA (.ref hi) (.ref hj) h)
    | _ => exact h.elim
  | _ => cases re <;> exact h.elim
theorem ok_dict : OkL X.K (fun xs H Q => ∃ (a : Addr) (kvs : List (Key × V)), xs = [.ref a] ∧ Rd H a (.dK kvs) ∧ ∀ p, H p = none → Q (.ref p) (upd H p (.dK kvs))) biDict := fun W ρ A σ H ds vs Q hA r h => by
  obtain ⟨d, v, e1, e2, rd⟩ := one_of (F := biDict) (fun _ => rfl) (fun d e r A => by cases d <;> rfl) r h
  subst e1 e2
  cases rd with
  | @ref i hi =>
    have h2 : Post X.K W RepV ρ A σ H (dicO A A[i]?) Q := h
    cases z : A[i]? with
    | none => rw [z] at h2; exact h2.elim
    | some o =>
      rw [z] at h2
      cases o with
      | dic kvs =>
        obtain ⟨gs, q1, q2⟩ := hA.objs i _ z
        exact ⟨ρ i, gs, rfl, .inl q1, fun p hp => post_new hA h2 hp rfl fun ρ' x => ⟨gs, upd_same, q2.ext x⟩⟩
      | _ => exact h2.elim
  | _ => exact h.elim
end
end DL
set_option Elab.async false
set_option linter.all false
set_option maxRecDepth 100000
set_option maxHeartbeats 4000000
/-! zip of two tuples (own work). -/
namespace DL
open PySem PySem.Spec PyProof.Rows L2 RZ
def zipD : List D → List D → List D
  | x :: xs, y :: ys => .tup [x, y] :: zipD xs ys
  | _, _ => []
theorem zipD_get {i : Nat} : ∀ {xs ys : List D}, (zipD xs ys)[i]? = match xs[i]?, ys[i]? with
    | some x, some y => some (.tup [x, y])
    | _, _ => none := by
  induction i with
  | zero =>
    intro xs ys
    cases xs <;> cases ys <;> rfl
  | succ i ih =>
    intro xs ys
    cases xs with
    | nil => cases ys <;> rfl
    | cons x xs => cases ys with
      | nil => 
        show (none : Option D) = match (x :: xs)[i + 1]?, ([] : List D)[i + 1]? with | some x, some y => some (.tup [x, y]) | _, _ => none
        cases (x :: xs)[i + 1]? <;> rfl
      | cons y ys =>
        show (zipD xs ys)[i]? = _
        rw [ih]
        rfl
def kZip : List D → AH → Res Src
  | [.tup xs, .tup ys], A => .ok (.seq (zipD xs ys)) A
  | _, _ => .bad
def iZip (a : Ax) : Ix := fun E A => (a E A).bind kZip
theorem it_zipT {K : PySem.W.Frag} {ρ : Nat → Addr} {A : AH} {H : Hp} {a b : Addr} {xs ys : List D} {vs us : List V} (ha : H a = some (.tup vs)) (hb : H b = some (.tup us)) (ra : RepVs ρ A.length H xs vs) (rb : RepVs ρ A.length H ys us) : ItOk K ρ A H (.seq (zipD xs ys)) (ItzT K a b) := fun ρ1 B H1 n i => by
  have t1 : SqT K H1 a vs := SqT.of (n.ext.tups a vs ha)
  have t2 : SqT K H1 b us := SqT.of (n.ext.tups b us hb)
  have r1 := n.reps ra
  have r2 := n.reps rb
  show match stepO (zipD xs ys)[i]? with | .item d => _ | .stop => _ | .bad => _
  rw [zipD_get]
  cases z : xs[i]? with
  | none => exact ⟨vs, us, t1, t2, .inl (by rw [← r1.len]; exact List.getElem?_eq_none_iff.mp z)⟩
  | some d =>
    cases y : ys[i]? with
    | none => exact ⟨vs, us, t1, t2, .inr (by rw [← r2.len]; exact List.getElem?_eq_none_iff.mp y)⟩
    | some e =>
      obtain ⟨v, h1, h2⟩ := r1.get z
      obtain ⟨u, h3, h4⟩ := r2.get y
      exact ⟨⟨vs, us, v, u, t1, t2, h1, h3⟩, fun w H2 q => by
        obtain ⟨T, v', u', e1, e2, e3, e4, e5⟩ := q
        subst e1 e3
        have q1 := e4 vs t1
        have q2 := e5 us t2
        rw [h1] at q1
        rw [h3] at q2
        cases q1
        cases q2
        have sm := same_new (ho := HO.tup [v, u]) e2
        exact ⟨sm, .tup upd_same (.cons (h2.ext (Nxt.same n.rep sm).ext) (.cons (h4.ext (Nxt.same n.rep sm).ext) .nil))⟩⟩
section
variable {X : Cx} {W : WX} {p pos tpos : Pos} {e e2 : Expr} {mr : Ax} {elts : List Expr} {kk : Nat}
theorem ri_zip (hg : Gl X "zip") (hm : X.mg "zip" = none) (ha : RA X W [e, e2] mr) (hs : starEach [e, e2] X.env = (false, eval e X.env) :: starEach [e2] X.env := by rfl) (hpl : (backTo pos (starEach [e2] X.env)).any (·.1) = false := by rfl) :
    RI X W (.Tuple elts kk tpos) (.Call (.Name "zip" p) [e, e2] [] pos) (iZip mr) := by
  refine PI.imp (pi_zipA hg hm ha hs hpl) fun σ H R ⟨ρ, E, A, hE, hA, h⟩ => ⟨ρ, E, A, hE, hA, PostI.bind h fun ρ1 ds B vs H1 n1 r1 h1 => ?_⟩
  cases r1 with
  | nil => exact h1.elim
  | cons r1 r2 => cases r2 with
    | nil => cases r1 <;> exact h1.elim
    | cons r2 r3 => cases r3 with
      | cons _ _ => cases r1 <;> cases r2 <;> exact h1.elim
      | nil => cases r1 with
        | @tup a vs xs q1 q2 => cases r2 with
          | @tup b us ys q3 q4 => exact ⟨a, b, vs, us, rfl, .inr ⟨SqT.of q1, SqT.of q3, h1 ρ1 _ H1 (.refl n1.rep) (it_zipT q1 q3 q2 q4)⟩⟩
          | _ => exact h1.elim
        | _ => cases r2 <;> exact h1.elim
end
end DL
set_option Elab.async false
set_option linter.all false
set_option maxRecDepth 100000
set_option maxHeartbeats 4000000
/-! Walks over dicts: the dict is locked while it is walked (own work). -/
namespace DL
open PySem PySem.Spec PyProof.Rows L2
/-- no lock of the caller's -/
def NoF (X : Cx) (d : Addr) : Prop := ∀ o' u', X.H_0 d ≠ some (.frz o' u')
/-- the statement may lock one thing; it is unlocked at its end -/
def unl (X : Cx) (Dn : Ends) : Ends := ⟨fun σ H => ∃ d od u, H d = some (.frz od u) ∧ NoF X d ∧ Dn.nx σ (upd H d u), fun v H => ∃ d od u, H d = some (.frz od u) ∧ NoF X d ∧ Dn.rt v (upd H d u),
  fun σ H => ∃ d od u, H d = some (.frz od u) ∧ NoF X d ∧ Dn.bk σ (upd H d u), fun σ H => ∃ d od u, H d = some (.frz od u) ∧ NoF X d ∧ Dn.ct σ (upd H d u)⟩
theorem ps_unl {X : Cx} {st : Stmt} {t : TS} (h : PS X st t) : PS X st (fun Dn σ H => t (unl X Dn) σ H) := by
  refine ⟨fun pins s σ H Dn I hw => ?_⟩
  refine thn (h.run pins s σ _ _ I hw) fun f s1 q => ?_
  cases f with
  | next => obtain ⟨σ', H', I2, d, od, u, e, nf, q⟩ := q; exact ⟨σ', _, I2.unlock e nf, q⟩
  | brk => obtain ⟨σ', H', I2, d, od, u, e, nf, q⟩ := q; exact ⟨σ', _, I2.unlock e nf, q⟩
  | cont => obtain ⟨σ', H', I2, d, od, u, e, nf, q⟩ := q; exact ⟨σ', _, I2.unlock e nf, q⟩
  | ret v => obtain ⟨x, σ', H', I2, r, d, od, u, e, nf, q⟩ := q; exact ⟨x, σ', _, I2.unlock e nf, r, q⟩
def iKeysL (X : Cx) (td : TE) : TI := fun σ H R => td σ H fun x H1 => ∃ d kvs, x = .ref d ∧ H1 d = some (.dK kvs) ∧ ∀ o, NoF X d → R (Itk d o kvs) (upd H1 d (.frz o (.dK kvs)))
def iItemsL (X : Cx) (td : TE) : TI := fun σ H R => td σ H fun x H1 => ∃ d kvs, x = .ref d ∧ H1 d = some (.dK kvs) ∧ ∀ o, NoF X d → R (Iti d o kvs) (upd H1 d (.frz o (.dK kvs)))
section
variable {X : Cx} {tg e : Expr} {td : TE} {apos cpos : Pos}
theorem pi_keysL (he : PE X e td) : PI X tg e (iKeysL X td) := by
  refine ⟨fun pins s σ H R I h => ?_⟩
  refine thn (he.run pins s σ H _ I h) fun u s1 ⟨x, H1, I1, rx, d, kvs, ex, hd0, q⟩ => ?_
  subst ex
  obtain rfl : u = Value.ref d := rx
  have nf := I1.nofrz hd0 trivial
  obtain ⟨o, I2⟩ := I1.lock hd0 trivial
  obtain ⟨hs, hgd, hx, es, ep, vs, hdt, hsz, kv, hm⟩ := I2.frzK (upd_same (H := H1))
  refine iter_keys hs hgd hx hdt (pi_one (tk := s1.toks) I2 _ (turn_keys _ hdt) ⟨_, Heap.get?_push_size _ rfl, rfl, ?_⟩ (q o nf))
  rw [hsz] <;> rfl
theorem pi_itemsL {elts : List Expr} {kk : Nat} {tpos : Pos} (he : PE X e td) (hbase : attributeBase e "items" X.env (eval e X.env) = eval e X.env := by rfl) (hline : (apos.endLine == cpos.line) = true := by rfl) :
    PI X (.Tuple elts kk tpos) (.Call (.Attribute e "items" apos) [] [] cpos) (iItemsL X td) := by
  refine ⟨fun pins s σ H R I h => ?_⟩
  refine wpAny_Call_method (T := "dict") (id := "dict.items") hbase rfl hline F.plainAttrs_dict F.slot_dict_items F.type_dict_items (thn (he.run pins s σ H _ I h) fun u s1 ⟨x, H1, I0, rx, d, kvs, ex, hd0, q⟩ => ?_)
  subst ex
  obtain rfl : u = Value.ref d := rx
  have nf := I0.nofrz hd0 trivial
  obtain ⟨o, I1⟩ := I0.lock hd0 trivial
  obtain ⟨hs, hgd, hx, es, ep, vs, hdt, hsz, kv, hm⟩ := I1.frzK (upd_same (H := H1))
  have hl : kvs.length = vs.length := Paired.length kv
  refine ⟨hm.dictOf.typeIs, hm.dictOf.mapOf.noDict, ?_⟩
  have I2 : Inv X pins σ (upd H1 d (.frz o (.dK kvs))) { s1 with heap := s1.heap.push { cls := .type "dict_items", data := .fields #[.ref d] } } := I1.kept (t' := s1.toks) fun b ob q => Heap.get?_push_of_some _ q
  have fin : wpAny (model X.prog X.w) X.A (pyIter (.ref s1.heap.objs.size)) (PIE X pins σ (.Tuple elts kk tpos) R) X.xe { s1 with heap := s1.heap.push { cls := .type "dict_items", data := .fields #[.ref d] } } := by
    refine wpAny_pyIter_items (d := d) (knd := mixKind X.prog X.w) ⟨_, Heap.get?_push_size _ rfl, rfl, rfl⟩ (hm.push _) (pi_one (tk := s1.toks) I2 _ (turn_items _ hdt) ⟨.none, .none, ?_⟩ (q o nf))
    rw [hl]
    exact Heap.get?_push_size _ rfl
  show wpAny _ _ (callWith cpos (.builtin "dict.items") [.ref d] [] []) _ X.xe s1
  exact method_meetsIn F.slot_dict_items F.entry_dict_items rfl (PySem.evalArgs_none ⟨rfl, hm.dictOf.typeIs, F.args_dict_items_1 _, _, meets_dict_items (mixKind X.prog X.w) d hs, ⟨vs, hm.dictOf⟩, fin⟩)
end
/-! ### the plain loop -/
def unO (i : Nat) (A : AH) : Option O → Option AH
  | some (.fro kvs) => some (A.set i (.dic kvs))
  | _ => none
def unA (i : Nat) (A : AH) : Option AH := unO i A A[i]?
def unN (E : Env) : Option AH → SRes
  | some A => .nx E A
  | none => .bad
def unR (d : D) : Option AH → SRes
  | some A => .rt d A
  | none => .bad
def unS (i : Nat) : SRes → SRes
  | .nx E A => unN E (unA i A)
  | .rt d A => unR d (unA i A)
  | .exc x E A => .exc x E A
  | _ => .bad
def keysOf (kvs : List (D × D)) : List D := kvs.map (·.1)
def pairsOf (kvs : List (D × D)) : List D := kvs.map fun p => .tup [p.1, p.2]
def forDO (f : List (D × D) → List D) (g : Gx) (b : Sx) (E : Env) (i : Nat) (A : AH) : Option O → SRes
  | some (.dic kvs) => unS i (forN (.seq (f kvs)) g b (kvs.length + 1) 0 E (A.set i (.fro kvs)))
  | _ => .bad
def forD (f : List (D × D) → List D) (g : Gx) (b : Sx) (E : Env) : D → AH → SRes
  | .ref i, A => forDO f g b E i A A[i]?
  | _, _ => .bad
def sForK (e : Ex) (g : Gx) (b : Sx) : Sx := fun E A => (e E A).then E (forD keysOf g b E)
def sForI (e : Ex) (g : Gx) (b : Sx) : Sx := fun E A => (e E A).then E (forD pairsOf g b E)
/-! ### it says so -/
theorem keyD_val {ρ : Nat → Addr} {n : Nat} {H : Hp} {d : D} {k : Key} (h : keyD d = some k) : RepV ρ n H d (kV k) := by
  cases d with
  | int i => cases h; exact .int i
  | str x => cases h; exact .str x
  | _ => cases h
theorem RepK.get {κ : Type} {kf : D → Option κ} {ρ : Nat → Addr} {n : Nat} {H : Hp} : ∀ {fs : List (D × D)} {gs : List (κ × V)} {i : Nat} {p : D × D}, RepK kf ρ n H fs gs → fs[i]? = some p → ∃ x v, gs[i]? = some (x, v) ∧ kf p.1 = some x ∧ RepV ρ n H p.2 v
  | [], _, _, _, .nil, e => by simp at e
  | (k, d) :: fs, (x, v) :: gs, 0, _, .cons a b _, e => by
    simp at e; subst e; exact ⟨x, v, by simp, a, b⟩
  | _ :: fs, _ :: gs, i + 1, p, .cons a b c, e => by
    obtain ⟨x, v, h1, h2⟩ := RepK.get (i := i) c (by simpa using e)
    exact ⟨x, v, by simpa using h1, h2⟩
section
variable {K : PySem.W.Frag} {ρ ρ' : Nat → Addr} {A B C : AH} {H H1 H' : Hp} {i : Nat} {kvs kvs' : List (D × D)} {gs gs' : List (Key × V)} {ob : Obj}
theorem it_keys (hl : i < A.length) (hf : H (ρ i) = some (.frz ob (.dK gs))) (r : RepK keyD ρ A.length H kvs gs) : ItOk K ρ A H (.seq (keysOf kvs)) (Itk (ρ i) ob gs) := fun ρ1 B H1 n j => by
  have f1 := n.ext.frzs _ _ _ hf
  have r1 := r.ext n.ext
  show match stepO (keysOf kvs)[j]? with | .item d => _ | .stop => _ | .bad => _
  unfold keysOf
  rw [List.getElem?_map]
  cases z : kvs[j]? with
  | none => exact ⟨f1, by rw [← r1.len]; exact List.getElem?_eq_none_iff.mp z⟩
  | some p =>
    obtain ⟨x, v, h1, h2, h3⟩ := r1.get z
    refine ⟨⟨f1, (List.getElem?_eq_some_iff.mp h1).1⟩, fun y H2 q => ?_⟩
    obtain ⟨e1, k, w, e2, e3⟩ := q
    subst e1 e3
    rw [h1] at e2
    cases e2
    exact ⟨Same.rfl, keyD_val h2⟩
theorem it_items (hl : i < A.length) (hf : H (ρ i) = some (.frz ob (.dK gs))) (r : RepK keyD ρ A.length H kvs gs) : ItOk K ρ A H (.seq (pairsOf kvs)) (Iti (ρ i) ob gs) := fun ρ1 B H1 n j => by
  have f1 := n.ext.frzs _ _ _ hf
  have r1 := r.ext n.ext
  show match stepO (pairsOf kvs)[j]? with | .item d => _ | .stop => _ | .bad => _
  unfold pairsOf
  rw [List.getElem?_map]
  cases z : kvs[j]? with
  | none => exact ⟨f1, by rw [← r1.len]; exact List.getElem?_eq_none_iff.mp z⟩
  | some p =>
    obtain ⟨x, v, h1, h2, h3⟩ := r1.get z
    refine ⟨⟨f1, (List.getElem?_eq_some_iff.mp h1).1⟩, fun y H2 q => ?_⟩
    obtain ⟨T, k, w, e2, e3, e4, e5⟩ := q
    subst e3 e5
    rw [h1] at e2
    cases e2
    have sm : Same H1 (upd H1 T (.tup [kV x, v])) := same_upd e4
    exact ⟨sm, .tup upd_same (.cons (keyD_val h2) (.cons (h3.ext (Nxt.same n.rep sm).ext) .nil))⟩
/-- the dict is locked -/
theorem Nxt.lock (R : RepA K ρ H A) (h : A[i]? = some (.dic kvs)) (q1 : H (ρ i) = some (.dK gs)) (q2 : RepK keyD ρ A.length H kvs gs) (ob : Obj) : Nxt K ρ A H ρ (A.set i (.fro kvs)) (upd H (ρ i) (.frz ob (.dK gs))) :=
  Nxt.set R h rfl rfl fun ex => ⟨ob, gs, upd_same, q2.ext ex⟩
/-- .. and unlocked -/
theorem Nxt.unlock (h : A[i]? = some (.dic kvs)) (q1 : H (ρ i) = some (.dK gs)) (n0 : Nxt K ρ A H ρ B H1) (n : Nxt K ρ B H1 ρ' C H') (hC : C[i]? = some (.fro kvs')) :
    ∃ (ob : Obj) (gs' : List (Key × V)), H' (ρ i) = some (.frz ob (.dK gs')) ∧ Nxt K ρ A H ρ' (C.set i (.dic kvs')) (upd H' (ρ i) (.dK gs')) := by
  have t := n0.trans n
  have ei : ρ' i = ρ i := t.ext.same i (lt_of_get h)
  obtain ⟨ob, gs', c1, c2⟩ := n.rep.objs i _ hC
  rw [ei] at c1
  refine ⟨ob, gs', c1, ⟨by rw [List.length_set]; exact t.ext.le, t.ext.same, fun a vs e => ?_, fun a o u e => ?_⟩, ?_⟩
  · have ne : a ≠ ρ i := fun z => by rw [z, q1] at e; cases e
    rw [upd_ne ne]
    exact t.ext.tups a vs e
  · have ne : a ≠ ρ i := fun z => by rw [z, q1] at e; cases e
    rw [upd_ne ne]
    exact t.ext.frzs a o u e
  · rw [← ei]
    refine n.rep.set hC rfl rfl ⟨gs', upd_same, RepK.hp (fun a vs e => ?_) c2⟩
    rw [upd_ne fun z => by rw [z, ei, c1] at e; cases e]
    exact e
end
section
variable {X : Cx} {W : WX} {ρ ρ1 : Nat → Addr} {A B : AH} {H H1 : Hp} {i : Nat} {kvs : List (D × D)} {gs : List (Key × V)}
theorem PostS.un {r : SRes} {Dn : Ends} (nf : NoF X (ρ i)) (h : A[i]? = some (.dic kvs)) (q1 : H (ρ i) = some (.dK gs)) (n0 : Nxt X.K ρ A H ρ1 B H1) (e0 : ∀ j, j < A.length → ρ1 j = ρ j) (hp : PostS X.K W ρ A H (unS i r) Dn) : PostS X.K W ρ1 B H1 r (unl X Dn) := by
  have key : ∀ {ρ' : Nat → Addr} {C : AH} {H' : Hp}, Nxt X.K ρ1 B H1 ρ' C H' → ∀ {C2 : AH}, unA i C = some C2 → ∃ (ob : Obj) (gs' : List (Key × V)), H' (ρ i) = some (.frz ob (.dK gs')) ∧ Nxt X.K ρ A H ρ' C2 (upd H' (ρ i) (.dK gs')) ∧ C2.length = C.length := by
    intro ρ' C H' n C2 hu
    unfold unA at hu
    cases z : C[i]? with
    | none => rw [z] at hu; cases hu
    | some o =>
      rw [z] at hu
      cases o with
      | fro kvs' =>
        cases hu
        have t := n0.trans n
        have ei : ρ' i = ρ i := t.ext.same i (lt_of_get h)
        obtain ⟨ob, gs', c1, c2⟩ := n.rep.objs i _ z
        rw [ei] at c1
        refine ⟨ob, gs', c1, ⟨⟨by rw [List.length_set]; exact t.ext.le, t.ext.same, fun a vs e => ?_, fun a o u e => ?_⟩, ?_⟩, List.length_set⟩
        · have ne : a ≠ ρ i := fun z => by rw [z, q1] at e; cases e
          rw [upd_ne ne]
          exact t.ext.tups a vs e
        · have ne : a ≠ ρ i := fun z => by rw [z, q1] at e; cases e
          rw [upd_ne ne]
          exact t.ext.frzs a o u e
        · rw [← ei]
          refine n.rep.set z rfl rfl ⟨gs', upd_same, RepK.hp (fun a vs e => ?_) c2⟩
          rw [upd_ne fun z => by rw [z, ei, c1] at e; cases e]
          exact e
      | _ => cases hu
  have tpp : ∀ {H' : Hp} {ob : Obj} {gs' : List (Key × V)}, H' (ρ i) = some (.frz ob (.dK gs')) → ∀ a vs, H' a = some (.tup vs) → upd H' (ρ i) (.dK gs') a = some (.tup vs) := fun c a vs e => by
    rw [upd_ne fun z => by rw [z, c] at e; cases e]
    exact e
  cases r with
  | nx E C =>
    intro ρ' σ H' n r
    have h2 : PostS X.K W ρ A H (unN E (unA i C)) Dn := hp
    cases z : unA i C with
    | none => rw [z] at h2; exact h2.elim
    | some C2 =>
      rw [z] at h2
      obtain ⟨ob, gs', c1, c2, c3⟩ := key n z
      refine ⟨ρ i, ob, _, c1, nf, h2 ρ' σ _ c2 ⟨r.len, fun j d hj => ?_⟩⟩
      obtain ⟨v, v1, v2⟩ := r.get j d hj
      exact ⟨v, v1, by rw [c3]; exact RepV.hp (tpp c1) v2⟩
  | rt d C =>
    intro ρ' v H' n r
    have h2 : PostS X.K W ρ A H (unR d (unA i C)) Dn := hp
    cases z : unA i C with
    | none => rw [z] at h2; exact h2.elim
    | some C2 =>
      rw [z] at h2
      obtain ⟨ob, gs', c1, c2, c3⟩ := key n z
      exact ⟨ρ i, ob, _, c1, nf, h2 ρ' v _ c2 (by rw [c3]; exact RepV.hp (tpp c1) r)⟩
  | exc x E C =>
    intro ρ' c d σ H' n r q
    have h2 : PostS X.K W ρ A H (.exc x E C) Dn := hp
    exact h2 ρ' c d σ H' (n0.trans n) r q
  | bk E C => exact hp.elim
  | ct E C => exact hp.elim
  | bad => exact hp.elim
end
section
variable {X : Cx} {W : WX} {k : Nat} {pos apos cpos : Pos} {tg e : Expr} {body : List Stmt} {g : Gx} {m : Sx} {me : Ex}
/-- the loop itself, the thing being locked -/
theorem forD_run {σ : Sl} {f : List (D × D) → List D} {J : It} {ρ1 : Nat → Addr} {E : Env} {B : AH} {H1 : Hp} {i : Nat} {kvs : List (D × D)} {gs : List (Key × V)} {o : Obj} {Dn : Ends} (nf : NoF X (ρ1 i)) (RB : RepA X.K ρ1 H1 B) (hE : RepE ρ1 B.length H1 E σ) (z : B[i]? = some (.dic kvs)) (q1 : H1 (ρ1 i) = some (.dK gs)) (q2 : RepK keyD ρ1 B.length H1 kvs gs)
    (itok : ItOk X.K ρ1 (B.set i (.fro kvs)) (upd H1 (ρ1 i) (.frz o (.dK gs))) (.seq (f kvs)) J) (h2 : PostS X.K W ρ1 B H1 (unS i (forN (.seq (f kvs)) g m (kvs.length + 1) 0 E (B.set i (.fro kvs)))) Dn) :
    ∃ Wf : Nat → Nat → Sl → Hp → Prop, (∃ m, Wf 0 m σ (upd H1 (ρ1 i) (.frz o (.dK gs)))) ∧ ∀ i2 m2 σ2 H2, Wf i2 m2 σ2 H2 → (J.stop i2 H2 ∧ (unl X Dn).nx σ2 H2) ∨ (J.go i2 H2 ∧ ∃ Nx : Sl → Hp → Prop, (∀ σ' H', Nx σ' H' → ∃ m', m' < m2 ∧ Wf (i2 + 1) m' σ' H') ∧
      ∀ x H', J.yld i2 H2 x H' → tG X.K W g x σ2 H' fun σ3 H3 => tS X.K W m { (unl X Dn) with nx := Nx, ct := Nx, bk := (unl X Dn).nx } σ3 H3) := by
  have n0 := Nxt.lock RB z q1 q2 o
  have h3 := PostS.un (X := X) (W := W) nf z q1 n0 (fun _ _ => rfl) h2
  refine ⟨fun i2 m' σ' H' => ∃ ρ2 E2 A2, RepE ρ2 A2.length H' E2 σ' ∧ Nxt X.K ρ1 (B.set i (.fro kvs)) (upd H1 (ρ1 i) (.frz o (.dK gs))) ρ2 A2 H' ∧ PostS X.K W ρ2 A2 H' (forN (.seq (f kvs)) g m m' i2 E2 A2) (unl X Dn), ⟨kvs.length + 1, ρ1, E, _, hE.ext n0.ext, .refl n0.rep, h3⟩, ?_⟩
  rintro i2 n σ2 H2 ⟨ρ2, E2, A2, e2, n2, h2⟩
  cases n with
  | zero => exact h2.elim
  | succ n =>
    have h3 : PostS X.K W ρ2 A2 H2 (forK g m (forN (.seq (f kvs)) g m n (i2 + 1)) E2 A2 (Src.at A2 i2 (.seq (f kvs)))) (unl X Dn) := h2
    have io := itok ρ2 A2 H2 n2 i2
    cases z : Src.at A2 i2 (.seq (f kvs)) with
    | stop =>
      rw [z] at h3 io
      exact .inl ⟨io, h3 ρ2 σ2 H2 (.refl n2.rep) e2⟩
    | bad =>
      rw [z] at h3
      exact h3.elim
    | item d =>
      rw [z] at h3 io
      refine .inr ⟨io.1, _, fun σ' H' q => ⟨n, Nat.lt_succ_self _, q⟩, fun x H3 y => ?_⟩
      obtain ⟨sm, rv⟩ := io.2 x H3 y
      have n3 := Nxt.same n2.rep sm
      refine ⟨ρ2, E2, A2, d, e2.ext n3.ext, n3.rep, rv, PostG.turn (PostS.later h3 n3) fun ρ4 E4 A4 σ4 H4 n4 e4 h4 => ⟨ρ4, E4, A4, e4, n4.rep, PostS.turn h4 fun ρ5 E5 A5 σ5 H5 n5 e5 h5 => ?_⟩⟩
      exact ⟨ρ5, E5, A5, e5, n2.trans (n3.trans (n4.trans n5)), h5⟩
theorem rs_forK (cx : Ctx X W k) (he : RE X W e me) (hg : RG X W tg g) (hb : RSs X W body m) (hs : ∀ x, foldedSetIterable e X.env x = pure x := by intro _; rfl) : RS X W (.For tg e body [] pos) (sForK me g m) := by
  refine PS.imp (ps_unl (ps_for cx.po cx.calm (pi_keysL he) hg hb hs)) fun Dn σ H ⟨ρ, E, A, hE, hA, h⟩ => ⟨ρ, E, A, hE, hA, PostS.then hE h fun ρ1 d B v H1 n1 r1 h1 => ?_⟩
  cases r1 with
  | @ref i hi =>
    have h2 : PostS X.K W ρ1 B H1 (forDO keysOf g m E i B B[i]?) Dn := h1
    cases z : B[i]? with
    | none => rw [z] at h2; exact h2.elim
    | some ob =>
      rw [z] at h2
      cases ob with
      | dic kvs =>
        obtain ⟨gs, q1, q2⟩ := n1.rep.objs i _ z
        refine ⟨ρ1 i, gs, rfl, q1, fun o nf => ?_⟩
        have n0 := Nxt.lock n1.rep z q1 q2 o
        exact forD_run (W := W) (f := keysOf) nf n1.rep (hE.ext n1.ext) z q1 q2 (it_keys (by rw [List.length_set]; exact hi) upd_same (by rw [List.length_set]; exact RepK.hp n0.ext.tups q2)) h2
      | _ => exact h2.elim
  | _ => exact h1.elim
theorem rs_forI {elts : List Expr} {kk : Nat} {tpos : Pos} (cx : Ctx X W k) (he : RE X W e me) (hg : RG X W (.Tuple elts kk tpos) g) (hb : RSs X W body m) (hbase : attributeBase e "items" X.env (eval e X.env) = eval e X.env := by rfl) (hline : (apos.endLine == cpos.line) = true := by rfl)
    (hs : ∀ x, foldedSetIterable (.Call (.Attribute e "items" apos) [] [] cpos) X.env x = pure x := by intro _; rfl) : RS X W (.For (.Tuple elts kk tpos) (.Call (.Attribute e "items" apos) [] [] cpos) body [] pos) (sForI me g m) := by
  refine PS.imp (ps_unl (ps_for cx.po cx.calm (pi_itemsL he hbase hline) hg hb hs)) fun Dn σ H ⟨ρ, E, A, hE, hA, h⟩ => ⟨ρ, E, A, hE, hA, PostS.then hE h fun ρ1 d B v H1 n1 r1 h1 => ?_⟩
  cases r1 with
  | @ref i hi =>
    have h2 : PostS X.K W ρ1 B H1 (forDO pairsOf g m E i B B[i]?) Dn := h1
    cases z : B[i]? with
    | none => rw [z] at h2; exact h2.elim
    | some ob =>
      rw [z] at h2
      cases ob with
      | dic kvs =>
        obtain ⟨gs, q1, q2⟩ := n1.rep.objs i _ z
        refine ⟨ρ1 i, gs, rfl, q1, fun o nf => ?_⟩
        have n0 := Nxt.lock n1.rep z q1 q2 o
        exact forD_run (W := W) (f := pairsOf) nf n1.rep (hE.ext n1.ext) z q1 q2 (it_items (by rw [List.length_set]; exact hi) upd_same (by rw [List.length_set]; exact RepK.hp n0.ext.tups q2)) h2
      | _ => exact h2.elim
  | _ => exact h1.elim
end
end DL
set_option Elab.async false
set_option linter.all false
set_option maxRecDepth 100000
set_option maxHeartbeats 4000000
/-! Further operations: d.get(k, x), dicts compared, dict(pairs), list(d), max, min of more, len(set(l)), o.f op= e, {k: v} (own work). -/
namespace DL
open PySem PySem.Spec PyProof.Rows L2
theorem CallR.or {X : Cx} {f : Value} {r r' : List V → Hp → VK → Prop} (a : CallR X f r) (b : CallR X f r') : CallR X f (fun xs H Q => r xs H Q ∨ r' xs H Q) := fun pins s σ H xs us Q I rv h => by
  rcases h with h | h
  · exact a pins s σ H xs us Q I rv h
  · exact b pins s σ H xs us Q I rv h
theorem OkL.or {K : PySem.W.Frag} {r r' : List V → Hp → VK → Prop} {F G C : Fn} (a : OkL K r F) (b : OkL K r' G) (hC : ∀ ds A, C ds A = F ds A ∨ C ds A = G ds A) : OkL K (fun xs H Q => r xs H Q ∨ r' xs H Q) C := fun W ρ A σ H ds vs Q hA rv h => by
  rcases hC ds A with z | z
  · rw [z] at h; exact .inl (a W ρ A σ H ds vs Q hA rv h)
  · rw [z] at h; exact .inr (b W ρ A σ H ds vs Q hA rv h)
/-! ### d.get(k, x) -/
def get2O (A : AH) (k d : D) : Option O → Res D
  | some (.dic kvs) => if (keyD k).isSome = true then .ok ((valF keyD kvs k).getD d) A else .bad
  | _ => .bad
def get2D (x k d : D) (A : AH) : Res D := match x with
  | .ref i => get2O A k d A[i]?
  | _ => .bad
def kGc (x y : D) : D → AH → Res D := fun z A => get2D x y z A
def kGb (d : Ex) (E : Env) (x : D) : D → AH → Res D := fun y A => (d E A).bind (kGc x y)
def isDicO : Option O → Bool
  | some (.dic _) => true
  | _ => false
def isDic (A : AH) : D → Bool
  | .ref i => isDicO A[i]?
  | _ => false
def kGa (k d : Ex) (E : Env) : D → AH → Res D := fun x A => if isDic A x = true then (k E A).bind (kGb d E x) else .bad
def eGet2 (o k d : Ex) : Ex := fun E A => (o E A).bind (kGa k d E)
theorem dic_at {K : PySem.W.Frag} {ρ : Nat → Addr} {A : AH} {H : Hp} {x : D} {v : V} (hA : RepA K ρ H A) (r : RepV ρ A.length H x v) (h : isDic A x = true) : ∃ i kvs gs, x = .ref i ∧ v = .ref (ρ i) ∧ A[i]? = some (.dic kvs) ∧ H (ρ i) = some (.dK gs) ∧ RepK keyD ρ A.length H kvs gs := by
  cases r with
  | @ref i hi =>
    have h' : isDicO A[i]? = true := h
    cases z : A[i]? with
    | none => rw [z] at h'; cases h'
    | some o =>
      rw [z] at h'
      cases o with
      | dic kvs =>
        obtain ⟨gs, q1, q2⟩ := hA.objs i _ z
        exact ⟨i, kvs, gs, rfl, rfl, z, q1, q2⟩
      | _ => cases h'
  | _ => cases h
section
variable {X : Cx} {W : WX} {k : Nat} {pos apos cpos : Pos} {o e f : Expr} {mo me mf : Ex}
theorem re_get2 (cx : Ctx X W k) (ho : RE X W o mo) (he : RE X W e me) (hf : RE X W f mf) (m : M2 X o "get" apos e f cpos := by exact ⟨by rfl, by rfl, by rfl, by rfl⟩) : RE X W (.Call (.Attribute o "get" apos) [e, f] [] cpos) (eGet2 mo me mf) := by
  refine PE.imp (pe_dget2 cx.u1 ho he hf m) fun σ H Q ⟨ρ, E, A, hE, hA, h⟩ => ⟨ρ, E, A, hE, hA, Post.bind h fun ρ1 x B v H1 n1 r1 h1 => ?_⟩
  have h2 : Post X.K W RepV ρ1 B σ H1 (if isDic B x = true then (me E B).bind (kGb mf E x) else .bad) Q := h1
  by_cases z : isDic B x = true
  · rw [if_pos z] at h2
    obtain ⟨i, kvs, gs, ex, ev, zi, q1, q2⟩ := dic_at n1.rep r1 z
    subst ex ev
    refine ⟨ρ1 i, rfl, .inl ⟨gs, .inl q1⟩, ρ1, E, B, hE.ext n1.ext, n1.rep, Post.bind h2 fun ρ2 y B2 u H2 n2 r2 h3 => ?_⟩
    have h3' : Post X.K W RepV ρ2 B2 σ H2 ((mf E B2).bind (kGc (.ref i) y)) Q := h3
    refine ⟨ρ2, E, B2, (hE.ext n1.ext).ext n2.ext, n2.rep, Post.bind h3' fun ρ3 z3 B3 w H3 n3 r3 h4 => ?_⟩
    have h5 : Post X.K W RepV ρ3 B3 σ H3 (get2O B3 y z3 B3[i]?) Q := h4
    have r1' : RepV ρ3 B3.length H3 (.ref i) (.ref (ρ1 i)) := (r1.ext n2.ext).ext n3.ext
    cases t : B3[i]? with
    | none => rw [t] at h5; exact h5.elim
    | some ob =>
      rw [t] at h5
      cases ob with
      | dic kvs3 =>
        obtain ⟨gs3, g1, g2⟩ := n3.rep.objs i _ t
        have ei : ρ3 i = ρ1 i := by rw [n3.ext.same i (Nat.lt_of_lt_of_le (lt_of_get zi) n2.ext.le), n2.ext.same i (lt_of_get zi)]
        rw [ei] at g1
        have h6 : Post X.K W RepV ρ3 B3 σ H3 (if (keyD y).isSome = true then .ok ((valF keyD kvs3 y).getD z3) B3 else .bad) Q := h5
        cases yk : keyD y with
        | none => rw [yk] at h6; exact h6.elim
        | some key =>
          rw [yk, if_pos (show (some key).isSome = true from rfl)] at h6
          refine ⟨valV gs3 key, ?_, ?_⟩
          · rw [keyD_rep yk (r2.ext n3.ext)]
            exact DGet.k g1
          · cases t2 : valF keyD kvs3 y with
            | none =>
              rw [t2] at h6
              rw [(g2.val yk).2 t2]
              exact post_val n3.rep h6 r3
            | some c =>
              rw [t2] at h6
              obtain ⟨w2, w3, w4⟩ := (g2.val yk).1 c t2
              rw [w3]
              exact post_val n3.rep h6 w4
      | _ => exact h5.elim
  · rw [if_neg z] at h2
    exact h2.elim
end
/-! ### dicts compared -/
def eqPs (A : AH) (ls : List (D × D)) : List (D × D) → Option Bool
  | [] => some true
  | p :: r => match valF keyD ls p.1 with
    | none => some false
    | some u => match toPy A 60 p.2, toPy A 60 u, eqPs A ls r with
      | some a, some b, some c => some (PyData.eqv a b && c)
      | _, _, _ => none
def okB (A : AH) (f : Bool → Bool) : Option Bool → Res D
  | some b => .ok (.bl (f b)) A
  | none => .bad
def eqDO (A : AH) (f : Bool → Bool) : Option O → Option O → Res D
  | some (.dic ks), some (.dic ls) => okB A (fun b => f (ks.length == ls.length && b)) (eqPs A ls ks)
  | _, _ => .bad
def eqDD (f : Bool → Bool) : Fn
  | [.ref i, .ref j], A => eqDO A f A[i]? A[j]?
  | _, _ => .bad
def opEqX : Fn
  | [x, y], A => if isDic A x = true then eqDD id [x, y] A else opEq [x, y] A
  | _, _ => .bad
def opNeX : Fn
  | [x, y], A => if isDic A x = true then eqDD not [x, y] A else opNe [x, y] A
  | _, _ => .bad
inductive HitsV (K : PySem.W.Frag) (H : Hp) (ls : List (Key × V)) : List (Key × V) → Bool → Prop
  | nil : HitsV K H ls [] true
  | miss {k : Key} {v : V} {r : List (Key × V)} : valV ls k = none → HitsV K H ls ((k, v) :: r) false
  | hit {k : Key} {v u : V} {r : List (Key × V)} {a b : PyData} {c : Bool} : valV ls k = some u → Dp K H v a → Dp K H u b → SeqAt.shaped a = true → SeqAt.shaped b = true → HitsV K H ls r c → HitsV K H ls ((k, v) :: r) (PyData.eqv a b && c)
def rEqDD (K : PySem.W.Frag) (f : Bool → Bool) : R2 := fun x y H Q => ∃ a b ks ls c, x = .ref a ∧ y = .ref b ∧ H a = some (.dK ks) ∧ H b = some (.dK ls) ∧ HitsV K H ls ks c ∧ Q (.bl (f (ks.length == ls.length && c))) H
section
variable {X : Cx} {pins : List (Addr × Obj)} {σ : L2.St} {H : Hp} {s : Shared}
theorem hitsV_run (I : Inv X pins σ H s) {A : Around} (hu : A.in1.units + 64 < cLine) {ls : List (Key × V)} {vb : List (Key × Value)} (rb : KV ls vb) : ∀ {ks : List (Key × V)} {va : List (Key × Value)} {c : Bool}, KV ks va → HitsV X.K H ls ks c → PySem.W.KeqHits A.in1 s vb va c := by
  intro ks va c ra
  unfold KV at ra
  induction ra generalizing c with
  | nil => intro h; cases h; exact .nil
  | @cons p q ps qs h t k =>
    obtain ⟨h1, h2⟩ := h
    obtain ⟨pk, pv⟩ := p
    obtain ⟨qk, qv⟩ := q
    have h1' : pk = qk := h1
    subst h1'
    intro hh
    cases hh with
    | miss hn =>
      have rr := rb.val pk
      rw [hn] at rr
      refine .miss ?_
      cases z : valueAt vb pk with
      | none => rfl
      | some y => rw [z] at rr; exact rr.elim
    | @hit _ _ u _ a b c' hu' da db sa sb hr =>
      have rr : RelO (some u) (valueAt vb pk) := by rw [← hu']; exact rb.val pk
      obtain ⟨y, hy, ry⟩ := rr.some_of
      obtain ⟨as, r1⟩ := Dp.reads I a pv qv da h2
      obtain ⟨bs, r2⟩ := Dp.reads I b u y db ry
      exact .hit hy (PySem.W.keq_at r1 r2 sa sb hu) (k hr)
theorem op_eqDD (hu : X.A.units + 65 < cLine) : OpR X (compareOp .Eq) (rEqDD X.K id) := by
  intro pins s σ H x y v u Q I rx ry h
  obtain ⟨a, b, ks, ls, c, rfl, rfl, ea, eb, hp, q⟩ := h
  obtain rfl : v = Value.ref a := rx
  obtain rfl : u = Value.ref b := ry
  obtain ⟨_, ya, va, ra, da⟩ := (show ObjOk X.prog X.w H s.heap a (.dK ks) from I.hok a _ ea)
  obtain ⟨_, yb, vb, rb, db⟩ := (show ObjOk X.prog X.w H s.heap b (.dK ls) from I.hok b _ eb)
  refine PySem.W.keq_eq (knd := mixKind X.prog X.w) (r := c) ya yb da db (by omega) (fun _ => hitsV_run I (by show X.A.units + 1 + 64 < cLine; omega) rb ra hp) ⟨.bl (va.length == vb.length && c), H, I, rfl, ?_⟩
  rw [← ra.length, ← rb.length]
  exact q
theorem op_neDD (hu : X.A.units + 65 < cLine) : OpR X (compareOp .NotEq) (rEqDD X.K not) := by
  intro pins s σ H x y v u Q I rx ry h
  obtain ⟨a, b, ks, ls, c, rfl, rfl, ea, eb, hp, q⟩ := h
  obtain rfl : v = Value.ref a := rx
  obtain rfl : u = Value.ref b := ry
  obtain ⟨_, ya, va, ra, da⟩ := (show ObjOk X.prog X.w H s.heap a (.dK ks) from I.hok a _ ea)
  obtain ⟨_, yb, vb, rb, db⟩ := (show ObjOk X.prog X.w H s.heap b (.dK ls) from I.hok b _ eb)
  refine PySem.W.keq_ne (knd := mixKind X.prog X.w) (r := c) ya yb da db (by omega) (fun _ => hitsV_run I (by show X.A.units + 1 + 64 < cLine; omega) rb ra hp) ⟨.bl (!(va.length == vb.length && c)), H, I, rfl, ?_⟩
  rw [← ra.length, ← rb.length]
  exact q
theorem eqPs_rep {K : PySem.W.Frag} {ρ : Nat → Addr} {A : AH} (hA : RepA K ρ H A) {ls : List (D × D)} {gl : List (Key × V)} (rl : RepK keyD ρ A.length H ls gl) : ∀ {ks : List (D × D)} {gs : List (Key × V)} {c : Bool}, eqPs A ls ks = some c → RepK keyD ρ A.length H ks gs → HitsV K H gl gs c
  | [], _, c, h, .nil => by cases h; exact .nil
  | (kd, d) :: ks, (x, v) :: gs, c, h, .cons a b t => by
    have h' : (match valF keyD ls kd with
      | none => some false
      | some u => match toPy A 60 d, toPy A 60 u, eqPs A ls ks with
        | some a, some b, some c => some (PyData.eqv a b && c)
        | _, _, _ => none) = some c := h
    cases z : valF keyD ls kd with
    | none =>
      rw [z] at h'
      cases h'
      exact .miss ((rl.val a).2 z)
    | some u =>
      rw [z] at h'
      obtain ⟨w, w1, w2⟩ := (rl.val a).1 u z
      cases y1 : toPy A 60 d with
      | none => simp only [y1] at h'; cases h'
      | some p1 =>
        cases y2 : toPy A 60 u with
        | none => simp only [y1, y2] at h'; cases h'
        | some p2 =>
          cases y3 : eqPs A ls ks with
          | none => simp only [y1, y2, y3] at h'; cases h'
          | some c' =>
            simp only [y1, y2, y3] at h'
            cases h'
            exact .hit w1 (toPy_dp hA 60 d v p1 y1 b) (toPy_dp hA 60 u w p2 y2 w2) (toPy_shaped y1) (toPy_shaped y2) (eqPs_rep hA rl y3 t)
theorem ok_eqDD (f : Bool → Bool) : Ok2 X.K (rEqDD X.K f) (eqDD f) := fun W ρ A σ H d e v u Q hA rd re h => by
  cases rd with
  | @ref i hi => cases re with
    | @ref j hj =>
      have h2 : Post X.K W RepV ρ A σ H (eqDO A f A[i]? A[j]?) Q := h
      cases z1 : A[i]? with
      | none => rw [z1] at h2; exact h2.elim
      | some o1 =>
        cases z2 : A[j]? with
        | none => rw [z1, z2] at h2; cases o1 <;> exact h2.elim
        | some o2 =>
          rw [z1, z2] at h2
          cases o1 with
          | dic ks => cases o2 with
            | dic ls =>
              have h3 : Post X.K W RepV ρ A σ H (okB A (fun b => f (ks.length == ls.length && b)) (eqPs A ls ks)) Q := h2
              obtain ⟨gs, q1, q2⟩ := hA.objs i _ z1
              obtain ⟨gl, q3, q4⟩ := hA.objs j _ z2
              cases y : eqPs A ls ks with
              | none => rw [y] at h3; exact h3.elim
              | some c =>
                rw [y] at h3
                refine ⟨ρ i, ρ j, gs, gl, c, rfl, rfl, q1, q3, eqPs_rep hA q4 y q2, ?_⟩
                rw [← q2.len, ← q4.len]
                exact post_val hA h3 (.bl _)
            | _ => exact h2.elim
          | _ => exact h2.elim
    | _ => exact h.elim
  | _ => exact h.elim
theorem op_eqA (hu : X.A.units + 65 < cLine) : OpR X (compareOp .Eq) (fun x y H Q => rEqDD X.K id x y H Q ∨ rEqD X.K x y H Q) := (op_eqDD hu).or (op_eqD (by omega))
theorem op_neA (hu : X.A.units + 65 < cLine) : OpR X (compareOp .NotEq) (fun x y H Q => rEqDD X.K not x y H Q ∨ rNeD X.K x y H Q) := (op_neDD hu).or (op_neD (by omega))
theorem ok_eqA : Ok2 X.K (fun x y H Q => rEqDD X.K id x y H Q ∨ rEqD X.K x y H Q) opEqX := (ok_eqDD id).or ok_eq fun d e A => by
  show (if isDic A d = true then _ else _) = _ ∨ (if isDic A d = true then _ else _) = _
  by_cases z : isDic A d = true
  · exact .inl (if_pos z)
  · exact .inr (if_neg z)
theorem ok_neA : Ok2 X.K (fun x y H Q => rEqDD X.K not x y H Q ∨ rNeD X.K x y H Q) opNeX := (ok_eqDD not).or ok_ne fun d e A => by
  show (if isDic A d = true then _ else _) = _ ∨ (if isDic A d = true then _ else _) = _
  by_cases z : isDic A d = true
  · exact .inl (if_pos z)
  · exact .inr (if_neg z)
end
/-! ### dict(pairs), list(d) -/
def pairD : D → Option (D × D)
  | .tup [k, v] => if (keyD k).isSome = true then some (k, v) else none
  | _ => none
def mergeF (kvs more : List (D × D)) : List (D × D) := more.foldl (fun acc p => putF' keyD acc p.1 p.2) kvs
def dicPO (A : AH) : Option (List (D × D)) → Res D
  | some ps => .ok (.ref A.length) (A ++ [.dic (mergeF [] ps)])
  | none => .bad
def dicLO (A : AH) : Option (List D) → Res D
  | some ds => dicPO A (allSome (ds.map pairD))
  | none => .bad
def biDictP : Fn
  | [.ref i], A => dicLO A (seqAt A i)
  | _, _ => .bad
def biDictX : Fn
  | [x], A => if isDic A x = true then biDict [x] A else biDictP [x] A
  | _, _ => .bad
def lstDO (A : AH) : Option O → Res D
  | some (.dic kvs) => .ok (.ref A.length) (A ++ [.lst (kvs.map (·.1))])
  | _ => .bad
def biListD : Fn
  | [.ref i], A => lstDO A A[i]?
  | _, _ => .bad
def biListX : Fn
  | [x], A => if isDic A x = true then biListD [x] A else biList [x] A
  | _, _ => .bad
section
variable {X : Cx} {ρ : Nat → Addr} {n : Nat} {H : Hp}
theorem RepK.merge : ∀ {more : List (D × D)} {gm : List (Key × V)} {kvs : List (D × D)} {gs : List (Key × V)}, RepK keyD ρ n H more gm → RepK keyD ρ n H kvs gs → RepK keyD ρ n H (mergeF kvs more) (mergeK gs gm)
  | [], _, _, _, .nil, h => h
  | p :: more, q :: gm, kvs, gs, .cons a b c, h => RepK.merge (kvs := putF' keyD kvs p.1 p.2) (gs := putK gs q.1 q.2) c (h.put a b)
theorem pairs_rep : ∀ {ds : List D} {ps : List (D × D)} {vs : List V}, ds.map pairD = ps.map some → RepVs ρ n H ds vs → ∃ (as : List Addr) (gm : List (Key × V)), vs = as.map V.ref ∧ RepK keyD ρ n H ps gm ∧ Paired (fun p kv => H p = some (.tup [kV kv.1, kv.2])) as gm
  | [], ps, _, h, .nil => by
    cases ps with
    | nil => exact ⟨[], [], rfl, .nil, .nil⟩
    | cons _ _ => cases h
  | d :: ds, ps, v :: vs, h, .cons r1 r2 => by
    cases ps with
    | nil => cases h
    | cons p ps =>
      rw [List.map_cons, List.map_cons] at h
      injection h with h1 h2
      obtain ⟨as, gm, e1, e2, e3⟩ := pairs_rep h2 r2
      cases r1 with
      | @tup a us es q1 q2 =>
        cases q2 with
        | nil => cases h1
        | cons s1 s2 => cases s2 with
          | nil => cases h1
          | cons s3 s4 => cases s4 with
            | cons _ _ => cases h1
            | nil =>
              rename_i k u x w
              have h3 : (if (keyD k).isSome = true then some (k, x) else none) = some p := h1
              by_cases z : (keyD k).isSome = true
              · rw [if_pos z] at h3
                cases h3
                obtain ⟨key, hk⟩ := Option.isSome_iff_exists.mp z
                refine ⟨a :: as, (key, w) :: gm, by rw [e1]; rfl, .cons hk s3 e2, .cons ?_ e3⟩
                rw [← keyD_rep hk s1]
                exact q1
              · rw [if_neg z] at h3
                cases h3
      | _ => cases h1
theorem paired_imp {α β : Type} {F G : α → β → Prop} (h : ∀ a b, F a b → G a b) : ∀ {as : List α} {bs : List β}, Paired F as bs → Paired G as bs
  | _, _, .nil => .nil
  | _, _, .cons a b => .cons (h _ _ a) (paired_imp h b)
def rDictP (K : PySem.W.Frag) : List V → Hp → VK → Prop := fun xs H Q => ∃ (a : Addr) (ps : List Addr) (kvs : List (Key × V)), xs = [.ref a] ∧ SqL K H a (ps.map V.ref) ∧ Paired (fun p kv => SqT K H p [kV kv.1, kv.2]) ps kvs ∧
    ∀ p, H p = none → Q (.ref p) (upd H p (.dK (mergeK [] kvs)))
def rDictD : List V → Hp → VK → Prop := fun xs H Q => ∃ (a : Addr) (kvs : List (Key × V)), xs = [.ref a] ∧ Rd H a (.dK kvs) ∧ ∀ p, H p = none → Q (.ref p) (upd H p (.dK kvs))
theorem ok_dictP : OkL X.K (rDictP X.K) biDictP := fun W ρ A σ H ds vs Q hA r h => by
  obtain ⟨d, v, e1, e2, rd⟩ := one_of (F := biDictP) (fun _ => rfl) (fun d e r A => by cases d <;> rfl) r h
  subst e1 e2
  cases rd with
  | @ref i hi =>
    have h2 : Post X.K W RepV ρ A σ H (dicLO A (seqAt A i)) Q := h
    cases z : seqAt A i with
    | none => rw [z] at h2; exact h2.elim
    | some xs =>
      rw [z] at h2
      have h3 : Post X.K W RepV ρ A σ H (dicPO A (allSome (xs.map pairD))) Q := h2
      obtain ⟨us, q1, q2⟩ := hA.seq z
      cases y : allSome (xs.map pairD) with
      | none => rw [y] at h3; exact h3.elim
      | some ps =>
        rw [y] at h3
        obtain ⟨as, gm, e1, e2, e3⟩ := pairs_rep (allSome_get y) q2
        subst e1
        exact ⟨ρ i, as, gm, rfl, q1, paired_imp (fun a b q => SqT.of q) e3, fun p hp => post_new hA h3 hp rfl fun ρ' x => ⟨_, upd_same, (RepK.merge e2 .nil).ext x⟩⟩
  | _ => exact h.elim
theorem cr_dictX (hc : X.calm = true) : CallR X (.type "dict") (fun xs H Q => rDictD xs H Q ∨ rDictP X.K xs H Q) := CallR.or call_dictD (call_dictP hc)
theorem ok_dictX : OkL X.K (fun xs H Q => rDictD xs H Q ∨ rDictP X.K xs H Q) biDictX := OkL.or ok_dict ok_dictP fun ds A => by
  cases ds with
  | nil => exact .inl rfl
  | cons d ds => cases ds with
    | cons e es => exact .inl (by cases d <;> rfl)
    | nil =>
      show (if isDic A d = true then _ else _) = _ ∨ (if isDic A d = true then _ else _) = _
      by_cases z : isDic A d = true
      · exact .inl (if_pos z)
      · exact .inr (if_neg z)
theorem ok_listD : OkL X.K rListD biListD := fun W ρ A σ H ds vs Q hA r h => by
  obtain ⟨d, v, e1, e2, rd⟩ := one_of (F := biListD) (fun _ => rfl) (fun d e r A => by cases d <;> rfl) r h
  subst e1 e2
  cases rd with
  | @ref i hi =>
    have h2 : Post X.K W RepV ρ A σ H (lstDO A A[i]?) Q := h
    cases z : A[i]? with
    | none => rw [z] at h2; exact h2.elim
    | some o =>
      rw [z] at h2
      cases o with
      | dic kvs =>
        obtain ⟨gs, q1, q2⟩ := hA.objs i _ z
        exact ⟨ρ i, gs, rfl, q1, fun p hp => post_lst hA h2 (repK_keys q2) hp⟩
      | _ => exact h2.elim
  | _ => exact h.elim
end
end DL
set_option Elab.async false
set_option linter.all false
set_option maxRecDepth 100000
set_option maxHeartbeats 4000000
/-! max, min of more, len(set(l)), o.f op= e, {k: v}, list(d) (own work). -/
namespace DL
open PySem PySem.Spec PyProof.Rows L2
section
variable {X : Cx}
def rLstS (K : PySem.W.Frag) : List V → Hp → VK → Prop := fun xs H Q => ∃ p ys, xs = [.ref p] ∧ (SqL K H p ys ∨ SqT K H p ys) ∧ ∀ l, H l = none → Q (.ref l) (upd H l (.lst ys))
theorem cr_listX (hc : X.calm = true) : CallR X (.type "list") (fun xs H Q => rListD xs H Q ∨ rLstS X.K xs H Q) := CallR.or (call_list_dK hc) call_list_of
theorem ok_listX : OkL X.K (fun xs H Q => rListD xs H Q ∨ rLstS X.K xs H Q) biListX := OkL.or ok_listD ok_list fun ds A => by
  cases ds with
  | nil => exact .inl rfl
  | cons d ds => cases ds with
    | cons e es => exact .inl (by cases d <;> rfl)
    | nil =>
      show (if isDic A d = true then _ else _) = _ ∨ (if isDic A d = true then _ else _) = _
      by_cases z : isDic A d = true
      · exact .inl (if_pos z)
      · exact .inr (if_neg z)
end
/-! ### max of tuples of ints, of two ints; min of a tuple of ints -/
theorem bt_min : bootBuiltins "min" = some (.builtin "min") := by decide +kernel
def tupPy (ns : List Int) : PyData := .tuple (ns.map .int)
def ltT (a b : List Int) : Bool := PySem.W.dataLt (tupPy a) (tupPy b)
def maxL (n : List Int) (nss : List (List Int)) : List Int := nss.foldl (fun a y => if ltT a y then y else a) n
def D.ints? : D → Option (List Int)
  | .tup ds => intsOf ds
  | _ => none
def maxTO (A : AH) : Option (List (List Int)) → Res D
  | some (n :: ns) => .ok (.tup ((maxL n ns).map D.int)) A
  | _ => .bad
def maxLO (A : AH) : Option (List D) → Res D
  | some ds => maxTO A (allSome (ds.map D.ints?))
  | none => .bad
def biMaxT : Fn
  | [.ref i], A => maxLO A (seqAt A i)
  | _, _ => .bad
def biMax2 : Fn
  | [.int i, .int j], A => .ok (.int (if j > i then j else i)) A
  | _, _ => .bad
def isTupL : Option (List D) → Bool
  | some (.tup _ :: _) => true
  | _ => false
def isTups (A : AH) : List D → Bool
  | [.ref i] => isTupL (seqAt A i)
  | _ => false
def isTwo : List D → Bool
  | [_, _] => true
  | _ => false
def biMaxX : Fn := fun ds A => if isTwo ds = true then biMax2 ds A else if isTups A ds = true then biMaxT ds A else biMax ds A
def minI (m : Int) (ns : List Int) : Int := ns.foldl min m
def minO (A : AH) : Option (List Int) → Res D
  | some (n :: ns) => .ok (.int (minI n ns)) A
  | _ => .bad
def biMinT : Fn
  | [.tup ds], A => minO A (intsOf ds)
  | _, _ => .bad
theorem foldl_tupPy : ∀ (nss : List (List Int)) (n : List Int), PySem.W.maxD (tupPy n) (nss.map tupPy) = tupPy (maxL n nss)
  | [], n => rfl
  | m :: nss, n => by
    have ih := foldl_tupPy nss (if ltT n m then m else n)
    unfold PySem.W.maxD maxL at ih ⊢
    rw [List.map_cons, List.foldl_cons, List.foldl_cons]
    have e : (if PySem.W.dataLt (tupPy n) (tupPy m) = true then tupPy m else tupPy n) = tupPy (if ltT n m = true then m else n) := by
      by_cases z : ltT n m = true
      · rw [if_pos z, if_pos (show PySem.W.dataLt (tupPy n) (tupPy m) = true from z)]
      · rw [if_neg z, if_neg (show ¬ PySem.W.dataLt (tupPy n) (tupPy m) = true from z)]
    rw [e]
    exact ih
theorem tupPy_inj {a b : List Int} (h : tupPy a = tupPy b) : a = b := by
  unfold tupPy at h
  injection h with h
  have := congrArg (List.map fun p : PyData => match p with | .int i => i | _ => 0) h
  simpa [List.map_map, Function.comp_def] using this
theorem plain_ints : ∀ ns : List Int, PyData.plainAll (ns.map .int) = true
  | [] => by simp [PyData.plainAll]
  | n :: ns => by simp [PyData.plainAll, PyData.plain, plain_ints ns]
theorem plain_tupPy (ns : List Int) : (tupPy ns).plain = true := by
  unfold tupPy
  rw [PyData.plain]
  exact plain_ints ns
theorem alike_ints : ∀ a b : List Int, PySem.W.alikeAll (a.map .int) (b.map .int) = true
  | [], b => by cases b <;> rfl
  | _ :: _, [] => rfl
  | x :: a, y :: b => by
    rw [List.map_cons, List.map_cons, PySem.W.alikeAll, alike_ints a b]
    rfl
theorem depth_ints (ns : List Int) : PyData.depthAll (ns.map .int) ≤ 0 := depthAll_of fun p h => by
  obtain ⟨i, _, rfl⟩ := List.mem_map.mp h
  exact Nat.le_of_eq rfl
theorem depth_tupPys (nss : List (List Int)) : PyData.depthAll (nss.map tupPy) ≤ 1 := depthAll_of fun p h => by
  obtain ⟨i, _, rfl⟩ := List.mem_map.mp h
  exact Nat.succ_le_succ (depth_ints i)
section
variable {X : Cx} {pins : List (Addr × Obj)} {σ : L2.St} {H : Hp} {s : Shared}
theorem dpAll_ints {K : PySem.W.Frag} : ∀ ns : List Int, DpAll K H (ns.map V.int) (ns.map PyData.int)
  | [] => .nil
  | n :: ns => .cons (.int n) (dpAll_ints ns)
theorem dpAll_tups {K : PySem.W.Frag} : ∀ {as : List Addr} {nss : List (List Int)}, Paired (fun p ns => SqT K H p (ns.map V.int)) as nss → DpAll K H (as.map V.ref) (nss.map tupPy)
  | _, _, .nil => .nil
  | _, _, .cons a b => .cons (.tup a (dpAll_ints _)) (dpAll_tups b)
theorem paired_get {α β : Type} {F : α → β → Prop} : ∀ {as : List α} {bs : List β} {i : Nat} {a : α}, Paired F as bs → as[i]? = some a → ∃ b, bs[i]? = some b ∧ F a b
  | _, _, _, _, .nil, h => by simp at h
  | _, _, 0, _, .cons h _, e => by simp at e; subst e; exact ⟨_, by simp, h⟩
  | _, _, i + 1, _, .cons _ t, e => by
    obtain ⟨b, h1, h2⟩ := paired_get (i := i) t (by simpa using e)
    exact ⟨b, by simpa using h1, h2⟩
def rMaxT (K : PySem.W.Frag) : List V → Hp → VK → Prop := fun xs H Q => ∃ (a : Addr) (as : List Addr) (n : List Int) (nss : List (List Int)), xs = [.ref a] ∧ SqL K H a (as.map V.ref) ∧ Paired (fun p ns => SqT K H p (ns.map V.int)) as (n :: nss) ∧
  ∀ (i : Nat) p, as[i]? = some p → (n :: nss)[i]? = some (maxL n nss) → Q (.ref p) H
theorem cr_maxT (hc : X.calm = true) (hu : X.A.units + 65 < cLine) : CallR X (.builtin "max") (rMaxT X.K) := by
  intro pins s σ H vs us Q I r h
  obtain ⟨a, as, n, nss, rfl, hs, hp, q⟩ := h
  obtain ⟨its, rv, hl, _⟩ := I.list hs
  rw [Vals.ref1 r]
  obtain ⟨bs, hr⟩ := Dp.readsAll I _ _ its (dpAll_tups hp) rv
  have ei := refs_at rv
  subst ei
  have hr' : ReadsAll s.heap (as.map Value.ref).toArray.toList (tupPy n :: nss.map tupPy) bs := by simpa using hr
  refine PySem.W.max_list_data (I.ok.hd hc) hl.isList hr' ⟨fun x hx y hy => ?_, fun x hx => ?_⟩ ?_ fun i v h' tk bs' hv hre hk => ?_
  · have hx' : x ∈ (n :: nss).map tupPy := hx
    have hy' : y ∈ (n :: nss).map tupPy := hy
    obtain ⟨m1, _, rfl⟩ := List.mem_map.mp hx'
    obtain ⟨m2, _, rfl⟩ := List.mem_map.mp hy'
    exact alike_ints m1 m2
  · have hx' : x ∈ (n :: nss).map tupPy := hx
    obtain ⟨m1, _, rfl⟩ := List.mem_map.mp hx'
    intro z; cases z
  · have := depth_tupPys (n :: nss)
    have e : PyData.depthAll (tupPy n :: nss.map tupPy) ≤ 1 := this
    omega
  · have hv' : (as.map Value.ref)[i]? = some v := by simpa using hv
    rw [List.getElem?_map] at hv'
    obtain ⟨p, hp1, rfl⟩ := Option.map_eq_some_iff.mp hv'
    obtain ⟨ns, hn1, hn2⟩ := paired_get hp hp1
    have I2 : Inv X pins σ H { s with heap := h', toks := tk } := I.kept hk
    obtain ⟨cs, r2⟩ := Dp.reads I2 (tupPy ns) (.ref p) (.ref p) (.tup hn2 (dpAll_ints ns)) rfl
    rw [foldl_tupPy] at hre
    have e := (PySem.SeqAt.readOf_plain (plain_tupPy _) hre).symm.trans (PySem.SeqAt.readOf_plain (plain_tupPy _) r2)
    have e2 := tupPy_inj e
    exact ⟨.ref p, H, I2, rfl, q i p hp1 (by rw [e2]; exact hn1)⟩
def rMinT (K : PySem.W.Frag) : List V → Hp → VK → Prop := fun vs H Q => ∃ (a : Addr) (n : Int) (ns : List Int), vs = [V.ref a] ∧ SqT K H a ((n :: ns).map V.int) ∧ Q (.int (minI n ns)) H
theorem cr_minT (hc : X.calm = true) (hu : X.A.units + 65 < cLine) : CallR X (.builtin "min") (rMinT X.K) := by
  intro pins s σ H vs us Q I r h
  obtain ⟨a, n, ns, rfl, hs, q⟩ := h
  obtain ⟨its, rv, hl, _⟩ := I.tuple hs
  rw [Vals.ref1 r]
  obtain ⟨bs, hr⟩ := Dp.readsAll I _ _ its (dpAll_ints (n :: ns)) rv
  have hr' : ReadsAll s.heap its.toArray.toList (PyData.int n :: ns.map .int) bs := by simpa using hr
  refine PySem.W.min_tuple_data (I.ok.hd hc) (show s.heap.IsTuple a its.toArray from hl) hr' ⟨fun x hx y hy => ?_, fun x hx => ?_⟩ ?_ fun i v h' tk bs' hv hre hk => ?_
  · have hx' : x ∈ (n :: ns).map PyData.int := hx
    have hy' : y ∈ (n :: ns).map PyData.int := hy
    obtain ⟨m1, _, rfl⟩ := List.mem_map.mp hx'
    obtain ⟨m2, _, rfl⟩ := List.mem_map.mp hy'
    rfl
  · have hx' : x ∈ (n :: ns).map PyData.int := hx
    obtain ⟨m1, _, rfl⟩ := List.mem_map.mp hx'
    intro z; cases z
  · have e : PyData.depthAll (PyData.int n :: ns.map .int) ≤ 0 := depth_ints (n :: ns)
    omega
  · rw [PySem.W.minD_ints] at hre
    cases hre with
    | int _ t => exact ⟨.int _, H, I.kept hk, ⟨t, rfl⟩, q⟩
theorem intsOf_get {ds : List D} {ns : List Int} (h : intsOf ds = some ns) : ds = ns.map D.int := by
  have q := allSome_get (show allSome (ds.map D.int?) = some ns from h)
  clear h
  induction ds generalizing ns with
  | nil =>
    cases ns with
    | nil => rfl
    | cons _ _ => cases q
  | cons d ds ih =>
    cases ns with
    | nil => cases q
    | cons n ns =>
      rw [List.map_cons, List.map_cons] at q
      injection q with q1 q2
      cases d with
      | int i => cases q1; rw [List.map_cons, ← ih q2]
      | _ => cases q1
theorem tups_rep {K : PySem.W.Frag} {ρ : Nat → Addr} {n : Nat} : ∀ {ds : List D} {nss : List (List Int)} {vs : List V}, ds.map D.ints? = nss.map some → RepVs ρ n H ds vs → ∃ as : List Addr, vs = as.map V.ref ∧ Paired (fun p ns => H p = some (.tup (ns.map V.int))) as nss
  | [], nss, _, h, .nil => by
    cases nss with
    | nil => exact ⟨[], rfl, .nil⟩
    | cons _ _ => cases h
  | d :: ds, nss, v :: vs, h, .cons r1 r2 => by
    cases nss with
    | nil => cases h
    | cons ns nss =>
      rw [List.map_cons, List.map_cons] at h
      injection h with h1 h2
      obtain ⟨as, e1, e2⟩ := tups_rep (K := K) h2 r2
      cases r1 with
      | @tup a us es q1 q2 =>
        have h3 : intsOf es = some ns := h1
        rw [intsOf_get h3] at q2
        rw [RepVs.of_ints q2] at q1
        exact ⟨a :: as, by rw [e1]; rfl, .cons q1 e2⟩
      | _ => cases h1
theorem ok_maxT : OkL X.K (rMaxT X.K) biMaxT := fun W ρ A σ H ds vs Q hA r h => by
  obtain ⟨d, v, e1, e2, rd⟩ := one_of (F := biMaxT) (fun _ => rfl) (fun d e r A => by cases d <;> rfl) r h
  subst e1 e2
  cases rd with
  | @ref i hi =>
    have h2 : Post X.K W RepV ρ A σ H (maxLO A (seqAt A i)) Q := h
    cases z : seqAt A i with
    | none => rw [z] at h2; exact h2.elim
    | some xs =>
      rw [z] at h2
      have h3 : Post X.K W RepV ρ A σ H (maxTO A (allSome (xs.map D.ints?))) Q := h2
      obtain ⟨us, q1, q2⟩ := hA.seq z
      cases y : allSome (xs.map D.ints?) with
      | none => rw [y] at h3; exact h3.elim
      | some nss =>
        rw [y] at h3
        cases nss with
        | nil => exact h3.elim
        | cons n ns =>
          obtain ⟨as, e1, e2⟩ := tups_rep (K := X.K) (allSome_get y) q2
          subst e1
          refine ⟨ρ i, as, n, ns, rfl, q1, paired_imp (fun a b q => SqT.of q) e2, fun j p hp hm => ?_⟩
          obtain ⟨m, m1, m2⟩ := paired_get e2 hp
          rw [hm] at m1
          cases m1
          exact post_val hA (show Post X.K W RepV ρ A σ H (.ok (.tup ((maxL n ns).map D.int)) A) Q from h3) (.tup m2 (RepVs.ints _))
  | _ => exact h.elim
theorem ok_max2 : OkL X.K (fun xs H Q => ∃ i j, xs = [.int i, .int j] ∧ Q (.int (if j > i then j else i)) H) biMax2 := fun W ρ A σ H ds vs Q hA r h => by
  cases r with
  | nil => exact h.elim
  | cons r1 r2 => cases r2 with
    | nil => cases r1 <;> exact h.elim
    | cons r2 r3 => cases r3 with
      | cons _ _ => cases r1 <;> cases r2 <;> exact h.elim
      | nil => cases r1 with
        | int i => cases r2 with
          | int j => exact ⟨i, j, rfl, post_val hA h (.int _)⟩
          | _ => exact h.elim
        | _ => cases r2 <;> exact h.elim
def rMaxX (K : PySem.W.Frag) : List V → Hp → VK → Prop := fun xs H Q => (∃ i j, xs = [.int i, .int j] ∧ Q (.int (if j > i then j else i)) H) ∨ rMaxT K xs H Q ∨ rMax K xs H Q
theorem cr_maxX (hc : X.calm = true) (hu : X.A.units + 65 < cLine) : CallR X (.builtin "max") (rMaxX X.K) := CallR.or (call_max2 hc) (CallR.or (cr_maxT hc hu) (cr_max hc))
theorem ok_maxX : OkL X.K (rMaxX X.K) biMaxX := fun W ρ A σ H ds vs Q hA r h => by
  have h' : Post X.K W RepV ρ A σ H (if isTwo ds = true then biMax2 ds A else if isTups A ds = true then biMaxT ds A else biMax ds A) Q := h
  by_cases z : isTwo ds = true
  · rw [if_pos z] at h'
    exact .inl (ok_max2 W ρ A σ H ds vs Q hA r h')
  · rw [if_neg z] at h'
    by_cases y : isTups A ds = true
    · rw [if_pos y] at h'
      exact .inr (.inl (ok_maxT W ρ A σ H ds vs Q hA r h'))
    · rw [if_neg y] at h'
      exact .inr (.inr (ok_max W ρ A σ H ds vs Q hA r h'))
theorem ok_minT : OkL X.K (rMinT X.K) biMinT := fun W ρ A σ H ds vs Q hA r h => by
  obtain ⟨d, v, e1, e2, rd⟩ := one_of (F := biMinT) (fun _ => rfl) (fun d e r A => by cases d <;> rfl) r h
  subst e1 e2
  cases rd with
  | @tup a us es q1 q2 =>
    have h2 : Post X.K W RepV ρ A σ H (minO A (intsOf es)) Q := h
    cases y : intsOf es with
    | none => rw [y] at h2; exact h2.elim
    | some ns =>
      rw [y] at h2
      cases ns with
      | nil => exact h2.elim
      | cons n ns =>
        rw [intsOf_get y] at q2
        rw [RepVs.of_ints q2] at q1
        exact ⟨a, n, ns, rfl, SqT.of q1, post_val hA (show Post X.K W RepV ρ A σ H (.ok (.int (minI n ns)) A) Q from h2) (.int _)⟩
  | _ => exact h.elim
end
/-! ### len(set(l)) -/
def setN (ns : List Int) : List Int := PyProof.Rows.firstMet (fun i => ns.getD i 0) ns.length
def lenSO (A : AH) : Option (List Int) → Res D
  | some ns => if ns.length ≤ 4000 then .ok (.int (setN ns).length) A else .bad
  | none => .bad
def kLenSet : D → AH → Res D
  | .ref i, A => lenSO A ((seqAt A i).bind intsOf)
  | _, _ => .bad
def eLenSet (e : Ex) : Ex := fun E A => (e E A).bind kLenSet
theorem setN_len (ns : List Int) : ∀ i, (PyProof.Rows.firstMet (fun i => ns.getD i 0) i).length ≤ i
  | 0 => Nat.le_refl _
  | i + 1 => by
    rw [PyProof.Rows.firstMet_succ]
    unfold step_dedup
    split
    · exact Nat.le_succ_of_le (setN_len ns i)
    · rw [List.length_append]
      exact Nat.succ_le_succ (setN_len ns i)
section
variable {X : Cx} {W : WX} {p p2 q pos pos' tpos : Pos} {a o e value : Expr} {ma mo me : Ex} {k : Nat}
theorem re_lenSet (cx : Ctx X W k) (hg : Gl X "len") (hm : X.mg "len" = none) (hg2 : Gl X "set") (hm2 : X.mg "set" = none) (ha : RE X W a ma) (na : starEach [a] X.env = (false, eval a X.env) :: starEach [] X.env := by rfl) :
    RE X W (.Call (.Name "len" p) [.Call (.Name "set" p2) [a] [] q] [] pos) (eLenSet ma) := by
  refine ⟨fun pins s σ H Q I ⟨ρ, E, A, hE, hA, h⟩ => ?_⟩
  refine Call_ (ld_blt I hg hm boot_len ?_)
  refine PyProof.Rows.callWith_builtin1 (PyProof.Rows.args_cons ?_ rfl) rfl rfl
  refine Call_ (ld_blt I hg2 hm2 boot_set ?_)
  have q0 := ha.run pins s σ H _ I ⟨ρ, E, A, hE, hA, Post.bind h fun ρ1 d B v H1 n1 r1 h1 => (⟨ρ1, d, B, n1, r1, h1⟩ : ∃ ρ1 d B, Nxt X.K ρ A H ρ1 B H1 ∧ RepV ρ1 B.length H1 d v ∧ Post X.K W RepV ρ1 B σ H1 (kLenSet d B) Q)⟩
  refine PyProof.Rows.callWith_type1 (PyProof.Rows.args_cons (thn q0 fun v s1 ⟨x, H1, I1, r1, ρ1, d, B, n1, rd, h1⟩ => PyProof.Rows.args_nil ?_) na) na rfl
  cases rd with
  | @ref i hi =>
    have h2 : Post X.K W RepV ρ1 B σ H1 (lenSO B ((seqAt B i).bind intsOf)) Q := h1
    cases z : seqAt B i with
    | none => rw [z] at h2; exact h2.elim
    | some xs =>
      rw [z] at h2
      have h3 : Post X.K W RepV ρ1 B σ H1 (lenSO B (intsOf xs)) Q := h2
      obtain ⟨us, q1, q2⟩ := n1.rep.seq z
      cases y : intsOf xs with
      | none => rw [y] at h3; exact h3.elim
      | some ns =>
        rw [y] at h3
        have h4 : Post X.K W RepV ρ1 B σ H1 (if ns.length ≤ 4000 then .ok (.int (setN ns).length) B else .bad) Q := h3
        by_cases hl : ns.length ≤ 4000
        · rw [if_pos hl] at h4
          rw [ints_rep y q2] at q1
          cases r1
          obtain ⟨its, r, pl, hz⟩ := I1.list q1
          have hlen : its.toArray.size = ns.length := by rw [List.size_toArray, ← r.length, List.length_map]
          refine call_set_list (I1.ok.hd cx.calm) pl.isList (by simpa using RZ.intsAre_vals r) (by rw [hlen]; unfold scanBound; omega) fun h' tk hS hk => ?_
          refine PyProof.Rows.args_nil ?_
          rw [hlen] at hS
          obtain ⟨o, es, ep, t, ho, hex, hd, _, _, _, hf, hn⟩ := hS
          have I2 : Inv X pins σ H1 { s1 with heap := h', toks := tk } := I1.kept fun b o e => hk b o (Heap.lt_size e) e
          have hn' : es.size = (setN ns).length := hn
          have := setN_len ns ns.length
          exact call_len_set ho hex hd hf (by rw [hn]; have e : ((firstMet (fun i => ns.getD i 0) ns.length).length : Int) = ((setN ns).length : Nat) := rfl; omega) ⟨.int (setN ns).length, H1, I2.tok _, ⟨_, by rw [hn']⟩, h4 ρ1 _ H1 (.refl n1.rep) (.int _)⟩
        · rw [if_neg hl] at h4
          exact h4.elim
  | _ => exact h1.elim
/-! ### o.f op= e -/
def OkIn (K : PySem.W.Frag) (rd : V → V → Hp → VK → Prop) (F : Fn) : Prop := ∀ W ρ A σ H d e v u Q, RepA K ρ H A → RepV ρ A.length H d v → RepV ρ A.length H e u → Post K W RepV ρ A σ H (F [d, e] A) Q → rd v u H Q
theorem ok_inAdd : OkIn X.K rAdd opAddI := fun W ρ A σ H d e v u Q hA rd re h => by
  cases rd with
  | int i => cases re with
    | int j => exact ⟨i, j, rfl, rfl, post_val hA h (.int _)⟩
    | _ => exact h.elim
  | _ => cases re <;> exact h.elim
theorem ok_inSub : OkIn X.K rSub opSubI := fun W ρ A σ H d e v u Q hA rd re h => by
  cases rd with
  | int i => cases re with
    | int j => exact ⟨i, j, rfl, rfl, post_val hA h (.int _)⟩
    | _ => exact h.elim
  | _ => cases re <;> exact h.elim
theorem rs_fldAug {cs : List Nat} {c0 n : Nat} {x : Str} {op : Operator} {rd : V → V → Hp → VK → Prop} {F : Fn} (at_ : At X.K cs n x) (hop : InOp X op rd) (hk : OkIn X.K rd F) (ho : RE X W o mo) (he : RE X W value me) (hcs : cs = [c0] := by rfl) : RS X W (.AugAssign (.Attribute o x tpos) op value pos) (sFldAug cs n mo me F) := by
  refine PS.imp (ps_fldaug ho he hop) fun Dn σ H ⟨ρ, E, A, hE, hA, h⟩ => ⟨ρ, E, A, hE, hA, PostS.then hE h fun ρ1 d B v H1 n1 r1 h1 => ?_⟩
  have E1 := hE.ext n1.ext
  have h1' : PostS X.K W ρ1 B H1 ((fFld cs n [d] B).then E (kFA2 cs n me F E d)) Dn := h1
  cases r1 with
  | @ref i hi =>
    have h2 : PostS X.K W ρ1 B H1 ((oFld cs n B B[i]?).then E (kFA2 cs n me F E (.ref i))) Dn := h1'
    cases z : B[i]? with
    | none => rw [z] at h2; exact h2.elim
    | some uo =>
      rw [z] at h2
      cases uo with
      | ins c fs =>
        have h3 : PostS X.K W ρ1 B H1 ((if c ∈ cs then okD B (some (lookF n fs)) else .bad : Res D).then E (kFA2 cs n me F E (.ref i))) Dn := h2
        by_cases hc : c ∈ cs
        · rw [if_pos hc] at h3
          obtain ⟨dx, gs, q1, q2⟩ := ins_at n1.rep z
          obtain ⟨k1, k2⟩ := at_.cl c hc
          cases l : lookF n fs with
          | none => rw [l] at h3; exact h3.elim
          | some old =>
            rw [l] at h3
            obtain ⟨w, l1, l2⟩ := q2.look at_.nm l
            have h4 : PostS X.K W ρ1 B H1 ((me E B).then E (kFA3 cs n F E (.ref i) old)) Dn := h3
            refine ⟨ρ1 i, clsA X.K c, dx, gs, w, rfl, q1, k1, k2, l1, ρ1, E, B, E1, n1.rep, PostS.then E1 h4 fun ρ2 y B2 u H2 n2 r2 h5 => ?_⟩
            have E2 := E1.ext n2.ext
            have h6 : PostS X.K W ρ2 B2 H2 ((F [old, y] B2).then E (kFA4 cs n E (.ref i))) Dn := h5
            refine hk W ρ2 B2 σ H2 old y w u _ n2.rep (l2.ext n2.ext) r2 (PostS.then E2 h6 fun ρ3 zd B3 zv H3 n3 r3 h7 => ?_)
            have h8 : PostS X.K W ρ3 B3 H3 (okS E (oPut cs n i zd B3 B3[i]?)) Dn := h7
            cases z3 : B3[i]? with
            | none => rw [z3] at h8; exact h8.elim
            | some u3 =>
              rw [z3] at h8
              cases u3 with
              | ins c3 fs3 =>
                have h9 : PostS X.K W ρ3 B3 H3 (okS E (if c3 ∈ cs ∧ fs3.length < 1000 then some (B3.set i (.ins c3 (setF n zd fs3))) else none)) Dn := h8
                by_cases hc3 : c3 ∈ cs ∧ fs3.length < 1000
                · rw [if_pos hc3] at h9
                  obtain ⟨dx3, gs3, p1, p2⟩ := ins_at n3.rep z3
                  have ei : ρ3 i = ρ1 i := by rw [n3.ext.same i (Nat.lt_of_lt_of_le (lt_of_get z) n2.ext.le), n2.ext.same i (lt_of_get z)]
                  rw [ei] at p1
                  have n4 : Nxt X.K ρ3 B3 H3 ρ3 (B3.set i (.ins c3 (setF n zd fs3))) (upd H3 (ρ3 i) (.ins (clsA X.K c3) dx3 (putF x zv gs3))) :=
                    Nxt.set n3.rep z3 rfl rfl fun ex => ⟨dx3, putF x zv gs3, upd_same, (p2.put at_.nm r3).ext ex⟩
                  rw [ei] at n4
                  have ec : c3 = c := by
                    have e1 := hc3.1
                    rw [hcs, List.mem_singleton] at e1
                    rw [hcs, List.mem_singleton] at hc
                    rw [e1, hc]
                  subst ec
                  exact ⟨dx3, gs3, p1, by rw [← p2.len]; exact hc3.2, h9 ρ3 σ _ n4 ((E2.ext n3.ext).ext n4.ext)⟩
                · rw [if_neg hc3] at h9
                  exact h9.elim
              | _ => exact h8.elim
        · rw [if_neg hc] at h3
          exact h3.elim
      | _ => exact h2.elim
  | _ => exact h1'.elim
end
end DL
set_option Elab.async false
set_option linter.all false
set_option maxRecDepth 100000
set_option maxHeartbeats 4000000
/-! From the law's function to the law's promise (own work). -/
namespace DL
open PySem PySem.Spec PyProof.Rows L2
theorem end_law {K : PySem.W.Frag} {F : Fn} {H : Hp} {a : Addr} {ns : List Int} (hS : SqL K H a (ns.map V.int)) (h : ∃ B, F [.ref 0] [.rol (ns.map D.int)] = .ok (.bl true) B) :
    spD K 1 F [.ref a] H (fun v _ => v = .bl true) (fun _ _ _ => False) := by
  obtain ⟨B, h⟩ := h
  refine ⟨rfl, fun _ => a, [.ref 0], [.rol (ns.map D.int)], .cons (.ref (Nat.lt_succ_self _)) .nil, ?_, ?_⟩
  · refine ⟨fun i o e => ?_, fun i ds e => ?_, fun i j o u h1 h2 m1 m2 _ => ?_⟩
    · cases i with
      | zero => cases e; trivial
      | succ i => cases e
    · cases i with
      | succ i => cases e
      | zero =>
        cases e
        refine ⟨ns.map V.int, RepVs.ints ns, ?_⟩
        rcases hS with r | r
        · refine .inr ⟨r, fun j o e m => ?_⟩
          cases j with
          | zero => cases e; cases m
          | succ j => cases e
        · exact .inl r
    · cases i with
      | succ i => cases h1
      | zero => cases h1; cases m1
  · rw [h]
    intro ρ' v H' n r
    cases r
    rfl

def CXE : CXT := fun o H s E u s' => ∃ P w, L2.CX P w o H s E u s'
theorem wide {P : Program} {w : World} {K : PySem.W.Frag} {mg : Str → Option Value} {base : Heap} {k : Nat} {f : Addr} {fd : FuncData} {ps : List Str} {sp : Sp} (F : FnOk P w K mg base (L2.CX P w) k f fd ps sp) : FnOk P w K mg base CXE k f fd ps sp :=
  ⟨F.len, fun A outer s H args us vs Q E hr he hb hv hs => codeAny_mono (F.run A outer s H args us vs Q E hr he hb hv hs) fun r s' q => by
    cases r with
    | ok fl => cases fl <;> exact q
    | error e => exact ⟨P, w, q⟩⟩
theorem cxe_none (H : Hp) (s : Shared) (e : Value) (s' : Shared) (h : CXE [] H s (fun _ _ _ => False) e s') : False := by
  obtain ⟨P, w, a, B, H', cls, d, _, _, _, _, _, _, _, z⟩ := h
  exact z
end DL
set_option Elab.async false
set_option linter.all false
set_option maxRecDepth 100000
set_option maxHeartbeats 4000000
/-! The plain functions evaluated (own work). -/
namespace DL
open PySem
@[simp] theorem ev_eVar (i : Nat) E A : eVar i E A = okD A E[i]? := rfl
@[simp] theorem ev_eC (d : D) _x0 A : eC d _x0 A = .ok d A := rfl
@[simp] theorem ev_aNil _x0 A : aNil _x0 A = .ok [] A := rfl
@[simp] theorem ev_kCons (r : Ax) (E : Env) d A : kCons r E d A = (r E A).bind (kCons2 d) := rfl
@[simp] theorem ev_aCons (e : Ex) (r : Ax) E A : aCons e r E A = (e E A).bind (kCons r E) := rfl
@[simp] theorem ev_eF (F : Fn) (a : Ax) E A : eF F a E A = (a E A).bind F := rfl
@[simp] theorem ev_kM2 (F : Fn) (x : D) ds A : kM2 F x ds A = F (x :: ds) A := rfl
@[simp] theorem ev_kM (c : Nat) (F : Fn) (a : Ax) (E : Env) x A : kM c F a E x A = if isIns c A x = true then (a E A).bind (kM2 F x) else .bad := rfl
@[simp] theorem ev_eM (c : Nat) (F : Fn) (o : Ex) (a : Ax) E A : eM c F o a E A = (o E A).bind (kM c F a E) := rfl
@[simp] theorem ev_tB (e : Ex) E A : tB e E A = (e E A).bind kB := rfl
@[simp] theorem ev_kAnd (u : Tx) (E : Env) b A : kAnd u E b A = if b = true then u E A else .ok false A := rfl
@[simp] theorem ev_tAnd (t u : Tx) E A : tAnd t u E A = (t E A).bind (kAnd u E) := rfl
@[simp] theorem ev_kOr (u : Tx) (E : Env) b A : kOr u E b A = if b = true then .ok true A else u E A := rfl
@[simp] theorem ev_tOr (t u : Tx) E A : tOr t u E A = (t E A).bind (kOr u E) := rfl
@[simp] theorem ev_kNot b A : kNot b A = .ok (!b) A := rfl
@[simp] theorem ev_tNot (t : Tx) E A : tNot t E A = (t E A).bind kNot := rfl
@[simp] theorem ev_kIf (a b : Ex) (E : Env) c A : kIf a b E c A = if c = true then a E A else b E A := rfl
@[simp] theorem ev_eIf (t : Tx) (a b : Ex) E A : eIf t a b E A = (t E A).bind (kIf a b E) := rfl
@[simp] theorem ev_eAnd (a b : Ex) E A : eAnd a b E A = (a E A).bind (kAndV b E) := rfl
@[simp] theorem ev_eOr (a b : Ex) E A : eOr a b E A = (a E A).bind (kOrV b E) := rfl
@[simp] theorem ev_eNot (a : Ex) E A : eNot a E A = (a E A).bind kNotV := rfl
@[simp] theorem ev_kCh4 (G : Fn) (y : D) w A : kCh4 G y w A = G [y, w] A := rfl
@[simp] theorem ev_kCh2 (F G : Fn) (c : Ex) (E : Env) (x : D) y A : kCh2 F G c E x y A = (F [x, y] A).bind (kCh3 G c E y) := rfl
@[simp] theorem ev_kCh (F G : Fn) (b c : Ex) (E : Env) x A : kCh F G b c E x A = (b E A).bind (kCh2 F G c E x) := rfl
@[simp] theorem ev_eChain (F G : Fn) (a b c : Ex) E A : eChain F G a b c E A = (a E A).bind (kCh F G b c E) := rfl
@[simp] theorem ev_sNop E A : sNop E A = .nx E A := rfl
@[simp] theorem ev_sSeq (a b : Sx) E A : sSeq a b E A = (a E A).seq b := rfl
@[simp] theorem ev_kDrop (E : Env) _x0 A : kDrop E _x0 A = .nx E A := rfl
@[simp] theorem ev_sDrop (e : Ex) E A : sDrop e E A = (e E A).then E (kDrop E) := rfl
@[simp] theorem ev_kRet d A : kRet d A = .rt d A := rfl
@[simp] theorem ev_sRet (e : Ex) E A : sRet e E A = (e E A).then E kRet := rfl
@[simp] theorem ev_sRetN _x0 A : sRetN _x0 A = .rt .non A := rfl
@[simp] theorem ev_sBrk E A : sBrk E A = .bk E A := rfl
@[simp] theorem ev_sCnt E A : sCnt E A = .ct E A := rfl
@[simp] theorem ev_sBad _x0 _x1 : sBad _x0 _x1 = .bad := rfl
@[simp] theorem ev_kIfS (a b : Sx) (E : Env) c A : kIfS a b E c A = if c = true then a E A else b E A := rfl
@[simp] theorem ev_sIf (t : Tx) (a b : Sx) E A : sIf t a b E A = (t E A).then E (kIfS a b E) := rfl
@[simp] theorem ev_gName (i : Nat) d E A : gName i d E A = .nx (E.set i (some d)) A := rfl
@[simp] theorem ev_kSub2 (S : Stx) (d : D) (E : Env) (x : D) y A : kSub2 S d E x y A = okS E (S x y d A) := rfl
@[simp] theorem ev_kSub (S : Stx) (i : Ex) (d : D) (E : Env) x A : kSub S i d E x A = (i E A).then E (kSub2 S d E x) := rfl
@[simp] theorem ev_gSub (o i : Ex) (S : Stx) d E A : gSub o i S d E A = (o E A).then E (kSub S i d E) := rfl
@[simp] theorem ev_kAsg (g : Gx) (E : Env) d A : kAsg g E d A = (g d E A).only := rfl
@[simp] theorem ev_sAsg (e : Ex) (g : Gx) E A : sAsg e g E A = (e E A).then E (kAsg g E) := rfl
@[simp] theorem ev_kSet (i : Nat) (E : Env) d A : kSet i E d A = .nx (E.set i (some d)) A := rfl
@[simp] theorem ev_sPar (i j : Nat) (a : Ax) E A : sPar i j a E A = (a E A).then E (kPar i j E) := rfl
@[simp] theorem ev_kAug2 (i : Nat) (F : Fn) (E : Env) (d : D) y A : kAug2 i F E d y A = (F [d, y] A).then E (kSet i E) := rfl
@[simp] theorem ev_kAug (i : Nat) (e : Ex) (F : Fn) (E : Env) d A : kAug i e F E d A = (e E A).then E (kAug2 i F E d) := rfl
@[simp] theorem ev_sAug (i : Nat) (e : Ex) (F : Fn) E A : sAug i e F E A = (okD A E[i]?).then E (kAug i e F E) := rfl
@[simp] theorem ev_kAS5 (S : Stx) (E : Env) (x y : D) z A : kAS5 S E x y z A = okS E (S x y z A) := rfl
@[simp] theorem ev_kAS4 (F : Fn) (S : Stx) (E : Env) (x y old : D) d A : kAS4 F S E x y old d A = (F [old, d] A).then E (kAS5 S E x y) := rfl
@[simp] theorem ev_kAS3 (e : Ex) (F : Fn) (S : Stx) (E : Env) (x y : D) old A : kAS3 e F S E x y old A = (e E A).then E (kAS4 F S E x y old) := rfl
@[simp] theorem ev_kAS2 (e : Ex) (G F : Fn) (S : Stx) (E : Env) (x : D) y A : kAS2 e G F S E x y A = (G [x, y] A).then E (kAS3 e F S E x y) := rfl
@[simp] theorem ev_kAS1 (i e : Ex) (G F : Fn) (S : Stx) (E : Env) x A : kAS1 i e G F S E x A = (i E A).then E (kAS2 e G F S E x) := rfl
@[simp] theorem ev_sAugS (o i e : Ex) (G F : Fn) (S : Stx) E A : sAugS o i e G F S E A = (o E A).then E (kAS1 i e G F S E) := rfl
@[simp] theorem ev_kFld2 (cs : List Nat) (n : Nat) (E : Env) (d : D) x A : kFld2 cs n E d x A = okS E (putFld cs n d A x) := rfl
@[simp] theorem ev_kFld (cs : List Nat) (n : Nat) (o : Ex) (E : Env) d A : kFld cs n o E d A = (o E A).then E (kFld2 cs n E d) := rfl
@[simp] theorem ev_sFld (cs : List Nat) (n : Nat) (o e : Ex) E A : sFld cs n o e E A = (e E A).then E (kFld cs n o E) := rfl
@[simp] theorem ev_kFA4 (cs : List Nat) (n : Nat) (E : Env) (x : D) z A : kFA4 cs n E x z A = okS E (putFld cs n z A x) := rfl
@[simp] theorem ev_kFA3 (cs : List Nat) (n : Nat) (F : Fn) (E : Env) (x old : D) d A : kFA3 cs n F E x old d A = (F [old, d] A).then E (kFA4 cs n E x) := rfl
@[simp] theorem ev_kFA2 (cs : List Nat) (n : Nat) (e : Ex) (F : Fn) (E : Env) (x : D) old A : kFA2 cs n e F E x old A = (e E A).then E (kFA3 cs n F E x old) := rfl
@[simp] theorem ev_kFA1 (cs : List Nat) (n : Nat) (e : Ex) (F : Fn) (E : Env) x A : kFA1 cs n e F E x A = (fFld cs n [x] A).then E (kFA2 cs n e F E x) := rfl
@[simp] theorem ev_sFldAug (cs : List Nat) (n : Nat) (o e : Ex) (F : Fn) E A : sFldAug cs n o e F E A = (o E A).then E (kFA1 cs n e F E) := rfl
@[simp] theorem ev_sFor (it : Ix) (g : Gx) (b : Sx) E A : sFor it g b E A = (it E A).then E (kFor g b E) := rfl
@[simp] theorem ev_kWh (b f : Sx) (E : Env) c A : kWh b f E c A = if c = true then (b E A).turn f else .nx E A := rfl
@[simp] theorem ev_iSeq (e : Ex) E A : iSeq e E A = (e E A).bind kSeq := rfl
@[simp] theorem ev_iRng1 (a : Ax) E A : iRng1 a E A = (a E A).bind kRng1 := rfl
@[simp] theorem ev_iRng2 (a : Ax) E A : iRng2 a E A = (a E A).bind kRng2 := rfl
@[simp] theorem ev_iEnum (a : Ax) E A : iEnum a E A = (a E A).bind kEnum := rfl
@[simp] theorem ev_tYes _x0 A : tYes _x0 A = .ok true A := rfl
@[simp] theorem ev_eLc (it : Ix) (g : Gx) (t : Tx) (e : Ex) (own : List Nat) E A : eLc it g t e own E A = (it E A).bind (kLc g t e (wipeE E own)) := rfl
@[simp] theorem ev_mkIns (c : Nat) (F : Fn) ds A : mkIns c F ds A = (F (.ref A.length :: ds) (A ++ [.ins c []])).bind (kMk A.length) := rfl
@[simp] theorem ev_mkTup ds A : mkTup ds A = if ds.length ≤ line then .ok (.tup ds) A else .bad := rfl
@[simp] theorem ev_mkLst ds A : mkLst ds A = if ds.length ≤ line then .ok (.ref A.length) (A ++ [.lst ds]) else .bad := rfl
@[simp] theorem ev_kStar2 (ds : List D) es A : kStar2 ds es A = .ok (ds ++ es) A := rfl
@[simp] theorem ev_kStar1 (r : Ax) (E : Env) ds A : kStar1 r E ds A = (r E A).bind (kStar2 ds) := rfl
@[simp] theorem ev_kStar (r : Ax) (E : Env) d A : kStar r E d A = (itemsOf d A).bind (kStar1 r E) := rfl
@[simp] theorem ev_aStar (e : Ex) (r : Ax) E A : aStar e r E A = (e E A).bind (kStar r E) := rfl
@[simp] theorem ev_pNone _x0 A : pNone _x0 A = .ok none A := rfl
@[simp] theorem ev_pSome (e : Ex) E A : pSome e E A = (e E A).bind kPart := rfl
@[simp] theorem ev_kSl3 (d : D) (lo : Option Int) hi A : kSl3 d lo hi A = opSl lo hi A d := rfl
@[simp] theorem ev_kSl2 (q : Px) (E : Env) (d : D) lo A : kSl2 q E d lo A = (q E A).bind (kSl3 d lo) := rfl
@[simp] theorem ev_kSl1 (p q : Px) (E : Env) d A : kSl1 p q E d A = (p E A).bind (kSl2 q E d) := rfl
@[simp] theorem ev_eSl (e : Ex) (p q : Px) E A : eSl e p q E A = (e E A).bind (kSl1 p q E) := rfl
@[simp] theorem ev_kBM (k : Kd) (F : Fn) (a : Ax) (E : Env) x A : kBM k F a E x A = if isKd k A x = true then (a E A).bind (kM2 F x) else .bad := rfl
@[simp] theorem ev_eBM (k : Kd) (F : Fn) (o : Ex) (a : Ax) E A : eBM k F o a E A = (o E A).bind (kBM k F a E) := rfl
@[simp] theorem ev_sPar3 (i j l : Nat) (a : Ax) E A : sPar3 i j l a E A = (a E A).then E (kPar3 i j l E) := rfl
@[simp] theorem ev_sFg (is : List Nat) (m : Sx) E A : sFg is m E A = fgR is (m E A) := rfl
@[simp] theorem ev_kCons2 (d : D) (ds : List D) (A : AH) : kCons2 d ds A = .ok (d :: ds) A := rfl
@[simp] theorem ev_kB (b : Bool) (A : AH) : kB (.bl b) A = .ok b A := rfl
@[simp] theorem ev_kAndV (b : Ex) (E : Env) (c : Bool) (A : AH) : kAndV b E (.bl c) A = if c = true then b E A else .ok (.bl false) A := rfl
@[simp] theorem ev_kOrV (b : Ex) (E : Env) (c : Bool) (A : AH) : kOrV b E (.bl c) A = if c = true then .ok (.bl true) A else b E A := rfl
@[simp] theorem ev_kNotV (c : Bool) (A : AH) : kNotV (.bl c) A = .ok (.bl (!c)) A := rfl
@[simp] theorem ev_kCh3 (G : Fn) (c : Ex) (E : Env) (y : D) (k : Bool) (A : AH) : kCh3 G c E y (.bl k) A = if k = true then (c E A).bind (kCh4 G y) else .ok (.bl false) A := rfl
@[simp] theorem ev_kPart (i : Int) (A : AH) : kPart (.int i) A = .ok (some i) A := rfl
@[simp] theorem ev_gNil (E : Env) (A : AH) : gNil [] E A = .nx E A := rfl
@[simp] theorem ev_gCons (g : Gx) (r : Gsx) (d : D) (ds : List D) (E : Env) (A : AH) : gCons g r (d :: ds) E A = (g d E A).only.seq (r ds) := rfl
@[simp] theorem ev_gTup (n : Nat) (r : Gsx) (ds : List D) (E : Env) (A : AH) : gTup n r (.tup ds) E A = if ds.length = n then r ds E A else .bad := rfl
@[simp] theorem ev_kPar (i j : Nat) (E : Env) (x y : D) (A : AH) : kPar i j E [x, y] A = .nx ((E.set i (some x)).set j (some y)) A := rfl
@[simp] theorem ev_kPar3 (i j l : Nat) (E : Env) (x y z : D) (A : AH) : kPar3 i j l E [x, y, z] A = .nx (((E.set i (some x)).set j (some y)).set l (some z)) A := rfl
@[simp] theorem ev_kSeqT (ds : List D) (A : AH) : kSeq (.tup ds) A = .ok (.seq ds) A := rfl
@[simp] theorem ev_kSeqR (i : Nat) (A : AH) : kSeq (.ref i) A = okI (.lst i) A (seqAt A i) := rfl
@[simp] theorem ev_okI (s : Src) (A : AH) (ds : List D) : okI s A (some ds) = .ok s A := rfl
@[simp] theorem ev_kRng1 (j : Int) (A : AH) : kRng1 [.int j] A = if small62 j = true then .ok (.seq (upto 0 j.toNat)) A else .bad := rfl
@[simp] theorem ev_kRng2 (i j : Int) (A : AH) : kRng2 [.int i, .int j] A = if (small62 i && small62 j) = true then .ok (.seq (upto i (j - i).toNat)) A else .bad := rfl
@[simp] theorem ev_kEnumT (ds : List D) (A : AH) : kEnum [.tup ds] A = .ok (.seq (enumD 0 ds)) A := rfl
@[simp] theorem ev_kEnumR (i : Nat) (A : AH) : kEnum [.ref i] A = okI (.enum i) A (seqAt A i) := rfl
@[simp] theorem ev_kMk (n : Nat) (A : AH) : kMk n .non A = .ok (.ref n) A := rfl
@[simp] theorem ev_seqAt (A : AH) (i : Nat) : seqAt A i = seqO A[i]? := rfl
@[simp] theorem ev_seqOl (ds : List D) : seqO (some (.lst ds)) = some ds := rfl
@[simp] theorem ev_seqOr (ds : List D) : seqO (some (.rol ds)) = some ds := rfl
@[simp] theorem ev_itemsT (ds : List D) (A : AH) : itemsOf (.tup ds) A = .ok ds A := rfl
@[simp] theorem ev_itemsR (i : Nat) (A : AH) : itemsOf (.ref i) A = itemsO A (seqStar A[i]?) := rfl
@[simp] theorem ev_seqStarL (ds : List D) : seqStar (some (.lst ds)) = some ds := rfl
@[simp] theorem ev_seqStarR (ds : List D) : seqStar (some (.rol ds)) = some ds := rfl
@[simp] theorem ev_seqStarD (kvs : List (D × D)) : seqStar (some (.dic kvs)) = some (kvs.map (·.1)) := rfl
@[simp] theorem ev_itemsO (ds : List D) (A : AH) : itemsO A (some ds) = .ok ds A := rfl
@[simp] theorem ev_addI (i j : Int) (A : AH) : opAdd [.int i, .int j] A = .ok (.int (i + j)) A := rfl
@[simp] theorem ev_addT (xs ys : List D) (A : AH) : opAdd [.tup xs, .tup ys] A = if xs.length + ys.length ≤ line then .ok (.tup (xs ++ ys)) A else .bad := rfl
@[simp] theorem ev_addR (i j : Nat) (A : AH) : opAdd [.ref i, .ref j] A = lst2 A A[i]? A[j]? := rfl
@[simp] theorem ev_lst2 (A : AH) (xs ys : List D) : lst2 A (some (.lst xs)) (some (.lst ys)) = if xs.length + ys.length ≤ line then .ok (.ref A.length) (A ++ [.lst (xs ++ ys)]) else .bad := rfl
@[simp] theorem ev_subI (i j : Int) (A : AH) : opSub [.int i, .int j] A = .ok (.int (i - j)) A := rfl
@[simp] theorem ev_addII (i j : Int) (A : AH) : opAddI [.int i, .int j] A = .ok (.int (i + j)) A := rfl
@[simp] theorem ev_subII (i j : Int) (A : AH) : opSubI [.int i, .int j] A = .ok (.int (i - j)) A := rfl
@[simp] theorem ev_mulI (i j : Int) (A : AH) : opMul [.int i, .int j] A = if (tooWide i && tooWide j) = true then .bad else .ok (.int (i * j)) A := rfl
@[simp] theorem ev_mulR (i : Nat) (k : Int) (A : AH) : opMul [.ref i, .int k] A = mulL A k A[i]? := rfl
@[simp] theorem ev_mulL (A : AH) (k : Int) (xs : List D) : mulL A k (some (.lst xs)) = if -(2 ^ 63) ≤ k ∧ k < 2 ^ 63 then (if xs.length * k.toNat ≤ line then .ok (.ref A.length) (A ++ [.lst (rep k xs)]) else .bad) else .bad := rfl
theorem ev_mulT (xs : List D) (k : Int) (A : AH) : opMul [.tup xs, .int k] A = if xs ≠ [] ∧ 2 ≤ k ∧ k ≤ 1000 ∧ xs.length ≤ 1000 then .ok (.tup (rep k xs)) A else .bad := rfl
@[simp] theorem ev_modI (i j : Int) (A : AH) : opMod [.int i, .int j] A = if j ≠ 0 then .ok (.int (i.fmod j)) A else .bad := rfl
@[simp] theorem ev_divI (i j : Int) (A : AH) : opDiv [.int i, .int j] A = if j ≠ 0 ∧ j.natAbs < 1073741824 then .ok (.int (i.fdiv j)) A else .bad := rfl
@[simp] theorem ev_powI (i j : Int) (A : AH) : opPow [.int i, .int j] A = if 0 ≤ j ∧ j ≤ 1000000 ∧ i.natAbs < 2 ^ 64 then .ok (.int (i ^ j.toNat)) A else .bad := rfl
@[simp] theorem ev_negI (i : Int) (A : AH) : opNeg [.int i] A = .ok (.int (-i)) A := rfl
@[simp] theorem ev_lt (i j : Int) (A : AH) : opLt [.int i, .int j] A = .ok (.bl (decide (i < j))) A := rfl
@[simp] theorem ev_le (i j : Int) (A : AH) : opLe [.int i, .int j] A = .ok (.bl (decide (i ≤ j))) A := rfl
@[simp] theorem ev_gt (i j : Int) (A : AH) : opGt [.int i, .int j] A = .ok (.bl (decide (j < i))) A := rfl
@[simp] theorem ev_ge (i j : Int) (A : AH) : opGe [.int i, .int j] A = .ok (.bl (decide (j ≤ i))) A := rfl
@[simp] theorem ev_is (x : D) (A : AH) : opIs [x, .non] A = .ok (.bl x.isN) A := by cases x <;> rfl
@[simp] theorem ev_nis (x : D) (A : AH) : opNis [x, .non] A = .ok (.bl (!x.isN)) A := by cases x <;> rfl
@[simp] theorem isN_non : D.isN .non = true := rfl
@[simp] theorem isN_int (i : Int) : D.isN (.int i) = false := rfl
@[simp] theorem isN_bl (i : Bool) : D.isN (.bl i) = false := rfl
@[simp] theorem isN_str (i : Str) : D.isN (.str i) = false := rfl
@[simp] theorem isN_tup (i : List D) : D.isN (.tup i) = false := rfl
@[simp] theorem isN_ref (i : Nat) : D.isN (.ref i) = false := rfl
@[simp] theorem ev_ixT (ds : List D) (i : Int) (A : AH) : opIx [.tup ds, .int i] A = okO A (atD ds i) := rfl
@[simp] theorem ev_ixR (j : Nat) (i : Int) (A : AH) : opIx [.ref j, .int i] A = atS A i (seqAt A j) := rfl
@[simp] theorem ev_ixL (j : Nat) (i : Int) (A : AH) : opIxL [.ref j, .int i] A = atS A i (seqAt A j) := rfl
@[simp] theorem ev_atS (A : AH) (i : Int) (ds : List D) : atS A i (some ds) = okO A (atD ds i) := rfl
@[simp] theorem ev_stIx (i : Nat) (j : Int) (d : D) (A : AH) : stIx (.ref i) (.int j) d A = setO i j d A A[i]? := rfl
@[simp] theorem ev_setO (i : Nat) (j : Int) (d : D) (A : AH) (ds : List D) : setO i j d A (some (.lst ds)) = (ixD ds.length j).map fun k => A.set i (.lst (ds.set k d)) := rfl
@[simp] theorem ev_slT (lo hi : Option Int) (A : AH) (ds : List D) : opSl lo hi A (.tup ds) = .ok (.tup (cutD ds lo hi)) A := rfl
@[simp] theorem ev_slR (lo hi : Option Int) (A : AH) (i : Nat) : opSl lo hi A (.ref i) = cutS A lo hi (seqAt A i) := rfl
@[simp] theorem ev_cutS (lo hi : Option Int) (A : AH) (ds : List D) : cutS A lo hi (some ds) = .ok (.ref A.length) (A ++ [.lst (cutD ds lo hi)]) := rfl
@[simp] theorem ev_lenT (ds : List D) (A : AH) : biLen [.tup ds] A = .ok (.int ds.length) A := rfl
@[simp] theorem ev_lenR (i : Nat) (A : AH) : biLen [.ref i] A = lenS A A[i]? := rfl
@[simp] theorem ev_lenSl (A : AH) (ds : List D) : lenS A (some (.lst ds)) = .ok (.int ds.length) A := rfl
@[simp] theorem ev_lenSr (A : AH) (ds : List D) : lenS A (some (.rol ds)) = .ok (.int ds.length) A := rfl
@[simp] theorem ev_listT (ds : List D) (A : AH) : biList [.tup ds] A = .ok (.ref A.length) (A ++ [.lst ds]) := rfl
@[simp] theorem ev_listR (i : Nat) (A : AH) : biList [.ref i] A = toLst A (seqAt A i) := rfl
@[simp] theorem ev_toLst (A : AH) (ds : List D) : toLst A (some ds) = .ok (.ref A.length) (A ++ [.lst ds]) := rfl
@[simp] theorem ev_tupleT (ds : List D) (A : AH) : biTuple [.tup ds] A = .ok (.tup ds) A := rfl
@[simp] theorem ev_tupleR (i : Nat) (A : AH) : biTuple [.ref i] A = toTup A (seqAt A i) := rfl
@[simp] theorem ev_toTup (A : AH) (ds : List D) : toTup A (some ds) = .ok (.tup ds) A := rfl
@[simp] theorem ev_intI (i : Int) (A : AH) : biInt [.int i] A = .ok (.int i) A := rfl
@[simp] theorem ev_intB (b : Bool) (A : AH) : biInt [.bl b] A = .ok (.int (if b then 1 else 0)) A := rfl
@[simp] theorem ev_absI (i : Int) (A : AH) : biAbs [.int i] A = .ok (.int (if i < 0 then -i else i)) A := rfl
@[simp] theorem ev_maxR (i : Nat) (A : AH) : biMax [.ref i] A = maxO A ((seqAt A i).bind intsOf) := rfl
@[simp] theorem ev_maxO (A : AH) (n : Int) (ns : List Int) : maxO A (some (n :: ns)) = .ok (.int (maxI n ns)) A := rfl
@[simp] theorem ev_allR (i : Nat) (A : AH) : biAll [.ref i] A = allO A ((seqAt A i).bind blsOf) := rfl
@[simp] theorem ev_allO (A : AH) (bs : List Bool) : allO A (some bs) = .ok (.bl (bs.all id)) A := rfl
@[simp] theorem ev_anyR (i : Nat) (A : AH) : biAny [.ref i] A = anyO A ((seqAt A i).bind blsOf) := rfl
@[simp] theorem ev_anyO (A : AH) (bs : List Bool) : anyO A (some bs) = .ok (.bl (bs.any id)) A := rfl
@[simp] theorem ev_sumR (i : Nat) (A : AH) : biSum [.ref i] A = sumO A ((seqAt A i).bind intsOf) := rfl
@[simp] theorem ev_sumO (A : AH) (ns : List Int) : sumO A (some ns) = .ok (.int ns.sum) A := rfl
@[simp] theorem ev_isiN (t : Ty) (A : AH) : biIsi t [.non] A = .ok (.bl false) A := rfl
@[simp] theorem ev_isiB (t : Ty) (b : Bool) (A : AH) : biIsi t [.bl b] A = .ok (.bl t.ofB) A := rfl
@[simp] theorem ev_isiI (t : Ty) (b : Int) (A : AH) : biIsi t [.int b] A = .ok (.bl t.ofI) A := rfl
@[simp] theorem ev_isiS (t : Ty) (b : Str) (A : AH) : biIsi t [.str b] A = .ok (.bl t.ofS) A := rfl
@[simp] theorem ev_isiT (t : Ty) (b : List D) (A : AH) : biIsi t [.tup b] A = .ok (.bl t.ofT) A := rfl
@[simp] theorem ev_isiR (t : Ty) (i : Nat) (A : AH) : biIsi t [.ref i] A = tyO t A A[i]? := rfl
@[simp] theorem ev_tyO (t : Ty) (A : AH) (ds : List D) : tyO t A (some (.lst ds)) = .ok (.bl t.ofL) A := rfl
@[simp] theorem ev_app (i : Nat) (d : D) (A : AH) : mAppend [.ref i, d] A = appO i d A A[i]? := rfl
@[simp] theorem ev_appO (i : Nat) (d : D) (A : AH) (ds : List D) : appO i d A (some (.lst ds)) = if ds.length < line then .ok .non (A.set i (.lst (ds ++ [d]))) else .bad := rfl
@[simp] theorem ev_isKdR (k : Kd) (A : AH) (i : Nat) : isKd k A (.ref i) = kindO k A[i]? := rfl
@[simp] theorem ev_kindL (ds : List D) : kindO .list (some (.lst ds)) = true := rfl
@[simp] theorem ev_kindD (ds : List (D × D)) : kindO .dict (some (.dic ds)) = true := rfl
theorem isIns_of {c : Nat} {A : AH} {i : Nat} {fs : List (Nat × D)} (h : A[i]? = some (.ins c fs)) : isIns c A (.ref i) = true := by simp [isIns, h]
@[simp] theorem ev_fFld (cs : List Nat) (n i : Nat) (A : AH) : fFld cs n [.ref i] A = oFld cs n A A[i]? := rfl
@[simp] theorem ev_oFld (cs : List Nat) (n : Nat) (A : AH) (c : Nat) (fs : List (Nat × D)) : oFld cs n A (some (.ins c fs)) = if c ∈ cs then okD A (some (lookF n fs)) else .bad := rfl
@[simp] theorem ev_putFld (cs : List Nat) (n : Nat) (d : D) (A : AH) (i : Nat) : putFld cs n d A (.ref i) = oPut cs n i d A A[i]? := rfl
@[simp] theorem ev_oPut (cs : List Nat) (n i : Nat) (d : D) (A : AH) (c : Nat) (fs : List (Nat × D)) : oPut cs n i d A (some (.ins c fs)) = if c ∈ cs ∧ fs.length < 1000 then some (A.set i (.ins c (setF n d fs))) else none := rfl
@[simp] theorem lookF_nil (n : Nat) : lookF n [] = none := rfl
@[simp] theorem lookF_cons (n m : Nat) (c : D) (r : List (Nat × D)) : lookF n ((m, c) :: r) = if m = n then some c else lookF n r := rfl
@[simp] theorem setF_nil (n : Nat) (d : D) : setF n d [] = [(n, d)] := rfl
@[simp] theorem setF_cons (n m : Nat) (c d : D) (r : List (Nat × D)) : setF n d ((m, c) :: r) = if m = n then (m, d) :: r else (m, c) :: setF n d r := rfl
@[simp] theorem wipeE_nil (E : Env) : wipeE E [] = E := rfl
@[simp] theorem wipeE_cons (E : Env) (v : Nat) (vs : List Nat) : wipeE E (v :: vs) = (wipeE E vs).set v none := rfl
@[simp] theorem fgE_nil (E : Env) : fgE [] E = E := rfl
@[simp] theorem fgE_cons (E : Env) (v : Nat) (vs : List Nat) : fgE (v :: vs) E = fgE vs (E.set v none) := rfl
@[simp] theorem fgR_nx (is : List Nat) (E : Env) (A : AH) : fgR is (.nx E A) = .nx (fgE is E) A := rfl
@[simp] theorem fgR_rt (is : List Nat) (d : D) (A : AH) : fgR is (.rt d A) = .rt d A := rfl
@[simp] theorem ev_sGc (m : Sx) (E : Env) (A : AH) : sGc m E A = gcS A (m E A) := rfl
@[simp] theorem gcS_nx (A : AH) (E : Env) (B : AH) : gcS A (.nx E B) = .nx E (gcE A E B) := rfl
@[simp] theorem gcS_rt (A : AH) (d : D) (B : AH) : gcS A (.rt d B) = .rt d B := rfl
@[simp] theorem gcE_same (A : AH) (E : Env) : gcE A E A = A := by
  unfold gcE
  simp
@[simp] theorem bd_non (n : Nat) : D.bd n .non = true := by simp [D.bd]
@[simp] theorem bd_bl (n : Nat) (b : Bool) : D.bd n (.bl b) = true := by simp [D.bd]
@[simp] theorem bd_int (n : Nat) (i : Int) : D.bd n (.int i) = true := by simp [D.bd]
@[simp] theorem bd_str (n : Nat) (i : Str) : D.bd n (.str i) = true := by simp [D.bd]
@[simp] theorem bd_tup (n : Nat) (ds : List D) : D.bd n (.tup ds) = bdAll n ds := by simp [D.bd]
@[simp] theorem bd_ref (n i : Nat) : D.bd n (.ref i) = decide (i < n) := by simp [D.bd]
@[simp] theorem bdAll_nil (n : Nat) : bdAll n [] = true := by simp [bdAll]
@[simp] theorem bdAll_cons (n : Nat) (d : D) (ds : List D) : bdAll n (d :: ds) = (d.bd n && bdAll n ds) := by simp [bdAll]
theorem bdAll_iff (n : Nat) : ∀ ds : List D, bdAll n ds = true ↔ ∀ d ∈ ds, d.bd n = true
  | [] => by simp
  | d :: ds => by simp [bdAll_iff n ds]
theorem okPre_refl (A : AH) : okPre A A := ⟨rfl, fun _ _ h => .inl h⟩
theorem okPre_app (A G : AH) : okPre A ((A ++ G).take A.length) := by rw [List.take_left]; exact okPre_refl A
/-- some object is another one -/
theorem okPre_set {A : AH} {i : Nat} {o : O} (hi : i < A.length) (h : o.bd A.length = true) : okPre A (A.set i o) := ⟨by rw [List.length_set], fun j u e => by
  by_cases z : i = j
  · subst z
    rw [List.getElem?_set_self hi] at e
    cases e
    exact .inr h
  · rw [List.getElem?_set_ne z] at e
    exact .inl e⟩
theorem gc_val {A : AH} {d : D} {B : AH} (h : d.bd A.length = true) (p : okPre A (B.take A.length)) : gc A d B = .ok d (B.take A.length) := by
  unfold gc
  rw [if_pos ⟨h, p⟩]
theorem gc_app {A : AH} {d : D} (G : AH) (h : d.bd A.length = true) : gc A d (A ++ G) = .ok d A := by
  rw [gc_val h (okPre_app A G), List.take_left]
@[simp] theorem gc_self {A : AH} {d : D} (h : d.bd A.length = true) : gc A d A = .ok d A := by
  have := gc_app (A := A) (d := d) [] h
  rwa [List.append_nil] at this
theorem gc_set {A : AH} {d : D} {i : Nat} {o : O} (h : d.bd A.length = true) (hi : i < A.length) (ho : o.bd A.length = true) : gc A d (A.set i o) = .ok d (A.set i o) := by
  have e : (A.set i o).take A.length = A.set i o := by rw [List.take_of_length_le]; rw [List.length_set]; exact Nat.le_refl _
  have := gc_val (B := A.set i o) h (by rw [e]; exact okPre_set hi ho)
  rwa [e] at this
/-- a fresh object comes back -/
theorem gc_new {A G : AH} {j : Nat} {o : O} (e : G[j]? = some o) (m : o.mut = true) (h : o.bd A.length = true) : gc A (.ref (A.length + j)) (A ++ G) = .ok (.ref A.length) (A ++ [o]) := by
  unfold gc
  rw [if_neg (fun z => by have q := z.1; rw [bd_ref, decide_eq_true_eq] at q; omega)]
  have : refO A (A ++ G) (.ref (A.length + j)) = some o := by
    simp [refO, List.getElem?_append_right, e]
  rw [this]
  unfold gcO
  simp only []
  rw [if_pos ⟨m, h, okPre_app A G⟩, List.take_left]
theorem gcE_app {A : AH} {E : Env} (G : AH) (h : envBd A.length E = true) : gcE A E (A ++ G) = A := by
  unfold gcE
  rw [if_pos ⟨h, okPre_app A G⟩, List.take_left]
@[simp] theorem envBd_nil (n : Nat) : envBd n [] = true := rfl
@[simp] theorem envBd_some (n : Nat) (d : D) (E : Env) : envBd n (some d :: E) = (d.bd n && envBd n E) := rfl
@[simp] theorem envBd_none (n : Nat) (E : Env) : envBd n (none :: E) = envBd n E := rfl

/-! ### ends: what holds behind -/
def Res.sat {α : Type} (r : Res α) (P : α → AH → Prop) : Prop := match r with
  | .ok a A => P a A
  | _ => False
@[simp] theorem sat_ok {α : Type} (a : α) (A : AH) (P : α → AH → Prop) : (Res.ok a A).sat P = P a A := rfl
@[simp] theorem sat_bad {α : Type} (P : α → AH → Prop) : (Res.bad : Res α).sat P = False := rfl
@[simp] theorem sat_bind {α β : Type} (r : Res α) (f : α → AH → Res β) (P : β → AH → Prop) : (r.bind f).sat P = r.sat fun a A => (f a A).sat P := by cases r <;> rfl
@[simp] theorem sat_bindN {α β : Type} (r : Res α) (f : α → AH → Res β) (P : β → AH → Prop) : (r.bindN f).sat P = r.sat fun a A => (f a A).sat P := by cases r <;> rfl
theorem Res.sat.mono {α : Type} {r : Res α} {P Q : α → AH → Prop} (h : r.sat P) (q : ∀ a A, P a A → Q a A) : r.sat Q := by
  cases r with
  | ok a A => exact q a A h
  | _ => exact h
theorem sat_iff {α : Type} {r : Res α} {P : α → AH → Prop} : r.sat P ↔ ∃ a A, r = .ok a A ∧ P a A := by
  cases r with
  | ok a A => exact ⟨fun h => ⟨a, A, rfl, h⟩, fun ⟨_, _, e, h⟩ => by cases e; exact h⟩
  | exc x A => exact ⟨fun h => h.elim, fun ⟨_, _, e, _⟩ => by cases e⟩
  | bad => exact ⟨fun h => h.elim, fun ⟨_, _, e, _⟩ => by cases e⟩
def SRes.sat (r : SRes) (N : Env → AH → Prop) (R : D → AH → Prop) : Prop := match r with
  | .nx E A => N E A
  | .rt d A => R d A
  | _ => False
@[simp] theorem ssat_nx (E : Env) (A : AH) (N : Env → AH → Prop) (R : D → AH → Prop) : (SRes.nx E A).sat N R = N E A := rfl
@[simp] theorem ssat_rt (d : D) (A : AH) (N : Env → AH → Prop) (R : D → AH → Prop) : (SRes.rt d A).sat N R = R d A := rfl
@[simp] theorem ssat_bad (N : Env → AH → Prop) (R : D → AH → Prop) : SRes.bad.sat N R = False := rfl
@[simp] theorem ssat_seq (r : SRes) (f : Sx) (N : Env → AH → Prop) (R : D → AH → Prop) : (r.seq f).sat N R = r.sat (fun E A => (f E A).sat N R) R := by cases r <;> rfl
@[simp] theorem ssat_then {α : Type} (r : Res α) (E : Env) (f : α → AH → SRes) (N : Env → AH → Prop) (R : D → AH → Prop) : (r.then E f).sat N R = r.sat fun a A => (f a A).sat N R := by cases r <;> rfl
@[simp] theorem ssat_only (r : SRes) (N : Env → AH → Prop) (R : D → AH → Prop) : r.only.sat N R = r.sat N fun _ _ => False := by cases r <;> rfl
theorem SRes.sat.mono {r : SRes} {N N' : Env → AH → Prop} {R R' : D → AH → Prop} (h : r.sat N R) (q : ∀ E A, N E A → N' E A) (p : ∀ d A, R d A → R' d A) : r.sat N' R' := by
  cases r with
  | nx E A => exact q E A h
  | rt d A => exact p d A h
  | _ => exact h
/-- a def's end -/
theorem sat_def {np N : Nat} {b : Sx} {ds : List D} {A : AH} {P : D → AH → Prop} (hl : ds.length = np) (h : (b (startE N ds) A).sat (fun _ B => (gc A .non B).sat P) fun d B => (gc A d B).sat P) : (runDef np N b ds A).sat P := by
  unfold runDef
  rw [if_pos hl]
  cases e : b (startE N ds) A with
  | nx E B => rw [e] at h; exact h
  | rt d B => rw [e] at h; exact h
  | _ => rw [e] at h; exact h.elim
/-- turns of a for -/
def tsat (r : SRes) (J N : Env → AH → Prop) (R : D → AH → Prop) : Prop := match r with
  | .nx E A => J E A
  | .ct E A => J E A
  | .bk E A => N E A
  | .rt d A => R d A
  | _ => False
theorem for_sat {src : Src} {g : Gx} {b : Sx} {E : Env} {A : AH} {N : Env → AH → Prop} {R : D → AH → Prop} (n : Nat) (I : Nat → Env → AH → Prop) (hn : n ≤ src.size A) (h0 : I 0 E A)
    (hs : ∀ k E A, k < n → I k E A → ∃ d, src.at A k = .item d ∧ tsat ((g d E A).only.seq b) (I (k + 1)) N R) (he : ∀ E A, I n E A → src.at A n = .stop ∧ N E A) : (kFor g b E src A).sat N R := by
  have main : ∀ m k E A, k + m = n → I k E A → ∀ f, m + 1 ≤ f → (forN src g b f k E A).sat N R := by
    intro m
    induction m with
    | zero =>
      intro k E A hk hI f hf
      obtain ⟨f, rfl⟩ : ∃ f', f = f' + 1 := ⟨f - 1, by omega⟩
      have e : k = n := by omega
      subst e
      obtain ⟨q1, q2⟩ := he E A hI
      show (forK g b (forN src g b f (k + 1)) E A (src.at A k)).sat N R
      rw [q1]
      exact q2
    | succ m ih =>
      intro k E A hk hI f hf
      obtain ⟨f, rfl⟩ : ∃ f', f = f' + 1 := ⟨f - 1, by omega⟩
      obtain ⟨d, q1, q2⟩ := hs k E A (by omega) hI
      show (forK g b (forN src g b f (k + 1)) E A (src.at A k)).sat N R
      rw [q1]
      show (((g d E A).only.seq b).turn (forN src g b f (k + 1))).sat N R
      cases z : (g d E A).only.seq b with
      | nx E2 A2 => rw [z] at q2; exact ih (k + 1) E2 A2 (by omega) q2 f (by omega)
      | ct E2 A2 => rw [z] at q2; exact ih (k + 1) E2 A2 (by omega) q2 f (by omega)
      | bk E2 A2 => rw [z] at q2; exact q2
      | rt d2 A2 => rw [z] at q2; exact q2
      | _ => rw [z] at q2; exact q2.elim
  exact main n 0 E A (by omega) h0 _ (by omega)
theorem tsat_of {r : SRes} {J N : Env → AH → Prop} {R : D → AH → Prop} (h : r.sat J R) : tsat r J N R := by cases r <;> first | exact h | exact h.elim
theorem tsat_seq {r : SRes} {b : Sx} {J N : Env → AH → Prop} {R : D → AH → Prop} (h : r.sat (fun E A => tsat (b E A) J N R) R) : tsat (r.seq b) J N R := by cases r <;> first | exact h | exact h.elim
theorem while_sat {t : Tx} {b : Sx} {E : Env} {A : AH} {N : Env → AH → Prop} {R : D → AH → Prop} (n : Nat) (I : Nat → Env → AH → Prop) (hn : n < fuel) (h0 : I n E A)
    (hs : ∀ k E A, I k E A → (t E A).sat fun c A1 => if c = true then ∃ j, k = j + 1 ∧ tsat (b E A1) (I j) N R else N E A1) : (sWhile t b E A).sat N R := by
  have main : ∀ n E A f, n < f → I n E A → (whileN t b f E A).sat N R := by
    intro n
    induction n with
    | zero =>
      intro E A f hf hI
      obtain ⟨f, rfl⟩ : ∃ f', f = f' + 1 := ⟨f - 1, by omega⟩
      have q := hs 0 E A hI
      show ((t E A).then E (kWh b (whileN t b f) E)).sat N R
      rw [ssat_then]
      refine q.mono fun c A1 z => ?_
      cases c with
      | false => exact z
      | true =>
        obtain ⟨j, e, _⟩ : ∃ j, 0 = j + 1 ∧ tsat (b E A1) (I j) N R := z
        cases e
    | succ n ih =>
      intro E A f hf hI
      obtain ⟨f, rfl⟩ : ∃ f', f = f' + 1 := ⟨f - 1, by omega⟩
      have q := hs (n + 1) E A hI
      show ((t E A).then E (kWh b (whileN t b f) E)).sat N R
      rw [ssat_then]
      refine q.mono fun c A1 z => ?_
      cases c with
      | false => exact z
      | true =>
        obtain ⟨j, e, z⟩ : ∃ j, n + 1 = j + 1 ∧ tsat (b E A1) (I j) N R := z
        cases e
        show ((b E A1).turn (whileN t b f)).sat N R
        cases y : b E A1 with
        | nx E2 A2 => rw [y] at z; exact ih E2 A2 f (by omega) z
        | ct E2 A2 => rw [y] at z; exact ih E2 A2 f (by omega) z
        | bk E2 A2 => rw [y] at z; exact z
        | rt d2 A2 => rw [y] at z; exact z
        | _ => rw [y] at z; exact z.elim
  exact main n E A fuel hn h0
/-- a comprehension; I k A: its list (at the number l) is within A -/
theorem lc_sat {src : Src} {g : Gx} {t : Tx} {e : Ex} {E : Env} {A : AH} {P : D → AH → Prop} (n : Nat) (I : Nat → AH → Prop) (hn : n ≤ src.size A) (h0 : I 0 (A ++ [.lst []]))
    (hs : ∀ k B, k < n → I k B → ∃ d E5 A5, src.at B k = .item d ∧ g d E B = .nx E5 A5 ∧ (t E5 A5).sat fun c A6 => if c = true then (e E5 A6).sat (fun y A7 => ∃ acc, A7[A.length]? = some (.lst acc) ∧ acc.length < line ∧ I (k + 1) (A7.set A.length (.lst (acc ++ [y])))) else I (k + 1) A6)
    (he : ∀ B, I n B → src.at B n = .stop ∧ P (.ref A.length) B) : (kLc g t e E src A).sat P := by
  have main : ∀ m k B, k + m = n → I k B → ∀ f, m + 1 ≤ f → (lcN src g t e E A.length f k B).sat P := by
    intro m
    induction m with
    | zero =>
      intro k B hk hI f hf
      obtain ⟨f, rfl⟩ : ∃ f', f = f' + 1 := ⟨f - 1, by omega⟩
      have e0 : k = n := by omega
      subst e0
      obtain ⟨q1, q2⟩ := he B hI
      show (lcK g t e E A.length (lcN src g t e E A.length f (k + 1)) B (src.at B k)).sat P
      rw [q1]
      exact q2
    | succ m ih =>
      intro k B hk hI f hf
      obtain ⟨f, rfl⟩ : ∃ f', f = f' + 1 := ⟨f - 1, by omega⟩
      obtain ⟨d, E5, A5, q1, q2, q3⟩ := hs k B (by omega) hI
      show (lcK g t e E A.length (lcN src g t e E A.length f (k + 1)) B (src.at B k)).sat P
      rw [q1]
      show (kLc1 t e A.length (lcN src g t e E A.length f (k + 1)) (g d E B)).sat P
      rw [q2]
      show ((t E5 A5).bindN (kLc2 e E5 A.length (lcN src g t e E A.length f (k + 1)))).sat P
      rw [sat_bindN]
      refine q3.mono fun c A6 z => ?_
      cases c with
      | false => exact ih (k + 1) A6 (by omega) z f (by omega)
      | true =>
        show ((e E5 A6).bindN (kLc3 A.length (lcN src g t e E A.length f (k + 1)))).sat P
        rw [sat_bindN]
        refine Res.sat.mono (P := fun y A7 => ∃ acc, A7[A.length]? = some (.lst acc) ∧ acc.length < line ∧ I (k + 1) (A7.set A.length (.lst (acc ++ [y])))) z fun y A7 ⟨acc, r1, r2, r3⟩ => ?_
        show (okA (lcN src g t e E A.length f (k + 1)) (addTo A.length y A7)).sat P
        have : addTo A.length y A7 = some (A7.set A.length (.lst (acc ++ [y]))) := by
          unfold addTo addO
          rw [r1]
          simp only [r2, if_true]
        rw [this]
        exact ih (k + 1) _ (by omega) r3 f (by omega)
  exact main n 0 _ (by omega) h0 _ (by omega)
@[simp] theorem sat_ite {α : Type} (p : Prop) [Decidable p] (r s : Res α) (P : α → AH → Prop) : (if p then r else s).sat P ↔ (p → r.sat P) ∧ (¬p → s.sat P) := by
  by_cases h : p <;> simp [h]
@[simp] theorem ssat_ite (p : Prop) [Decidable p] (r s : SRes) (N : Env → AH → Prop) (R : D → AH → Prop) : (if p then r else s).sat N R ↔ (p → r.sat N R) ∧ (¬p → s.sat N R) := by
  by_cases h : p <;> simp [h]
@[simp] theorem tsat_ite (p : Prop) [Decidable p] (r s : SRes) (J N : Env → AH → Prop) (R : D → AH → Prop) : tsat (if p then r else s) J N R ↔ (p → tsat r J N R) ∧ (¬p → tsat s J N R) := by
  by_cases h : p <;> simp [h]
theorem upto_len (lo : Int) (n : Nat) : (upto lo n).length = n := by simp [upto]
theorem enumD_len : ∀ (ds : List D) (k : Nat), (enumD k ds).length = ds.length
  | [], _ => rfl
  | d :: ds, k => by simp [enumD, enumD_len ds]
theorem sat_eq {α : Type} {r : Res α} {x : α} {A : AH} (h : r.sat fun a B => a = x ∧ B = A) : r = .ok x A := by
  obtain ⟨a, B, e, rfl, rfl⟩ := sat_iff.mp h
  exact e
theorem set_last {A G : AH} {o o' : O} : (A ++ o :: G).set A.length o' = A ++ o' :: G := by
  rw [List.set_append_right _ _ (Nat.le_refl _), Nat.sub_self]
  rfl
theorem get_last {A G : AH} {o : O} : (A ++ o :: G)[A.length]? = some o := by
  rw [List.getElem?_append_right (Nat.le_refl _), Nat.sub_self]
  rfl
theorem get_left {A G : AH} {i : Nat} {o : O} (h : A[i]? = some o) : (A ++ G)[i]? = some o := by
  rw [List.getElem?_append_left (List.getElem?_eq_some_iff.mp h).1]
  exact h
/-- a comprehension that changes nothing: the items that pass, mapped -/
theorem lc_fm {src : Src} {g : Gx} {t : Tx} {e : Ex} {E : Env} {A : AH} {ds : List D} (Ed : D → Env) (p : D → Bool) (f : D → D) (hl : ds.length ≤ line) (hsz : src.size A = ds.length) (hat : ∀ G k, src.at (A ++ G) k = stepO ds[k]?)
    (hg : ∀ d ∈ ds, ∀ G, g d E (A ++ G) = .nx (Ed d) (A ++ G)) (ht : ∀ d ∈ ds, ∀ G, t (Ed d) (A ++ G) = .ok (p d) (A ++ G)) (he : ∀ d ∈ ds, p d = true → ∀ G, e (Ed d) (A ++ G) = .ok (f d) (A ++ G)) :
    kLc g t e E src A = .ok (.ref A.length) (A ++ [.lst ((ds.filter p).map f)]) := by
  refine sat_eq (lc_sat ds.length (fun k B => k ≤ ds.length ∧ B = A ++ [.lst (((ds.take k).filter p).map f)]) (Nat.le_of_eq hsz.symm) ⟨Nat.zero_le _, by simp⟩ ?_ ?_)
  · rintro k B hk ⟨_, rfl⟩
    obtain ⟨d, hd⟩ : ∃ d, ds[k]? = some d := ⟨_, List.getElem?_eq_getElem hk⟩
    have hm : d ∈ ds := List.mem_of_getElem? hd
    have htk : ds.take (k + 1) = ds.take k ++ [d] := by rw [List.take_add_one, hd]; rfl
    refine ⟨d, Ed d, _, by rw [hat, hd]; rfl, hg d hm _, ?_⟩
    rw [ht d hm]
    show if p d = true then _ else _
    by_cases z : p d = true
    · rw [if_pos z, he d hm z]
      refine ⟨_, get_last, ?_, hk, ?_⟩
      · rw [List.length_map]
        exact Nat.lt_of_le_of_lt (List.length_filter_le _ _) (by rw [List.length_take]; omega)
      · rw [set_last, htk, List.filter_append, List.map_append]
        simp [z]
    · rw [if_neg z]
      refine ⟨hk, ?_⟩
      rw [htk, List.filter_append]
      simp [z]
  · rintro B ⟨_, rfl⟩
    refine ⟨by rw [hat, List.getElem?_eq_none (Nat.le_refl _)]; rfl, rfl, by rw [List.take_length]⟩
theorem lc_map {src : Src} {g : Gx} {e : Ex} {E : Env} {A : AH} {ds : List D} (Ed : D → Env) (f : D → D) (hl : ds.length ≤ line) (hsz : src.size A = ds.length) (hat : ∀ G k, src.at (A ++ G) k = stepO ds[k]?)
    (hg : ∀ d ∈ ds, ∀ G, g d E (A ++ G) = .nx (Ed d) (A ++ G)) (he : ∀ d ∈ ds, ∀ G, e (Ed d) (A ++ G) = .ok (f d) (A ++ G)) :
    kLc g tYes e E src A = .ok (.ref A.length) (A ++ [.lst (ds.map f)]) := by
  have q := lc_fm (g := g) (t := tYes) (e := e) (E := E) (A := A) (src := src) Ed (fun _ => true) f hl hsz hat hg (fun _ _ _ => rfl) (fun d h _ => he d h)
  rwa [List.filter_eq_self.mpr (fun _ _ => rfl)] at q
theorem at_seq (ds : List D) (A : AH) (k : Nat) : (Src.seq ds).at A k = stepO ds[k]? := rfl
theorem at_lst {A : AH} {i : Nat} {ds : List D} (h : seqO A[i]? = some ds) (k : Nat) : (Src.lst i).at A k = stepO ds[k]? := by
  show (match seqAt A i with | some ds => stepO ds[k]? | none => .bad) = _
  rw [show seqAt A i = some ds from h]
theorem at_enum {A : AH} {i : Nat} {ds : List D} (h : seqO A[i]? = some ds) (k : Nat) : (Src.enum i).at A k = stepE k ds[k]? := by
  show (match seqAt A i with | some ds => stepE k ds[k]? | none => .bad) = _
  rw [show seqAt A i = some ds from h]
theorem size_lst {A : AH} {i : Nat} {ds : List D} (h : seqO A[i]? = some ds) : (Src.lst i).size A = ds.length := by
  show ((seqAt A i).getD []).length = _
  rw [show seqAt A i = some ds from h]
  rfl
theorem size_enum {A : AH} {i : Nat} {ds : List D} (h : seqO A[i]? = some ds) : (Src.enum i).size A = ds.length := by
  show ((seqAt A i).getD []).length = _
  rw [show seqAt A i = some ds from h]
  rfl
theorem seq_sat {a b : Sx} {E : Env} {A : AH} {N : Env → AH → Prop} {R : D → AH → Prop} (N1 : Env → AH → Prop) (h : (a E A).sat N1 R) (k : ∀ E A, N1 E A → (b E A).sat N R) : (sSeq a b E A).sat N R := by
  rw [ev_sSeq, ssat_seq]
  exact h.mono k fun _ _ q => q
theorem gcE_keep {A : AH} {E : Env} {B : AH} (h : envBd A.length E = false) : gcE A E B = B := by
  unfold gcE
  rw [if_neg (fun z => by rw [z.1] at h; cases h)]
theorem gcE_ok' {A : AH} {E : Env} {B : AH} (h : envBd A.length E = true) (p : okPre A (B.take A.length)) : gcE A E B = B.take A.length := by
  unfold gcE
  rw [if_pos ⟨h, p⟩]
theorem gc_bl (A : AH) (b : Bool) (B : AH) : (gc A (.bl b) B).sat fun d _ => d = .bl b := by
  unfold gc
  split
  · exact rfl
  · exact rfl
theorem envBd_iff (n : Nat) : ∀ E : Env, envBd n E = true ↔ ∀ d, some d ∈ E → d.bd n = true
  | [] => by simp
  | some c :: E => by
    simp [envBd_iff n E]
  | none :: E => by
    simp [envBd_iff n E]
@[simp] theorem ssat_gcS (A : AH) (r : SRes) (N : Env → AH → Prop) (R : D → AH → Prop) : (gcS A r).sat N R = r.sat (fun E B => N E (gcE A E B)) R := by cases r <;> rfl
@[simp] theorem ssat_fgR (is : List Nat) (r : SRes) (N : Env → AH → Prop) (R : D → AH → Prop) : (fgR is r).sat N R = r.sat (fun E B => N (fgE is E) B) R := by cases r <;> rfl
theorem gcE_len {A : AH} {E : Env} {B : AH} (h : B.length ≤ A.length) : gcE A E B = B := by
  unfold gcE
  split
  · exact List.take_of_length_le h
  · rfl
end DL
set_option Elab.async false
set_option linter.all false
set_option maxRecDepth 100000
set_option maxHeartbeats 4000000
/-! Equality of pure values (own work). -/
namespace DL
open PySem
mutual
def D.py : D → PyData
  | .non => .none
  | .bl b => .bool b
  | .int i => .int i
  | .str x => .str x
  | .tup ds => .tuple (pys ds)
  | .ref _ => .none
def pys : List D → List PyData
  | [] => []
  | d :: ds => D.py d :: pys ds
end
mutual
/-- no object in it; at most n deep -/
def D.pur : Nat → D → Bool
  | 0, _ => false
  | _ + 1, .non => true
  | _ + 1, .bl _ => true
  | _ + 1, .int _ => true
  | _ + 1, .str x => PyData.canLay0 (.str x)
  | n + 1, .tup ds => purs n ds
  | _ + 1, .ref _ => false
def purs : Nat → List D → Bool
  | _, [] => true
  | n, d :: ds => D.pur n d && purs n ds
end
mutual
/-- no bool in it -/
def D.nob : D → Bool
  | .bl _ => false
  | .tup ds => nobs ds
  | .non => true
  | .int _ => true
  | .str _ => true
  | .ref _ => false
def nobs : List D → Bool
  | [] => true
  | d :: ds => D.nob d && nobs ds
end
theorem purs_iff (n : Nat) : ∀ ds : List D, purs n ds = true ↔ ∀ d ∈ ds, d.pur n = true
  | [] => by simp [purs]
  | d :: ds => by simp [purs, purs_iff n ds]
theorem nobs_iff : ∀ ds : List D, nobs ds = true ↔ ∀ d ∈ ds, d.nob = true
  | [] => by simp [nobs]
  | d :: ds => by simp [nobs, nobs_iff ds]
@[simp] theorem pur_int (n : Nat) (i : Int) : D.pur (n + 1) (.int i) = true := by simp [D.pur]
@[simp] theorem pur_bl (n : Nat) (i : Bool) : D.pur (n + 1) (.bl i) = true := by simp [D.pur]
@[simp] theorem pur_non (n : Nat) : D.pur (n + 1) .non = true := by simp [D.pur]
@[simp] theorem pur_tup (n : Nat) (ds : List D) : D.pur (n + 1) (.tup ds) = purs n ds := by simp [D.pur]
@[simp] theorem purs_nil (n : Nat) : purs n [] = true := by simp [purs]
@[simp] theorem purs_cons (n : Nat) (d : D) (ds : List D) : purs n (d :: ds) = (d.pur n && purs n ds) := by simp [purs]
@[simp] theorem nob_int (i : Int) : D.nob (.int i) = true := by simp [D.nob]
@[simp] theorem nob_non : D.nob .non = true := by simp [D.nob]
@[simp] theorem nob_tup (ds : List D) : D.nob (.tup ds) = nobs ds := by simp [D.nob]
@[simp] theorem nobs_nil : nobs [] = true := by simp [nobs]
@[simp] theorem nobs_cons (d : D) (ds : List D) : nobs (d :: ds) = (d.nob && nobs ds) := by simp [nobs]
@[simp] theorem py_int (i : Int) : D.py (.int i) = .int i := by simp [D.py]
@[simp] theorem py_bl (i : Bool) : D.py (.bl i) = .bool i := by simp [D.py]
@[simp] theorem py_non : D.py .non = .none := by simp [D.py]
@[simp] theorem py_str (i : Str) : D.py (.str i) = .str i := by simp [D.py]
@[simp] theorem py_tup (ds : List D) : D.py (.tup ds) = .tuple (pys ds) := by simp [D.py]
@[simp] theorem pys_nil : pys [] = [] := by simp [pys]
@[simp] theorem pys_cons (d : D) (ds : List D) : pys (d :: ds) = d.py :: pys ds := by simp [pys]
theorem purs_app {n : Nat} {xs ys : List D} : purs n (xs ++ ys) = (purs n xs && purs n ys) := by
  induction xs with
  | nil => simp
  | cons x xs ih => simp [ih, Bool.and_assoc]
theorem nobs_app {xs ys : List D} : nobs (xs ++ ys) = (nobs xs && nobs ys) := by
  induction xs with
  | nil => simp
  | cons x xs ih => simp [ih, Bool.and_assoc]
theorem allSome_some {α : Type} : ∀ (l : List α), allSome (l.map some) = some l
  | [] => rfl
  | a :: l => by simp [allSome, allSome_some l]
mutual
theorem toPy_pur {A : AH} : ∀ {n : Nat} {d : D}, d.pur n = true → toPy A n d = some d.py
  | 0, _, h => by simp [D.pur] at h
  | n + 1, .non, h => by simp [toPy]
  | n + 1, .bl _, h => by simp [toPy]
  | n + 1, .int _, h => by simp [toPy]
  | n + 1, .str x, h => by
    have h' : PyData.canLay0 (.str x) = true := by simpa [D.pur] using h
    simp [toPy, h']
  | n + 1, .tup ds, h => by
    have h' : purs n ds = true := by simpa using h
    simp [toPy, toPys_pur h']
  | n + 1, .ref _, h => by simp [D.pur] at h
theorem toPys_pur {A : AH} : ∀ {n : Nat} {ds : List D}, purs n ds = true → allSome (ds.map (toPy A n)) = some (pys ds)
  | n, [], h => by simp [allSome]
  | n, d :: ds, h => by
    have h' : d.pur n = true ∧ purs n ds = true := by simpa using h
    simp [allSome, toPy_pur h'.1, toPys_pur h'.2]
end
theorem toPy_lst {A : AH} {n i : Nat} {ds : List D} (e : seqAt A i = some ds) (h : purs n ds = true) : toPy A (n + 1) (.ref i) = some (.list (pys ds)) := by
  simp only [toPy, e, toPys_pur h, Option.map_some]
mutual
theorem eqv_same : ∀ (d : D), PyData.eqv d.py d.py = true
  | .non => by simp [PyData.eqv]
  | .bl _ => by simp [PyData.eqv]
  | .int _ => by simp [PyData.eqv]
  | .str _ => by simp [PyData.eqv]
  | .tup ds => by simp [PyData.eqv, eqvAll_same ds]
  | .ref _ => by simp [D.py, PyData.eqv]
theorem eqvAll_same : ∀ (ds : List D), PyData.eqvAll (pys ds) (pys ds) = true
  | [] => by simp [PyData.eqvAll]
  | d :: ds => by simp [PyData.eqvAll, eqv_same d, eqvAll_same ds]
end
mutual
theorem eqv_eq : ∀ (d e : D), d.nob = true → e.nob = true → (PyData.eqv d.py e.py = true ↔ d = e)
  | .non, e, _, he => by cases e <;> simp_all [PyData.eqv, D.nob]
  | .bl _, e, hd, he => by simp [D.nob] at hd
  | .int i, e, hd, he => by cases e <;> simp_all [PyData.eqv, D.nob]
  | .str x, e, hd, he => by cases e <;> simp_all [PyData.eqv, D.nob]
  | .ref _, e, hd, he => by simp [D.nob] at hd
  | .tup ds, .tup es, hd, he => by
    simp only [nob_tup] at hd he
    simp only [py_tup, PyData.eqv, D.tup.injEq]
    exact eqvAll_eq ds es hd he
  | .tup ds, .non, hd, he => by simp [PyData.eqv]
  | .tup ds, .int _, hd, he => by simp [PyData.eqv]
  | .tup ds, .str _, hd, he => by simp [PyData.eqv]
  | .tup ds, .bl _, hd, he => by simp [D.nob] at he
  | .tup ds, .ref _, hd, he => by simp [D.nob] at he
theorem eqvAll_eq : ∀ (ds es : List D), nobs ds = true → nobs es = true → (PyData.eqvAll (pys ds) (pys es) = true ↔ ds = es)
  | [], [], _, _ => by simp [PyData.eqvAll]
  | [], e :: es, _, _ => by simp [PyData.eqvAll]
  | d :: ds, [], _, _ => by simp [PyData.eqvAll]
  | d :: ds, e :: es, hd, he => by
    simp only [nobs_cons, Bool.and_eq_true] at hd he
    simp only [pys_cons, PyData.eqvAll, Bool.and_eq_true, List.cons.injEq]
    rw [eqv_eq d e hd.1 he.1, eqvAll_eq ds es hd.2 he.2]
end
/-- equality as Python sees it -/
def eqD (x y : D) : Bool := PyData.eqv x.py y.py
def eqDs (x y : List D) : Bool := PyData.eqvAll (pys x) (pys y)
theorem opEq_pur {A : AH} {x y : D} (hx : x.pur 60 = true) (hy : y.pur 60 = true) : opEq [x, y] A = .ok (.bl (eqD x y)) A := by
  show eqO A id (toPy A 60 x) (toPy A 60 y) = _
  rw [toPy_pur hx, toPy_pur hy]
  rfl
theorem opNe_pur {A : AH} {x y : D} (hx : x.pur 60 = true) (hy : y.pur 60 = true) : opNe [x, y] A = .ok (.bl (!eqD x y)) A := by
  show eqO A not (toPy A 60 x) (toPy A 60 y) = _
  rw [toPy_pur hx, toPy_pur hy]
  rfl
theorem opEq_lst {A : AH} {i j : Nat} {xs ys : List D} (e : seqAt A i = some xs) (f : seqAt A j = some ys) (hx : purs 59 xs = true) (hy : purs 59 ys = true) : opEq [.ref i, .ref j] A = .ok (.bl (eqDs xs ys)) A := by
  show eqO A id (toPy A 60 _) (toPy A 60 _) = _
  rw [toPy_lst e hx, toPy_lst f hy]
  simp [eqO, PyData.eqv, eqDs]
theorem opNe_lst {A : AH} {i j : Nat} {xs ys : List D} (e : seqAt A i = some xs) (f : seqAt A j = some ys) (hx : purs 59 xs = true) (hy : purs 59 ys = true) : opNe [.ref i, .ref j] A = .ok (.bl (!eqDs xs ys)) A := by
  show eqO A not (toPy A 60 _) (toPy A 60 _) = _
  rw [toPy_lst e hx, toPy_lst f hy]
  simp [eqO, PyData.eqv, eqDs]
/-- a list and a value that is none -/
theorem opEq_lstP {A : AH} {i : Nat} {xs : List D} {y : D} (e : seqAt A i = some xs) (hx : purs 59 xs = true) (hy : y.pur 60 = true) : opEq [.ref i, y] A = .ok (.bl false) A := by
  show eqO A id (toPy A 60 _) (toPy A 60 _) = _
  rw [toPy_lst e hx, toPy_pur hy]
  cases y <;> simp [eqO, PyData.eqv, D.py]
theorem opNe_lstP {A : AH} {i : Nat} {xs : List D} {y : D} (e : seqAt A i = some xs) (hx : purs 59 xs = true) (hy : y.pur 60 = true) : opNe [.ref i, y] A = .ok (.bl true) A := by
  show eqO A not (toPy A 60 _) (toPy A 60 _) = _
  rw [toPy_lst e hx, toPy_pur hy]
  cases y <;> simp [eqO, PyData.eqv, D.py]
@[simp] theorem eqD_same (x : D) : eqD x x = true := eqv_same x
@[simp] theorem eqDs_same (x : List D) : eqDs x x = true := eqvAll_same x
theorem eqD_iff {x y : D} (hx : x.nob = true) (hy : y.nob = true) : eqD x y = true ↔ x = y := eqv_eq x y hx hy
theorem eqDs_iff {x y : List D} (hx : nobs x = true) (hy : nobs y = true) : eqDs x y = true ↔ x = y := eqvAll_eq x y hx hy
@[simp] theorem eqD_int (i j : Int) : eqD (.int i) (.int j) = decide (i = j) := by
  simp [eqD, PyData.eqv]
  rfl
@[simp] theorem opEq_int (A : AH) (i j : Int) : opEq [.int i, .int j] A = .ok (.bl (decide (i = j))) A := by rw [opEq_pur (by simp) (by simp), eqD_int]
@[simp] theorem opNe_int (A : AH) (i j : Int) : opNe [.int i, .int j] A = .ok (.bl (!decide (i = j))) A := by rw [opNe_pur (by simp) (by simp), eqD_int]
@[simp] theorem opNe_bl (A : AH) (i j : Bool) : opNe [.bl i, .bl j] A = .ok (.bl (!(i == j))) A := by rw [opNe_pur (by simp) (by simp)]; simp [eqD, PyData.eqv]
@[simp] theorem opEq_bl (A : AH) (i j : Bool) : opEq [.bl i, .bl j] A = .ok (.bl (i == j)) A := by rw [opEq_pur (by simp) (by simp)]; simp [eqD, PyData.eqv]
theorem purs_ints (n : Nat) (ns : List Int) : purs (n + 1) (ns.map D.int) = true := by induction ns <;> simp_all
theorem nobs_ints (ns : List Int) : nobs (ns.map D.int) = true := by induction ns <;> simp_all
end DL
set_option Elab.async false
set_option linter.all false
set_option maxRecDepth 100000
set_option maxHeartbeats 4000000
/-! The newer functions evaluated (own work). -/
namespace DL
open PySem
@[simp] theorem isDic_ref (A : AH) (i : Nat) : isDic A (.ref i) = isDicO A[i]? := by unfold isDic; rfl
@[simp] theorem isDicO_none : isDicO none = false := by unfold isDicO; rfl
@[simp] theorem isDicO_lst (ds : List D) : isDicO (some (.lst ds)) = false := by unfold isDicO; rfl
@[simp] theorem isDicO_rol (ds : List D) : isDicO (some (.rol ds)) = false := by unfold isDicO; rfl
@[simp] theorem isDicO_dic (ds : List (D × D)) : isDicO (some (.dic ds)) = true := by unfold isDicO; rfl
@[simp] theorem isDicO_dit (ds : List (D × D)) : isDicO (some (.dit ds)) = false := by unfold isDicO; rfl
@[simp] theorem isDicO_ins (c : Nat) (fs : List (Nat × D)) : isDicO (some (.ins c fs)) = false := by unfold isDicO; rfl
@[simp] theorem isDic_int (A : AH) (i : Int) : isDic A (.int i) = false := by unfold isDic; rfl
@[simp] theorem isDic_bl (A : AH) (i : Bool) : isDic A (.bl i) = false := by unfold isDic; rfl
@[simp] theorem isDic_str (A : AH) (i : Str) : isDic A (.str i) = false := by unfold isDic; rfl
@[simp] theorem isDic_tup (A : AH) (i : List D) : isDic A (.tup i) = false := by unfold isDic; rfl
@[simp] theorem isDic_non (A : AH) : isDic A .non = false := by unfold isDic; rfl
@[simp] theorem ev_eqX {x y : D} {A : AH} (h : isDic A x = false) : opEqX [x, y] A = opEq [x, y] A := if_neg (by rw [h]; exact Bool.noConfusion)
@[simp] theorem ev_eqXd {x y : D} {A : AH} (h : isDic A x = true) : opEqX [x, y] A = eqDD id [x, y] A := if_pos h
@[simp] theorem ev_neX {x y : D} {A : AH} (h : isDic A x = false) : opNeX [x, y] A = opNe [x, y] A := if_neg (by rw [h]; exact Bool.noConfusion)
@[simp] theorem ev_neXd {x y : D} {A : AH} (h : isDic A x = true) : opNeX [x, y] A = eqDD not [x, y] A := if_pos h
@[simp] theorem ev_listX {x : D} {A : AH} (h : isDic A x = false) : biListX [x] A = biList [x] A := if_neg (by rw [h]; exact Bool.noConfusion)
@[simp] theorem ev_listXd {x : D} {A : AH} (h : isDic A x = true) : biListX [x] A = biListD [x] A := if_pos h
@[simp] theorem ev_listD (i : Nat) (A : AH) : biListD [.ref i] A = lstDO A A[i]? := rfl
@[simp] theorem ev_lstDO (A : AH) (kvs : List (D × D)) : lstDO A (some (.dic kvs)) = .ok (.ref A.length) (A ++ [.lst (kvs.map (·.1))]) := rfl
@[simp] theorem ev_dictX {x : D} {A : AH} (h : isDic A x = false) : biDictX [x] A = biDictP [x] A := if_neg (by rw [h]; exact Bool.noConfusion)
@[simp] theorem ev_dictXd {x : D} {A : AH} (h : isDic A x = true) : biDictX [x] A = biDict [x] A := if_pos h
@[simp] theorem ev_dict (i : Nat) (A : AH) : biDict [.ref i] A = dicO A A[i]? := rfl
@[simp] theorem ev_dicO (A : AH) (kvs : List (D × D)) : dicO A (some (.dic kvs)) = .ok (.ref A.length) (A ++ [.dic kvs]) := rfl
@[simp] theorem ev_dictP (i : Nat) (A : AH) : biDictP [.ref i] A = dicLO A (seqAt A i) := rfl
@[simp] theorem ev_dicLO (A : AH) (ds : List D) : dicLO A (some ds) = dicPO A (allSome (ds.map pairD)) := rfl
@[simp] theorem ev_dicPO (A : AH) (ps : List (D × D)) : dicPO A (some ps) = .ok (.ref A.length) (A ++ [.dic (mergeF [] ps)]) := rfl
@[simp] theorem ev_maxX2 (i j : Int) (A : AH) : biMaxX [.int i, .int j] A = .ok (.int (if j > i then j else i)) A := rfl
@[simp] theorem ev_maxX1 {i : Nat} {A : AH} (h : isTupL (seqAt A i) = false) : biMaxX [.ref i] A = biMax [.ref i] A := by
  show (if isTupL (seqAt A i) = true then biMaxT [.ref i] A else biMax [.ref i] A) = _
  rw [h]
  rfl
@[simp] theorem ev_maxX1t {i : Nat} {A : AH} (h : isTupL (seqAt A i) = true) : biMaxX [.ref i] A = biMaxT [.ref i] A := by
  show (if isTupL (seqAt A i) = true then biMaxT [.ref i] A else biMax [.ref i] A) = _
  rw [h]
  rfl
@[simp] theorem ev_maxT (i : Nat) (A : AH) : biMaxT [.ref i] A = maxLO A (seqAt A i) := rfl
@[simp] theorem ev_maxLO (A : AH) (ds : List D) : maxLO A (some ds) = maxTO A (allSome (ds.map D.ints?)) := rfl
@[simp] theorem ev_maxTO (A : AH) (n : List Int) (ns : List (List Int)) : maxTO A (some (n :: ns)) = .ok (.tup ((maxL n ns).map D.int)) A := rfl
@[simp] theorem isTupL_tup (ds es : List D) : isTupL (some (.tup ds :: es)) = true := by unfold isTupL; rfl
@[simp] theorem isTupL_int (i : Int) (es : List D) : isTupL (some (.int i :: es)) = false := by unfold isTupL; rfl
@[simp] theorem isTupL_nil : isTupL (some []) = false := by unfold isTupL; rfl
@[simp] theorem ev_minT (ds : List D) (A : AH) : biMinT [.tup ds] A = minO A (intsOf ds) := rfl
@[simp] theorem ev_minO (A : AH) (n : Int) (ns : List Int) : minO A (some (n :: ns)) = .ok (.int (minI n ns)) A := rfl
@[simp] theorem ev_eLenSet (e : Ex) (E : Env) (A : AH) : eLenSet e E A = (e E A).bind kLenSet := rfl
@[simp] theorem ev_kLenSet (i : Nat) (A : AH) : kLenSet (.ref i) A = lenSO A ((seqAt A i).bind intsOf) := rfl
@[simp] theorem ev_lenSO (A : AH) (ns : List Int) : lenSO A (some ns) = if ns.length ≤ 4000 then .ok (.int (setN ns).length) A else .bad := rfl
@[simp] theorem ev_eGet2 (o k d : Ex) (E : Env) (A : AH) : eGet2 o k d E A = (o E A).bind (kGa k d E) := rfl
@[simp] theorem ev_kGa (k d : Ex) (E : Env) (x : D) (A : AH) : kGa k d E x A = if isDic A x = true then (k E A).bind (kGb d E x) else .bad := rfl
@[simp] theorem ev_kGb (d : Ex) (E : Env) (x y : D) (A : AH) : kGb d E x y A = (d E A).bind (kGc x y) := rfl
@[simp] theorem ev_kGc (x y z : D) (A : AH) : kGc x y z A = get2D x y z A := rfl
@[simp] theorem ev_get2D (i : Nat) (k d : D) (A : AH) : get2D (.ref i) k d A = get2O A k d A[i]? := rfl
@[simp] theorem ev_get2O (A : AH) (k d : D) (kvs : List (D × D)) : get2O A k d (some (.dic kvs)) = if (keyD k).isSome = true then .ok ((valF keyD kvs k).getD d) A else .bad := rfl
@[simp] theorem keyD_int (i : Int) : keyD (.int i) = some (.inl i) := rfl
@[simp] theorem keyD_str (i : Str) : keyD (.str i) = some (.inr i) := rfl
@[simp] theorem ev_opGet (i : Nat) (k : D) (A : AH) : opGet [.ref i, k] A = getO A k A[i]? := rfl
@[simp] theorem ev_getO (A : AH) (k : D) (kvs : List (D × D)) : getO A k (some (.dic kvs)) = if (keyD k).isSome = true then okO A (valF keyD kvs k) else .bad := rfl
@[simp] theorem ev_stPut (i : Nat) (y d : D) (A : AH) : stPut (.ref i) y d A = putO i y d A A[i]? := rfl
@[simp] theorem ev_putO (i : Nat) (k d : D) (A : AH) (kvs : List (D × D)) : putO i k d A (some (.dic kvs)) = if (keyD k).isSome = true ∧ kvs.length < line then some (A.set i (.dic (putF' keyD kvs k d))) else none := rfl
@[simp] theorem ev_mkDic (A : AH) : mkDic [] A = .ok (.ref A.length) (A ++ [.dic []]) := rfl
@[simp] theorem ev_sorted (i : Nat) (A : AH) : biSorted [.ref i] A = sortO A ((seqAt A i).bind intsOf) := rfl
@[simp] theorem ev_sortO (A : AH) (ns : List Int) : sortO A (some ns) = .ok (.ref A.length) (A ++ [.lst ((sortI ns).map D.int)]) := rfl
@[simp] theorem ev_sForK (e : Ex) (g : Gx) (b : Sx) (E : Env) (A : AH) : sForK e g b E A = (e E A).then E (forD keysOf g b E) := rfl
@[simp] theorem ev_sForI (e : Ex) (g : Gx) (b : Sx) (E : Env) (A : AH) : sForI e g b E A = (e E A).then E (forD pairsOf g b E) := rfl
/-- a walk over a dict -/
theorem forD_sat {f : List (D × D) → List D} {g : Gx} {b : Sx} {E : Env} {A : AH} {i : Nat} {kvs : List (D × D)} {N : Env → AH → Prop} {R : D → AH → Prop} (h : A[i]? = some (.dic kvs)) (hl : (f kvs).length = kvs.length)
    (hs : (kFor g b E (.seq (f kvs)) (A.set i (.fro kvs))).sat (fun E B => ∃ k, B[i]? = some (.fro k) ∧ N E (B.set i (.dic k))) (fun d B => ∃ k, B[i]? = some (.fro k) ∧ R d (B.set i (.dic k)))) : (forD f g b E (.ref i) A).sat N R := by
  have e : forD f g b E (.ref i) A = unS i (kFor g b E (.seq (f kvs)) (A.set i (.fro kvs))) := by
    show forDO f g b E i A A[i]? = _
    rw [h]
    show unS i (forN (.seq (f kvs)) g b (kvs.length + 1) 0 E (A.set i (.fro kvs))) = unS i (forN (.seq (f kvs)) g b ((f kvs).length + 1) 0 E (A.set i (.fro kvs)))
    rw [hl]
  rw [e]
  cases z : kFor g b E (.seq (f kvs)) (A.set i (.fro kvs)) with
  | nx E2 B =>
    rw [z] at hs
    obtain ⟨k, q1, q2⟩ := hs
    have : unA i B = some (B.set i (.dic k)) := by unfold unA; rw [q1]; rfl
    show (unN E2 (unA i B)).sat N R
    rw [this]
    exact q2
  | rt d B =>
    rw [z] at hs
    obtain ⟨k, q1, q2⟩ := hs
    have : unA i B = some (B.set i (.dic k)) := by unfold unA; rw [q1]; rfl
    show (unR d (unA i B)).sat N R
    rw [this]
    exact q2
  | _ => rw [z] at hs; exact hs.elim
@[simp] theorem eqD_str (x y : Str) : eqD (.str x) (.str y) = decide (x = y) := by
  simp [eqD, PyData.eqv]
  rfl
/-- dicts with the same keys in the same order -/
theorem valF_cons (k v : D) (r : List (D × D)) (x : D) : valF keyD ((k, v) :: r) x = if keqF keyD k x = true then some v else valF keyD r x := by
  unfold valF
  rw [List.find?_cons]
  by_cases z : keqF keyD k x = true
  · simp [z]
  · simp [z]
@[simp] theorem valF_nil (x : D) : valF keyD [] x = none := rfl
@[simp] theorem keqF_int (i j : Int) : keqF keyD (.int i) (.int j) = decide (i = j) := by
  simp [keqF]
end DL
set_option Elab.async false
set_option linter.all false
set_option maxRecDepth 100000
set_option maxHeartbeats 0
namespace Lw
open PySem PySem.Spec PyProof.Rows L2
def top (i : Nat) : Stmt := PySem.Challenge.pw_plugproof_k07_whole_synced.main.body.getD i (.Pass ⟨0, 0, 0, 0⟩)
abbrev s_is_whole : Stmt := top 5
abbrev s_is_below : Stmt := top 14
abbrev s_is_cells : Stmt := top 15
abbrev s_checked_changes : Stmt := top 16
abbrev s_versions_of : Stmt := top 19
abbrev s_after_barrier : Stmt := top 20
abbrev s_disk_after : Stmt := top 22
abbrev s_head_plate : Stmt := top 25
abbrev s_is_head : Stmt := top 26
abbrev s_read_head : Stmt := top 27
abbrev s_slot_plate : Stmt := top 30
abbrev s_log_rows : Stmt := top 31
abbrev s_is_log_plate : Stmt := top 32
abbrev s_whole_group : Stmt := top 33
abbrev s_read_groups : Stmt := top 34
abbrev s_last_seen : Stmt := top 35
abbrev s_home_plate : Stmt := top 37
abbrev s_merged : Stmt := top 38
abbrev s_read_home : Stmt := top 39
abbrev s_fresh_store : Stmt := top 41
abbrev s_open_store : Stmt := top 42
abbrev s_fallen_disk : Stmt := top 44
abbrev s_L_number : Stmt := top 46
abbrev s_L_take : Stmt := top 47
abbrev s_L_pick : Stmt := top 48
abbrev s_L_choice : Stmt := top 49
abbrev s_law : Stmt := top 50
abbrev s_Disk_init : Stmt := inClass (top 21) 0
abbrev s_Disk_write : Stmt := inClass (top 21) 1
abbrev s_Disk_barrier : Stmt := inClass (top 21) 2
abbrev s_Disk_now : Stmt := inClass (top 21) 3
abbrev s_Disk_versions : Stmt := inClass (top 21) 4
abbrev s_Disk_fallen : Stmt := inClass (top 21) 6
abbrev s_Disk_chosen : Stmt := inClass (top 21) 7
abbrev s_Store_init : Stmt := inClass (top 40) 0
abbrev s_Store_disk : Stmt := inClass (top 40) 1
abbrev s_Store_home : Stmt := inClass (top 40) 2
abbrev s_Store_write : Stmt := inClass (top 40) 4
abbrev s_Store_barrier : Stmt := inClass (top 40) 5
abbrev s_Store_put : Stmt := inClass (top 40) 6
abbrev s_Store_used : Stmt := inClass (top 40) 7
abbrev s_Store_push : Stmt := inClass (top 40) 8
abbrev s_Store_settle : Stmt := inClass (top 40) 9
abbrev s_Store_sync : Stmt := inClass (top 40) 10
abbrev s_Store_lay : Stmt := inClass (top 40) 11
abbrev s_Store_write_home : Stmt := inClass (top 40) 12
abbrev s_Store_turn_head : Stmt := inClass (top 40) 13
def d_is_whole : He.DefD := ⟨("is_whole", none), "is_whole", "is_whole", defArgs s_is_whole, defBody s_is_whole, defScope s_is_whole, [.non, .non], []⟩
def d_is_below : He.DefD := ⟨("is_below", none), "is_below", "is_below", defArgs s_is_below, defBody s_is_below, defScope s_is_below, [], []⟩
def d_is_cells : He.DefD := ⟨("is_cells", none), "is_cells", "is_cells", defArgs s_is_cells, defBody s_is_cells, defScope s_is_cells, [], []⟩
def d_checked_changes : He.DefD := ⟨("checked_changes", none), "checked_changes", "checked_changes", defArgs s_checked_changes, defBody s_checked_changes, defScope s_checked_changes, [], []⟩
def d_versions_of : He.DefD := ⟨("versions_of", none), "versions_of", "versions_of", defArgs s_versions_of, defBody s_versions_of, defScope s_versions_of, [], []⟩
def d_after_barrier : He.DefD := ⟨("after_barrier", none), "after_barrier", "after_barrier", defArgs s_after_barrier, defBody s_after_barrier, defScope s_after_barrier, [], []⟩
def d_disk_after : He.DefD := ⟨("disk_after", none), "disk_after", "disk_after", defArgs s_disk_after, defBody s_disk_after, defScope s_disk_after, [], []⟩
def d_head_plate : He.DefD := ⟨("head_plate", none), "head_plate", "head_plate", defArgs s_head_plate, defBody s_head_plate, defScope s_head_plate, [], []⟩
def d_is_head : He.DefD := ⟨("is_head", none), "is_head", "is_head", defArgs s_is_head, defBody s_is_head, defScope s_is_head, [], []⟩
def d_read_head : He.DefD := ⟨("read_head", none), "read_head", "read_head", defArgs s_read_head, defBody s_read_head, defScope s_read_head, [], []⟩
def d_slot_plate : He.DefD := ⟨("slot_plate", none), "slot_plate", "slot_plate", defArgs s_slot_plate, defBody s_slot_plate, defScope s_slot_plate, [], []⟩
def d_log_rows : He.DefD := ⟨("log_rows", none), "log_rows", "log_rows", defArgs s_log_rows, defBody s_log_rows, defScope s_log_rows, [], []⟩
def d_is_log_plate : He.DefD := ⟨("is_log_plate", none), "is_log_plate", "is_log_plate", defArgs s_is_log_plate, defBody s_is_log_plate, defScope s_is_log_plate, [], []⟩
def d_whole_group : He.DefD := ⟨("whole_group", none), "whole_group", "whole_group", defArgs s_whole_group, defBody s_whole_group, defScope s_whole_group, [], []⟩
def d_read_groups : He.DefD := ⟨("read_groups", none), "read_groups", "read_groups", defArgs s_read_groups, defBody s_read_groups, defScope s_read_groups, [], []⟩
def d_last_seen : He.DefD := ⟨("last_seen", none), "last_seen", "last_seen", defArgs s_last_seen, defBody s_last_seen, defScope s_last_seen, [], []⟩
def d_home_plate : He.DefD := ⟨("home_plate", none), "home_plate", "home_plate", defArgs s_home_plate, defBody s_home_plate, defScope s_home_plate, [], []⟩
def d_merged : He.DefD := ⟨("merged", none), "merged", "merged", defArgs s_merged, defBody s_merged, defScope s_merged, [], []⟩
def d_read_home : He.DefD := ⟨("read_home", none), "read_home", "read_home", defArgs s_read_home, defBody s_read_home, defScope s_read_home, [], []⟩
def d_fresh_store : He.DefD := ⟨("fresh_store", none), "fresh_store", "fresh_store", defArgs s_fresh_store, defBody s_fresh_store, defScope s_fresh_store, [], []⟩
def d_open_store : He.DefD := ⟨("open_store", none), "open_store", "open_store", defArgs s_open_store, defBody s_open_store, defScope s_open_store, [], []⟩
def d_fallen_disk : He.DefD := ⟨("fallen_disk", none), "fallen_disk", "fallen_disk", defArgs s_fallen_disk, defBody s_fallen_disk, defScope s_fallen_disk, [], []⟩
def d_L_number : He.DefD := ⟨("_law_number", none), "_law_number", "_law_number", defArgs s_L_number, defBody s_L_number, defScope s_L_number, [], []⟩
def d_L_take : He.DefD := ⟨("_law_take", none), "_law_take", "_law_take", defArgs s_L_take, defBody s_L_take, defScope s_L_take, [], []⟩
def d_L_pick : He.DefD := ⟨("_law_pick", none), "_law_pick", "_law_pick", defArgs s_L_pick, defBody s_L_pick, defScope s_L_pick, [], []⟩
def d_L_choice : He.DefD := ⟨("_law_choice", none), "_law_choice", "_law_choice", defArgs s_L_choice, defBody s_L_choice, defScope s_L_choice, [], []⟩
def d_law : He.DefD := ⟨("law", none), "law", "law", defArgs s_law, defBody s_law, defScope s_law, [], []⟩
def d_Disk_init : He.DefD := ⟨("Disk", some "__init__"), "__init__", "Disk.__init__", defArgs s_Disk_init, defBody s_Disk_init, defScope s_Disk_init, [], []⟩
def d_Disk_write : He.DefD := ⟨("Disk", some "write"), "write", "Disk.write", defArgs s_Disk_write, defBody s_Disk_write, defScope s_Disk_write, [], []⟩
def d_Disk_barrier : He.DefD := ⟨("Disk", some "barrier"), "barrier", "Disk.barrier", defArgs s_Disk_barrier, defBody s_Disk_barrier, defScope s_Disk_barrier, [], []⟩
def d_Disk_now : He.DefD := ⟨("Disk", some "now"), "now", "Disk.now", defArgs s_Disk_now, defBody s_Disk_now, defScope s_Disk_now, [], []⟩
def d_Disk_versions : He.DefD := ⟨("Disk", some "versions"), "versions", "Disk.versions", defArgs s_Disk_versions, defBody s_Disk_versions, defScope s_Disk_versions, [], []⟩
def d_Disk_fallen : He.DefD := ⟨("Disk", some "fallen"), "fallen", "Disk.fallen", defArgs s_Disk_fallen, defBody s_Disk_fallen, defScope s_Disk_fallen, [], []⟩
def d_Disk_chosen : He.DefD := ⟨("Disk", some "chosen"), "chosen", "Disk.chosen", defArgs s_Disk_chosen, defBody s_Disk_chosen, defScope s_Disk_chosen, [], []⟩
def d_Store_init : He.DefD := ⟨("Store", some "__init__"), "__init__", "Store.__init__", defArgs s_Store_init, defBody s_Store_init, defScope s_Store_init, [], []⟩
def d_Store_disk : He.DefD := ⟨("Store", some "disk"), "disk", "Store.disk", defArgs s_Store_disk, defBody s_Store_disk, defScope s_Store_disk, [], []⟩
def d_Store_home : He.DefD := ⟨("Store", some "home"), "home", "Store.home", defArgs s_Store_home, defBody s_Store_home, defScope s_Store_home, [], []⟩
def d_Store_write : He.DefD := ⟨("Store", some "write"), "write", "Store.write", defArgs s_Store_write, defBody s_Store_write, defScope s_Store_write, [], []⟩
def d_Store_barrier : He.DefD := ⟨("Store", some "barrier"), "barrier", "Store.barrier", defArgs s_Store_barrier, defBody s_Store_barrier, defScope s_Store_barrier, [], []⟩
def d_Store_put : He.DefD := ⟨("Store", some "put"), "put", "Store.put", defArgs s_Store_put, defBody s_Store_put, defScope s_Store_put, [], []⟩
def d_Store_used : He.DefD := ⟨("Store", some "used"), "used", "Store.used", defArgs s_Store_used, defBody s_Store_used, defScope s_Store_used, [], []⟩
def d_Store_push : He.DefD := ⟨("Store", some "push"), "push", "Store.push", defArgs s_Store_push, defBody s_Store_push, defScope s_Store_push, [], []⟩
def d_Store_settle : He.DefD := ⟨("Store", some "settle"), "settle", "Store.settle", defArgs s_Store_settle, defBody s_Store_settle, defScope s_Store_settle, [], []⟩
def d_Store_sync : He.DefD := ⟨("Store", some "sync"), "sync", "Store.sync", defArgs s_Store_sync, defBody s_Store_sync, defScope s_Store_sync, [], []⟩
def d_Store_lay : He.DefD := ⟨("Store", some "lay"), "lay", "Store.lay", defArgs s_Store_lay, defBody s_Store_lay, defScope s_Store_lay, [], []⟩
def d_Store_write_home : He.DefD := ⟨("Store", some "write_home"), "write_home", "Store.write_home", defArgs s_Store_write_home, defBody s_Store_write_home, defScope s_Store_write_home, [], []⟩
def d_Store_turn_head : He.DefD := ⟨("Store", some "turn_head"), "turn_head", "Store.turn_head", defArgs s_Store_turn_head, defBody s_Store_turn_head, defScope s_Store_turn_head, [], []⟩
def fn : List He.DefD := [d_is_whole, d_is_below, d_is_cells, d_checked_changes, d_versions_of, d_after_barrier, d_disk_after, d_head_plate, d_is_head, d_read_head, d_slot_plate, d_log_rows, d_is_log_plate, d_whole_group, d_read_groups, d_last_seen, d_home_plate, d_merged, d_read_home, d_fresh_store, d_open_store, d_fallen_disk, d_L_number, d_L_take, d_L_pick, d_L_choice, d_law, d_Disk_init, d_Disk_write, d_Disk_barrier, d_Disk_now, d_Disk_versions, d_Disk_fallen, d_Disk_chosen, d_Store_init, d_Store_disk, d_Store_home, d_Store_write, d_Store_barrier, d_Store_put, d_Store_used, d_Store_push, d_Store_settle, d_Store_sync, d_Store_lay, d_Store_write_home, d_Store_turn_head]
def fa : List He.Fa := [.glo "is_whole", .glo "is_below", .glo "is_cells", .glo "checked_changes", .glo "versions_of", .glo "after_barrier", .glo "disk_after", .glo "head_plate", .glo "is_head", .glo "read_head", .glo "slot_plate", .glo "log_rows", .glo "is_log_plate", .glo "whole_group", .glo "read_groups", .glo "last_seen", .glo "home_plate", .glo "merged", .glo "read_home", .glo "fresh_store", .glo "open_store", .glo "fallen_disk", .glo "_law_number", .glo "_law_take", .glo "_law_pick", .glo "_law_choice", .glo "law", .glo "StoreError", .glo "BadPlate", .glo "BadCells", .glo "TooGreat", .glo "BadChoice", .glo "NoHead", .glo "BadMoment", .glo "Disk", .cls "Disk", .mkr "Disk", .noat "Disk" "settled", .noat "Disk" "loose", .meth "Disk" "write", .meth "Disk" "barrier", .meth "Disk" "now", .meth "Disk" "versions", .meth "Disk" "fallen", .meth "Disk" "chosen", .glo "Store", .cls "Store", .mkr "Store", .noat "Store" "plates", .noat "Store" "slots", .noat "Store" "begin", .noat "Store" "device", .noat "Store" "trace", .noat "Store" "head", .noat "Store" "groups", .noat "Store" "cells", .noat "Store" "next_group", .noat "Store" "next_slot", .noat "Store" "running", .noat "Store" "running_deeds", .noat "Store" "pushed", .noat "Store" "deeds", .noat "Store" "settled_deeds", .meth "Store" "disk", .meth "Store" "home", .meth "Store" "write", .meth "Store" "barrier", .meth "Store" "put", .meth "Store" "used", .meth "Store" "push", .meth "Store" "settle", .meth "Store" "sync", .meth "Store" "lay", .meth "Store" "write_home", .meth "Store" "turn_head", .int "WIDTH" 8, .int "HEADS" 2, .int "PARTS" 4, .free "Exception", .free "abs", .free "all", .free "bool", .free "dict", .free "enumerate", .free "int", .free "isinstance", .free "len", .free "list", .free "max", .free "min", .free "range", .free "set", .free "sorted", .free "sum", .free "super", .free "tuple"]
def nn : List PySem.Str := ["TORN"]
def names : List PySem.Str := (["_wall", "StoreError", "WIDTH", "is_whole", "BadPlate", "BadCells", "TooGreat", "BadChoice", "NoHead", "BadMoment", "is_below", "is_cells", "checked_changes", "TORN", "versions_of", "after_barrier", "Disk", "disk_after", "HEADS", "head_plate"] : List PySem.Str) ++ (["is_head", "read_head", "PARTS", "slot_plate", "log_rows", "is_log_plate", "whole_group", "read_groups", "last_seen", "home_plate", "merged", "read_home", "Store", "fresh_store", "open_store", "fallen_disk", "_law_number", "_law_take", "_law_pick", "_law_choice"] : List PySem.Str)
abbrev R : PySem.W.OpenRow := PySem.W.OpenLaw.row PySem.Challenge.rw_plugproof_k07_whole_synced
abbrev hk : PySem.W.Hook := DL.hookN 5 nn fa fn
def ob (s : PySem.W.SharedT) : DL.AlN := DL.obsNG 5 nn fa fn (HandSHeadRun.getT s)
theorem ob_eq (s : PySem.W.SharedT) : ob s = hk.obs s.abs := DL.obsNG_eq (HandSHeadRun.getT_eq s)
theorem run (w : World) : HandSHeadRun.RunEq R (PySem.W.view R.prog [50]) hk ob 4000 names w := by
  intro os
  kernel_rfl
end Lw
set_option Elab.async false
set_option linter.all false
set_option maxRecDepth 100000
set_option maxHeartbeats 0
namespace Lw
open PySem PySem.Spec PyProof.Rows L2 DL
structure Sys (K : PySem.W.Frag) (mg : PySem.Str → Option Value) : Prop where
  says : He.SaysD fa fn K
  ex : ∃ h : Heap, K.In h ∧ h.Ns mainGlobals mg
  nons : SaysN nn K
section
variable {P : Program} {w : World} {K : PySem.W.Frag} {mg : PySem.Str → Option Value} {base : Heap}
theorem g_TORN (S : Sys K mg) : mg "TORN" = some .none := by
  obtain ⟨h, a, b⟩ := S.ex
  exact non_ok a b S.nons 0 rfl
theorem g_is_whole (S : Sys K mg) : mg "is_whole" = some (.ref (He.ga K "is_whole")) := by
  obtain ⟨h, a, b⟩ := S.ex
  exact He.glo_ok a b (S.says.fact 0 (f := .glo "is_whole") rfl)
theorem g_is_below (S : Sys K mg) : mg "is_below" = some (.ref (He.ga K "is_below")) := by
  obtain ⟨h, a, b⟩ := S.ex
  exact He.glo_ok a b (S.says.fact 1 (f := .glo "is_below") rfl)
theorem g_is_cells (S : Sys K mg) : mg "is_cells" = some (.ref (He.ga K "is_cells")) := by
  obtain ⟨h, a, b⟩ := S.ex
  exact He.glo_ok a b (S.says.fact 2 (f := .glo "is_cells") rfl)
theorem g_checked_changes (S : Sys K mg) : mg "checked_changes" = some (.ref (He.ga K "checked_changes")) := by
  obtain ⟨h, a, b⟩ := S.ex
  exact He.glo_ok a b (S.says.fact 3 (f := .glo "checked_changes") rfl)
theorem g_versions_of (S : Sys K mg) : mg "versions_of" = some (.ref (He.ga K "versions_of")) := by
  obtain ⟨h, a, b⟩ := S.ex
  exact He.glo_ok a b (S.says.fact 4 (f := .glo "versions_of") rfl)
theorem g_after_barrier (S : Sys K mg) : mg "after_barrier" = some (.ref (He.ga K "after_barrier")) := by
  obtain ⟨h, a, b⟩ := S.ex
  exact He.glo_ok a b (S.says.fact 5 (f := .glo "after_barrier") rfl)
theorem g_disk_after (S : Sys K mg) : mg "disk_after" = some (.ref (He.ga K "disk_after")) := by
  obtain ⟨h, a, b⟩ := S.ex
  exact He.glo_ok a b (S.says.fact 6 (f := .glo "disk_after") rfl)
theorem g_head_plate (S : Sys K mg) : mg "head_plate" = some (.ref (He.ga K "head_plate")) := by
  obtain ⟨h, a, b⟩ := S.ex
  exact He.glo_ok a b (S.says.fact 7 (f := .glo "head_plate") rfl)
theorem g_is_head (S : Sys K mg) : mg "is_head" = some (.ref (He.ga K "is_head")) := by
  obtain ⟨h, a, b⟩ := S.ex
  exact He.glo_ok a b (S.says.fact 8 (f := .glo "is_head") rfl)
theorem g_read_head (S : Sys K mg) : mg "read_head" = some (.ref (He.ga K "read_head")) := by
  obtain ⟨h, a, b⟩ := S.ex
  exact He.glo_ok a b (S.says.fact 9 (f := .glo "read_head") rfl)
theorem g_slot_plate (S : Sys K mg) : mg "slot_plate" = some (.ref (He.ga K "slot_plate")) := by
  obtain ⟨h, a, b⟩ := S.ex
  exact He.glo_ok a b (S.says.fact 10 (f := .glo "slot_plate") rfl)
theorem g_log_rows (S : Sys K mg) : mg "log_rows" = some (.ref (He.ga K "log_rows")) := by
  obtain ⟨h, a, b⟩ := S.ex
  exact He.glo_ok a b (S.says.fact 11 (f := .glo "log_rows") rfl)
theorem g_is_log_plate (S : Sys K mg) : mg "is_log_plate" = some (.ref (He.ga K "is_log_plate")) := by
  obtain ⟨h, a, b⟩ := S.ex
  exact He.glo_ok a b (S.says.fact 12 (f := .glo "is_log_plate") rfl)
theorem g_whole_group (S : Sys K mg) : mg "whole_group" = some (.ref (He.ga K "whole_group")) := by
  obtain ⟨h, a, b⟩ := S.ex
  exact He.glo_ok a b (S.says.fact 13 (f := .glo "whole_group") rfl)
theorem g_read_groups (S : Sys K mg) : mg "read_groups" = some (.ref (He.ga K "read_groups")) := by
  obtain ⟨h, a, b⟩ := S.ex
  exact He.glo_ok a b (S.says.fact 14 (f := .glo "read_groups") rfl)
theorem g_last_seen (S : Sys K mg) : mg "last_seen" = some (.ref (He.ga K "last_seen")) := by
  obtain ⟨h, a, b⟩ := S.ex
  exact He.glo_ok a b (S.says.fact 15 (f := .glo "last_seen") rfl)
theorem g_home_plate (S : Sys K mg) : mg "home_plate" = some (.ref (He.ga K "home_plate")) := by
  obtain ⟨h, a, b⟩ := S.ex
  exact He.glo_ok a b (S.says.fact 16 (f := .glo "home_plate") rfl)
theorem g_merged (S : Sys K mg) : mg "merged" = some (.ref (He.ga K "merged")) := by
  obtain ⟨h, a, b⟩ := S.ex
  exact He.glo_ok a b (S.says.fact 17 (f := .glo "merged") rfl)
theorem g_read_home (S : Sys K mg) : mg "read_home" = some (.ref (He.ga K "read_home")) := by
  obtain ⟨h, a, b⟩ := S.ex
  exact He.glo_ok a b (S.says.fact 18 (f := .glo "read_home") rfl)
theorem g_fresh_store (S : Sys K mg) : mg "fresh_store" = some (.ref (He.ga K "fresh_store")) := by
  obtain ⟨h, a, b⟩ := S.ex
  exact He.glo_ok a b (S.says.fact 19 (f := .glo "fresh_store") rfl)
theorem g_open_store (S : Sys K mg) : mg "open_store" = some (.ref (He.ga K "open_store")) := by
  obtain ⟨h, a, b⟩ := S.ex
  exact He.glo_ok a b (S.says.fact 20 (f := .glo "open_store") rfl)
theorem g_fallen_disk (S : Sys K mg) : mg "fallen_disk" = some (.ref (He.ga K "fallen_disk")) := by
  obtain ⟨h, a, b⟩ := S.ex
  exact He.glo_ok a b (S.says.fact 21 (f := .glo "fallen_disk") rfl)
theorem g__law_number (S : Sys K mg) : mg "_law_number" = some (.ref (He.ga K "_law_number")) := by
  obtain ⟨h, a, b⟩ := S.ex
  exact He.glo_ok a b (S.says.fact 22 (f := .glo "_law_number") rfl)
theorem g__law_take (S : Sys K mg) : mg "_law_take" = some (.ref (He.ga K "_law_take")) := by
  obtain ⟨h, a, b⟩ := S.ex
  exact He.glo_ok a b (S.says.fact 23 (f := .glo "_law_take") rfl)
theorem g__law_pick (S : Sys K mg) : mg "_law_pick" = some (.ref (He.ga K "_law_pick")) := by
  obtain ⟨h, a, b⟩ := S.ex
  exact He.glo_ok a b (S.says.fact 24 (f := .glo "_law_pick") rfl)
theorem g__law_choice (S : Sys K mg) : mg "_law_choice" = some (.ref (He.ga K "_law_choice")) := by
  obtain ⟨h, a, b⟩ := S.ex
  exact He.glo_ok a b (S.says.fact 25 (f := .glo "_law_choice") rfl)
theorem g_law (S : Sys K mg) : mg "law" = some (.ref (He.ga K "law")) := by
  obtain ⟨h, a, b⟩ := S.ex
  exact He.glo_ok a b (S.says.fact 26 (f := .glo "law") rfl)
theorem g_StoreError (S : Sys K mg) : mg "StoreError" = some (.ref (He.ga K "StoreError")) := by
  obtain ⟨h, a, b⟩ := S.ex
  exact He.glo_ok a b (S.says.fact 27 (f := .glo "StoreError") rfl)
theorem g_BadPlate (S : Sys K mg) : mg "BadPlate" = some (.ref (He.ga K "BadPlate")) := by
  obtain ⟨h, a, b⟩ := S.ex
  exact He.glo_ok a b (S.says.fact 28 (f := .glo "BadPlate") rfl)
theorem g_BadCells (S : Sys K mg) : mg "BadCells" = some (.ref (He.ga K "BadCells")) := by
  obtain ⟨h, a, b⟩ := S.ex
  exact He.glo_ok a b (S.says.fact 29 (f := .glo "BadCells") rfl)
theorem g_TooGreat (S : Sys K mg) : mg "TooGreat" = some (.ref (He.ga K "TooGreat")) := by
  obtain ⟨h, a, b⟩ := S.ex
  exact He.glo_ok a b (S.says.fact 30 (f := .glo "TooGreat") rfl)
theorem g_BadChoice (S : Sys K mg) : mg "BadChoice" = some (.ref (He.ga K "BadChoice")) := by
  obtain ⟨h, a, b⟩ := S.ex
  exact He.glo_ok a b (S.says.fact 31 (f := .glo "BadChoice") rfl)
theorem g_NoHead (S : Sys K mg) : mg "NoHead" = some (.ref (He.ga K "NoHead")) := by
  obtain ⟨h, a, b⟩ := S.ex
  exact He.glo_ok a b (S.says.fact 32 (f := .glo "NoHead") rfl)
theorem g_BadMoment (S : Sys K mg) : mg "BadMoment" = some (.ref (He.ga K "BadMoment")) := by
  obtain ⟨h, a, b⟩ := S.ex
  exact He.glo_ok a b (S.says.fact 33 (f := .glo "BadMoment") rfl)
theorem g_Disk (S : Sys K mg) : mg "Disk" = some (.ref (He.ga K "Disk")) := by
  obtain ⟨h, a, b⟩ := S.ex
  exact He.glo_ok a b (S.says.fact 34 (f := .glo "Disk") rfl)
theorem cl_Disk (S : Sys K mg) : Cls K (clsA K 0) := He.cls_ok (S.says.fact 35 (f := .cls "Disk") rfl)
theorem mk_Disk (S : Sys K mg) : Mk K (clsA K 0) (He.fAd K d_Disk_init.at_) := He.mkr_ok (S.says.fact 36 (f := .mkr "Disk") rfl)
theorem na_Disk_settled (S : Sys K mg) : NoAttr K (clsA K 0) "settled" := He.noat_ok (S.says.fact 37 (f := .noat "Disk" "settled") rfl)
theorem na_Disk_loose (S : Sys K mg) : NoAttr K (clsA K 0) "loose" := He.noat_ok (S.says.fact 38 (f := .noat "Disk" "loose") rfl)
theorem mt_Disk_write (S : Sys K mg) : Meth K (clsA K 0) "write" (He.fAd K d_Disk_write.at_) := He.meth_ok (S.says.fact 39 (f := .meth "Disk" "write") rfl)
theorem mt_Disk_barrier (S : Sys K mg) : Meth K (clsA K 0) "barrier" (He.fAd K d_Disk_barrier.at_) := He.meth_ok (S.says.fact 40 (f := .meth "Disk" "barrier") rfl)
theorem mt_Disk_now (S : Sys K mg) : Meth K (clsA K 0) "now" (He.fAd K d_Disk_now.at_) := He.meth_ok (S.says.fact 41 (f := .meth "Disk" "now") rfl)
theorem mt_Disk_versions (S : Sys K mg) : Meth K (clsA K 0) "versions" (He.fAd K d_Disk_versions.at_) := He.meth_ok (S.says.fact 42 (f := .meth "Disk" "versions") rfl)
theorem mt_Disk_fallen (S : Sys K mg) : Meth K (clsA K 0) "fallen" (He.fAd K d_Disk_fallen.at_) := He.meth_ok (S.says.fact 43 (f := .meth "Disk" "fallen") rfl)
theorem mt_Disk_chosen (S : Sys K mg) : Meth K (clsA K 0) "chosen" (He.fAd K d_Disk_chosen.at_) := He.meth_ok (S.says.fact 44 (f := .meth "Disk" "chosen") rfl)
theorem g_Store (S : Sys K mg) : mg "Store" = some (.ref (He.ga K "Store")) := by
  obtain ⟨h, a, b⟩ := S.ex
  exact He.glo_ok a b (S.says.fact 45 (f := .glo "Store") rfl)
theorem cl_Store (S : Sys K mg) : Cls K (clsA K 1) := He.cls_ok (S.says.fact 46 (f := .cls "Store") rfl)
theorem mk_Store (S : Sys K mg) : Mk K (clsA K 1) (He.fAd K d_Store_init.at_) := He.mkr_ok (S.says.fact 47 (f := .mkr "Store") rfl)
theorem na_Store_plates (S : Sys K mg) : NoAttr K (clsA K 1) "plates" := He.noat_ok (S.says.fact 48 (f := .noat "Store" "plates") rfl)
theorem na_Store_slots (S : Sys K mg) : NoAttr K (clsA K 1) "slots" := He.noat_ok (S.says.fact 49 (f := .noat "Store" "slots") rfl)
theorem na_Store_begin (S : Sys K mg) : NoAttr K (clsA K 1) "begin" := He.noat_ok (S.says.fact 50 (f := .noat "Store" "begin") rfl)
theorem na_Store_device (S : Sys K mg) : NoAttr K (clsA K 1) "device" := He.noat_ok (S.says.fact 51 (f := .noat "Store" "device") rfl)
theorem na_Store_trace (S : Sys K mg) : NoAttr K (clsA K 1) "trace" := He.noat_ok (S.says.fact 52 (f := .noat "Store" "trace") rfl)
theorem na_Store_head (S : Sys K mg) : NoAttr K (clsA K 1) "head" := He.noat_ok (S.says.fact 53 (f := .noat "Store" "head") rfl)
theorem na_Store_groups (S : Sys K mg) : NoAttr K (clsA K 1) "groups" := He.noat_ok (S.says.fact 54 (f := .noat "Store" "groups") rfl)
theorem na_Store_cells (S : Sys K mg) : NoAttr K (clsA K 1) "cells" := He.noat_ok (S.says.fact 55 (f := .noat "Store" "cells") rfl)
theorem na_Store_next_group (S : Sys K mg) : NoAttr K (clsA K 1) "next_group" := He.noat_ok (S.says.fact 56 (f := .noat "Store" "next_group") rfl)
theorem na_Store_next_slot (S : Sys K mg) : NoAttr K (clsA K 1) "next_slot" := He.noat_ok (S.says.fact 57 (f := .noat "Store" "next_slot") rfl)
theorem na_Store_running (S : Sys K mg) : NoAttr K (clsA K 1) "running" := He.noat_ok (S.says.fact 58 (f := .noat "Store" "running") rfl)
theorem na_Store_running_deeds (S : Sys K mg) : NoAttr K (clsA K 1) "running_deeds" := He.noat_ok (S.says.fact 59 (f := .noat "Store" "running_deeds") rfl)
theorem na_Store_pushed (S : Sys K mg) : NoAttr K (clsA K 1) "pushed" := He.noat_ok (S.says.fact 60 (f := .noat "Store" "pushed") rfl)
theorem na_Store_deeds (S : Sys K mg) : NoAttr K (clsA K 1) "deeds" := He.noat_ok (S.says.fact 61 (f := .noat "Store" "deeds") rfl)
theorem na_Store_settled_deeds (S : Sys K mg) : NoAttr K (clsA K 1) "settled_deeds" := He.noat_ok (S.says.fact 62 (f := .noat "Store" "settled_deeds") rfl)
theorem mt_Store_disk (S : Sys K mg) : Meth K (clsA K 1) "disk" (He.fAd K d_Store_disk.at_) := He.meth_ok (S.says.fact 63 (f := .meth "Store" "disk") rfl)
theorem mt_Store_home (S : Sys K mg) : Meth K (clsA K 1) "home" (He.fAd K d_Store_home.at_) := He.meth_ok (S.says.fact 64 (f := .meth "Store" "home") rfl)
theorem mt_Store_write (S : Sys K mg) : Meth K (clsA K 1) "write" (He.fAd K d_Store_write.at_) := He.meth_ok (S.says.fact 65 (f := .meth "Store" "write") rfl)
theorem mt_Store_barrier (S : Sys K mg) : Meth K (clsA K 1) "barrier" (He.fAd K d_Store_barrier.at_) := He.meth_ok (S.says.fact 66 (f := .meth "Store" "barrier") rfl)
theorem mt_Store_put (S : Sys K mg) : Meth K (clsA K 1) "put" (He.fAd K d_Store_put.at_) := He.meth_ok (S.says.fact 67 (f := .meth "Store" "put") rfl)
theorem mt_Store_used (S : Sys K mg) : Meth K (clsA K 1) "used" (He.fAd K d_Store_used.at_) := He.meth_ok (S.says.fact 68 (f := .meth "Store" "used") rfl)
theorem mt_Store_push (S : Sys K mg) : Meth K (clsA K 1) "push" (He.fAd K d_Store_push.at_) := He.meth_ok (S.says.fact 69 (f := .meth "Store" "push") rfl)
theorem mt_Store_settle (S : Sys K mg) : Meth K (clsA K 1) "settle" (He.fAd K d_Store_settle.at_) := He.meth_ok (S.says.fact 70 (f := .meth "Store" "settle") rfl)
theorem mt_Store_sync (S : Sys K mg) : Meth K (clsA K 1) "sync" (He.fAd K d_Store_sync.at_) := He.meth_ok (S.says.fact 71 (f := .meth "Store" "sync") rfl)
theorem mt_Store_lay (S : Sys K mg) : Meth K (clsA K 1) "lay" (He.fAd K d_Store_lay.at_) := He.meth_ok (S.says.fact 72 (f := .meth "Store" "lay") rfl)
theorem mt_Store_write_home (S : Sys K mg) : Meth K (clsA K 1) "write_home" (He.fAd K d_Store_write_home.at_) := He.meth_ok (S.says.fact 73 (f := .meth "Store" "write_home") rfl)
theorem mt_Store_turn_head (S : Sys K mg) : Meth K (clsA K 1) "turn_head" (He.fAd K d_Store_turn_head.at_) := He.meth_ok (S.says.fact 74 (f := .meth "Store" "turn_head") rfl)
theorem g_WIDTH (S : Sys K mg) : ∃ t, mg "WIDTH" = some (.int 8 t) := by
  obtain ⟨h, a, b⟩ := S.ex
  exact He.int_ok a b (S.says.fact 75 (f := .int "WIDTH" 8) rfl)
theorem g_HEADS (S : Sys K mg) : ∃ t, mg "HEADS" = some (.int 2 t) := by
  obtain ⟨h, a, b⟩ := S.ex
  exact He.int_ok a b (S.says.fact 76 (f := .int "HEADS" 2) rfl)
theorem g_PARTS (S : Sys K mg) : ∃ t, mg "PARTS" = some (.int 4 t) := by
  obtain ⟨h, a, b⟩ := S.ex
  exact He.int_ok a b (S.says.fact 77 (f := .int "PARTS" 4) rfl)
theorem g_Exception (S : Sys K mg) : mg "Exception" = none := by
  obtain ⟨h, a, b⟩ := S.ex
  exact He.free_ok a b (S.says.fact 78 (f := .free "Exception") rfl)
theorem g_abs (S : Sys K mg) : mg "abs" = none := by
  obtain ⟨h, a, b⟩ := S.ex
  exact He.free_ok a b (S.says.fact 79 (f := .free "abs") rfl)
theorem g_all (S : Sys K mg) : mg "all" = none := by
  obtain ⟨h, a, b⟩ := S.ex
  exact He.free_ok a b (S.says.fact 80 (f := .free "all") rfl)
theorem g_bool (S : Sys K mg) : mg "bool" = none := by
  obtain ⟨h, a, b⟩ := S.ex
  exact He.free_ok a b (S.says.fact 81 (f := .free "bool") rfl)
theorem g_dict (S : Sys K mg) : mg "dict" = none := by
  obtain ⟨h, a, b⟩ := S.ex
  exact He.free_ok a b (S.says.fact 82 (f := .free "dict") rfl)
theorem g_enumerate (S : Sys K mg) : mg "enumerate" = none := by
  obtain ⟨h, a, b⟩ := S.ex
  exact He.free_ok a b (S.says.fact 83 (f := .free "enumerate") rfl)
theorem g_int (S : Sys K mg) : mg "int" = none := by
  obtain ⟨h, a, b⟩ := S.ex
  exact He.free_ok a b (S.says.fact 84 (f := .free "int") rfl)
theorem g_isinstance (S : Sys K mg) : mg "isinstance" = none := by
  obtain ⟨h, a, b⟩ := S.ex
  exact He.free_ok a b (S.says.fact 85 (f := .free "isinstance") rfl)
theorem g_len (S : Sys K mg) : mg "len" = none := by
  obtain ⟨h, a, b⟩ := S.ex
  exact He.free_ok a b (S.says.fact 86 (f := .free "len") rfl)
theorem g_list (S : Sys K mg) : mg "list" = none := by
  obtain ⟨h, a, b⟩ := S.ex
  exact He.free_ok a b (S.says.fact 87 (f := .free "list") rfl)
theorem g_max (S : Sys K mg) : mg "max" = none := by
  obtain ⟨h, a, b⟩ := S.ex
  exact He.free_ok a b (S.says.fact 88 (f := .free "max") rfl)
theorem g_min (S : Sys K mg) : mg "min" = none := by
  obtain ⟨h, a, b⟩ := S.ex
  exact He.free_ok a b (S.says.fact 89 (f := .free "min") rfl)
theorem g_range (S : Sys K mg) : mg "range" = none := by
  obtain ⟨h, a, b⟩ := S.ex
  exact He.free_ok a b (S.says.fact 90 (f := .free "range") rfl)
theorem g_set (S : Sys K mg) : mg "set" = none := by
  obtain ⟨h, a, b⟩ := S.ex
  exact He.free_ok a b (S.says.fact 91 (f := .free "set") rfl)
theorem g_sorted (S : Sys K mg) : mg "sorted" = none := by
  obtain ⟨h, a, b⟩ := S.ex
  exact He.free_ok a b (S.says.fact 92 (f := .free "sorted") rfl)
theorem g_sum (S : Sys K mg) : mg "sum" = none := by
  obtain ⟨h, a, b⟩ := S.ex
  exact He.free_ok a b (S.says.fact 93 (f := .free "sum") rfl)
theorem g_super (S : Sys K mg) : mg "super" = none := by
  obtain ⟨h, a, b⟩ := S.ex
  exact He.free_ok a b (S.says.fact 94 (f := .free "super") rfl)
theorem g_tuple (S : Sys K mg) : mg "tuple" = none := by
  obtain ⟨h, a, b⟩ := S.ex
  exact He.free_ok a b (S.says.fact 95 (f := .free "tuple") rfl)
theorem at_settled (S : Sys K mg) : At K [0] 0 "settled" := ⟨rfl, fun c h => by
  simp only [List.mem_cons, List.not_mem_nil, or_false] at h
  subst h
  · exact ⟨cl_Disk S, na_Disk_settled S⟩⟩
theorem at_loose (S : Sys K mg) : At K [0] 1 "loose" := ⟨rfl, fun c h => by
  simp only [List.mem_cons, List.not_mem_nil, or_false] at h
  subst h
  · exact ⟨cl_Disk S, na_Disk_loose S⟩⟩
theorem at_plates (S : Sys K mg) : At K [1] 2 "plates" := ⟨rfl, fun c h => by
  simp only [List.mem_cons, List.not_mem_nil, or_false] at h
  subst h
  · exact ⟨cl_Store S, na_Store_plates S⟩⟩
theorem at_slots (S : Sys K mg) : At K [1] 3 "slots" := ⟨rfl, fun c h => by
  simp only [List.mem_cons, List.not_mem_nil, or_false] at h
  subst h
  · exact ⟨cl_Store S, na_Store_slots S⟩⟩
theorem at_begin (S : Sys K mg) : At K [1] 4 "begin" := ⟨rfl, fun c h => by
  simp only [List.mem_cons, List.not_mem_nil, or_false] at h
  subst h
  · exact ⟨cl_Store S, na_Store_begin S⟩⟩
theorem at_device (S : Sys K mg) : At K [1] 5 "device" := ⟨rfl, fun c h => by
  simp only [List.mem_cons, List.not_mem_nil, or_false] at h
  subst h
  · exact ⟨cl_Store S, na_Store_device S⟩⟩
theorem at_trace (S : Sys K mg) : At K [1] 6 "trace" := ⟨rfl, fun c h => by
  simp only [List.mem_cons, List.not_mem_nil, or_false] at h
  subst h
  · exact ⟨cl_Store S, na_Store_trace S⟩⟩
theorem at_head (S : Sys K mg) : At K [1] 7 "head" := ⟨rfl, fun c h => by
  simp only [List.mem_cons, List.not_mem_nil, or_false] at h
  subst h
  · exact ⟨cl_Store S, na_Store_head S⟩⟩
theorem at_groups (S : Sys K mg) : At K [1] 8 "groups" := ⟨rfl, fun c h => by
  simp only [List.mem_cons, List.not_mem_nil, or_false] at h
  subst h
  · exact ⟨cl_Store S, na_Store_groups S⟩⟩
theorem at_cells (S : Sys K mg) : At K [1] 9 "cells" := ⟨rfl, fun c h => by
  simp only [List.mem_cons, List.not_mem_nil, or_false] at h
  subst h
  · exact ⟨cl_Store S, na_Store_cells S⟩⟩
theorem at_next_group (S : Sys K mg) : At K [1] 10 "next_group" := ⟨rfl, fun c h => by
  simp only [List.mem_cons, List.not_mem_nil, or_false] at h
  subst h
  · exact ⟨cl_Store S, na_Store_next_group S⟩⟩
theorem at_next_slot (S : Sys K mg) : At K [1] 11 "next_slot" := ⟨rfl, fun c h => by
  simp only [List.mem_cons, List.not_mem_nil, or_false] at h
  subst h
  · exact ⟨cl_Store S, na_Store_next_slot S⟩⟩
theorem at_running (S : Sys K mg) : At K [1] 12 "running" := ⟨rfl, fun c h => by
  simp only [List.mem_cons, List.not_mem_nil, or_false] at h
  subst h
  · exact ⟨cl_Store S, na_Store_running S⟩⟩
theorem at_running_deeds (S : Sys K mg) : At K [1] 13 "running_deeds" := ⟨rfl, fun c h => by
  simp only [List.mem_cons, List.not_mem_nil, or_false] at h
  subst h
  · exact ⟨cl_Store S, na_Store_running_deeds S⟩⟩
theorem at_pushed (S : Sys K mg) : At K [1] 14 "pushed" := ⟨rfl, fun c h => by
  simp only [List.mem_cons, List.not_mem_nil, or_false] at h
  subst h
  · exact ⟨cl_Store S, na_Store_pushed S⟩⟩
theorem at_deeds (S : Sys K mg) : At K [1] 15 "deeds" := ⟨rfl, fun c h => by
  simp only [List.mem_cons, List.not_mem_nil, or_false] at h
  subst h
  · exact ⟨cl_Store S, na_Store_deeds S⟩⟩
theorem at_settled_deeds (S : Sys K mg) : At K [1] 16 "settled_deeds" := ⟨rfl, fun c h => by
  simp only [List.mem_cons, List.not_mem_nil, or_false] at h
  subst h
  · exact ⟨cl_Store S, na_Store_settled_deeds S⟩⟩
abbrev N_is_whole : List PySem.Str := ["thing", "low", "high"]
abbrev P_is_whole : List PySem.Str := ["thing", "low", "high"]
noncomputable def b_is_whole : Sx :=
  (sSeq (sIf (tOr (tNot (tB (eF (biIsi .int) (aCons (eVar 0) aNil)))) (tB (eF (biIsi .bool) (aCons (eVar 0) aNil)))) (sRet (eC (.bl false))) sNop)
  (sRet (eAnd (eOr (eF opIs (aCons (eVar 1) (aCons (eC .non) aNil))) (eF opGe (aCons (eVar 0) (aCons (eVar 1) aNil)))) (eOr (eF opIs (aCons (eVar 2) (aCons (eC .non) aNil))) (eF opLe (aCons (eVar 0) (aCons (eVar 2) aNil)))))))
noncomputable def F_is_whole : Fn := runDef 3 3 b_is_whole
theorem sc_is_whole : FnScope N_is_whole P_is_whole (defScope s_is_whole) := ⟨rfl, rfl, rfl, by decide +kernel, rfl, by decide +kernel, by decide +kernel⟩
theorem ok_is_whole_1 (S : Sys K mg) : ∃ ds, Vals ([.non, .non] : List V) ds ∧ DefOk P w K mg base 1 (He.fAd K d_is_whole.at_) P_is_whole ds 3 F_is_whole := by
  obtain ⟨fd, F⟩ := S.says.def_ 0 (d := d_is_whole) rfl
  obtain ⟨ds, hd, hB⟩ : ∃ ds, Vals ([.non, .non] : List V) ds ∧ Binds K fd P_is_whole ds := F.binds1 1 0 (by intro z; cases z) rfl fun _ _ _ _ _ _ _ us its hl hl2 => match us, hl, its, hl2 with | [_], _, [_, _], _ => ⟨_, rfl, rfl⟩
  have S2 : FnScope N_is_whole P_is_whole d_is_whole.scope := sc_is_whole
  have q := def_ok (P := P) (w := w) (mg := mg) (base := base) (k := 0) (b := b_is_whole) F S2 hB
  refine ⟨ds, hd, q fun cdv A outer s H E c => ?_⟩
  exact (rss_cons (rs_if (rt_w (rw_or (rt_not (rt_b (re_isi .int (by rfl) (g_isinstance S) (by rfl) (g_int S) bt_int (re_var 0)))) (rw_or1 (rt_b (re_isi .bool (by rfl) (g_isinstance S) (by rfl) (g_bool S) bt_bool (re_var 0)))))) (rss_one (rs_ret re_bl)) rss_nil)
  (rss_one (rs_ret (re_and (re_or (re_cmp op_isN ok_is (re_var 1) re_non rfl) (re_one (re_cmp op_ge ok_ge (re_var 0) (re_var 1) rfl))) (re_one (re_or (re_cmp op_isN ok_is (re_var 2) re_non rfl) (re_one (re_cmp op_le ok_le (re_var 0) (re_var 2) rfl))))))))
theorem ok_is_whole_3 (S : Sys K mg) : ∃ ds, Vals ([] : List V) ds ∧ DefOk P w K mg base 1 (He.fAd K d_is_whole.at_) P_is_whole ds 3 F_is_whole := by
  obtain ⟨fd, F⟩ := S.says.def_ 0 (d := d_is_whole) rfl
  obtain ⟨ds, hd, hB⟩ : ∃ ds, Vals ([] : List V) ds ∧ Binds K fd P_is_whole ds := F.binds1 3 2 (by intro z; cases z) rfl fun _ _ _ _ _ _ _ us its hl hl2 => match us, hl, its, hl2 with | [_, _, _], _, [_, _], _ => ⟨_, rfl, rfl⟩
  have S2 : FnScope N_is_whole P_is_whole d_is_whole.scope := sc_is_whole
  have q := def_ok (P := P) (w := w) (mg := mg) (base := base) (k := 0) (b := b_is_whole) F S2 hB
  refine ⟨ds, hd, q fun cdv A outer s H E c => ?_⟩
  exact (rss_cons (rs_if (rt_w (rw_or (rt_not (rt_b (re_isi .int (by rfl) (g_isinstance S) (by rfl) (g_int S) bt_int (re_var 0)))) (rw_or1 (rt_b (re_isi .bool (by rfl) (g_isinstance S) (by rfl) (g_bool S) bt_bool (re_var 0)))))) (rss_one (rs_ret re_bl)) rss_nil)
  (rss_one (rs_ret (re_and (re_or (re_cmp op_isN ok_is (re_var 1) re_non rfl) (re_one (re_cmp op_ge ok_ge (re_var 0) (re_var 1) rfl))) (re_one (re_or (re_cmp op_isN ok_is (re_var 2) re_non rfl) (re_one (re_cmp op_le ok_le (re_var 0) (re_var 2) rfl))))))))
abbrev N_is_below : List PySem.Str := ["value", "many"]
abbrev P_is_below : List PySem.Str := ["value", "many"]
noncomputable def b_is_below : Sx :=
  (sRet (eF (cl F_is_whole []) (aCons (eVar 0) (aCons (eC (.int 0)) (aCons (eF opSub (aCons (eVar 1) (aCons (eC (.int 1)) aNil))) aNil)))))
noncomputable def F_is_below : Fn := runDef 2 2 b_is_below
theorem sc_is_below : FnScope N_is_below P_is_below (defScope s_is_below) := ⟨rfl, rfl, rfl, by decide +kernel, rfl, by decide +kernel, by decide +kernel⟩
theorem ok_is_below_2 (S : Sys K mg) : ∃ ds, Vals ([] : List V) ds ∧ DefOk P w K mg base 2 (He.fAd K d_is_below.at_) P_is_below ds 2 F_is_below := by
  obtain ⟨ds_is_whole_3, hd_is_whole_3, G_is_whole_3⟩ := ok_is_whole_3 (P := P) (w := w) (base := base) S
  obtain ⟨fd, F⟩ := S.says.def_ 1 (d := d_is_below) rfl
  obtain ⟨ds, hd, hB⟩ : ∃ ds, Vals ([] : List V) ds ∧ Binds K fd P_is_below ds := ⟨[], .nil, F.bindsN fun _ _ _ _ _ _ us hl => match us, hl with | [_, _], _ => rfl⟩
  have S2 : FnScope N_is_below P_is_below d_is_below.scope := sc_is_below
  have q := def_ok (P := P) (w := w) (mg := mg) (base := base) (k := 1) (b := b_is_below) F S2 hB
  refine ⟨ds, hd, q fun cdv A outer s H E c => ?_⟩
  exact (rss_one (rs_ret (re_call (G_is_whole_3.mono (by decide : 1 ≤ 1)) c Asks.run (by rfl) (g_is_whole S) hd_is_whole_3 (fun _ _ _ => .nil) (ra_cons (re_var 0) (ra_cons re_int (ra_cons (re_bin op_sub ok_sub (re_var 1) re_int) ra_nil))))))
abbrev N_is_cells : List PySem.Str := ["value", "number"]
abbrev P_is_cells : List PySem.Str := ["value"]
noncomputable def b_is_cells : Sx :=
  (sRet (eAnd (eF (biIsi .tuple) (aCons (eVar 0) aNil)) (eAnd (eF opEqX (aCons (eF biLen (aCons (eVar 0) aNil)) (aCons (eC (.int 8)) aNil))) (eF biAll (aCons (eLc (iSeq (eVar 0)) (gName 1) tYes (eF (cl F_is_whole [.non, .non]) (aCons (eVar 1) aNil)) [1]) aNil)))))
noncomputable def F_is_cells : Fn := runDef 1 2 b_is_cells
theorem sc_is_cells : FnScope N_is_cells P_is_cells (defScope s_is_cells) := ⟨rfl, rfl, rfl, by decide +kernel, rfl, by decide +kernel, by decide +kernel⟩
theorem ok_is_cells_1 (S : Sys K mg) : ∃ ds, Vals ([] : List V) ds ∧ DefOk P w K mg base 2 (He.fAd K d_is_cells.at_) P_is_cells ds 1 F_is_cells := by
  obtain ⟨ds_is_whole_1, hd_is_whole_1, G_is_whole_1⟩ := ok_is_whole_1 (P := P) (w := w) (base := base) S
  obtain ⟨fd, F⟩ := S.says.def_ 2 (d := d_is_cells) rfl
  obtain ⟨ds, hd, hB⟩ : ∃ ds, Vals ([] : List V) ds ∧ Binds K fd P_is_cells ds := ⟨[], .nil, F.bindsN fun _ _ _ _ _ _ us hl => match us, hl with | [_], _ => rfl⟩
  have S2 : FnScope N_is_cells P_is_cells d_is_cells.scope := sc_is_cells
  have q := def_ok (P := P) (w := w) (mg := mg) (base := base) (k := 1) (b := b_is_cells) F S2 hB
  refine ⟨ds, hd, q fun cdv A outer s H E c => ?_⟩
  exact (rss_one (rs_ret (re_and (re_isi .tuple (by rfl) (g_isinstance S) (by rfl) (g_tuple S) bt_tuple (re_var 0)) (re_and (re_cmp (op_eqA c.u65) ok_eqA (re_callB call_len_seq ok_len (by rfl) (g_len S) bt_len (ra_cons (re_var 0) ra_nil)) (re_globI (by rfl) (g_WIDTH S)) rfl) (re_one (re_callB (cr_all c.calm) ok_all (by rfl) (g_all S) bt_all (ra_cons (re_lc (own := [("number", 1)]) c (ri_seq (re_var 0)) (blk_of rfl) (fun s0 H0 C0 cl0 fp0 => (rgo_name (c.blk s0 H0 C0 cl0 fp0).nd 1 rfl (.inl rfl) (.inr rfl) (by decide))) (fun s0 H0 C0 cl0 fp0 => rts_nil) (fun s0 H0 C0 cl0 fp0 => (re_call (G_is_whole_1.mono (by decide : 1 ≤ 1)) (c.blk s0 H0 C0 cl0 fp0) Asks.run (by rfl) (g_is_whole S) hd_is_whole_1 (fun _ _ _ => (.cons .non (.cons .non .nil))) (ra_cons (re_var 1) ra_nil)))) ra_nil)))))))
abbrev N_checked_changes : List PySem.Str := ["plates", "changes", "plate", "found"]
abbrev P_checked_changes : List PySem.Str := ["plates", "changes"]
noncomputable def b_checked_changes : Sx :=
  (sSeq (sForK (eVar 1) (gName 2)
  (sIf (tNot (tB (eF (cl F_is_below []) (aCons (eVar 2) (aCons (eVar 0) aNil))))) sBad sNop))
  (sSeq (sAsg (eF mkLst aNil) (gName 3))
  (sSeq (sFor (iSeq (eF biSorted (aCons (eF biListX (aCons (eVar 1) aNil)) aNil))) (gName 2)
  (sSeq (sIf (tNot (tB (eF (cl F_is_cells []) (aCons (eF opGet (aCons (eVar 1) (aCons (eVar 2) aNil))) aNil)))) sBad sNop)
  (sDrop (eBM .list mAppend (eVar 3) (aCons (eF mkTup (aCons (eVar 2) (aCons (eF opGet (aCons (eVar 1) (aCons (eVar 2) aNil))) aNil))) aNil)))))
  (sRet (eF biTuple (aCons (eVar 3) aNil))))))
noncomputable def F_checked_changes : Fn := runDef 2 4 b_checked_changes
theorem sc_checked_changes : FnScope N_checked_changes P_checked_changes (defScope s_checked_changes) := ⟨rfl, rfl, rfl, by decide +kernel, rfl, by decide +kernel, by decide +kernel⟩
theorem ok_checked_changes_2 (S : Sys K mg) : ∃ ds, Vals ([] : List V) ds ∧ DefOk P w K mg base 3 (He.fAd K d_checked_changes.at_) P_checked_changes ds 2 F_checked_changes := by
  obtain ⟨ds_is_below_2, hd_is_below_2, G_is_below_2⟩ := ok_is_below_2 (P := P) (w := w) (base := base) S
  obtain ⟨ds_is_cells_1, hd_is_cells_1, G_is_cells_1⟩ := ok_is_cells_1 (P := P) (w := w) (base := base) S
  obtain ⟨fd, F⟩ := S.says.def_ 3 (d := d_checked_changes) rfl
  obtain ⟨ds, hd, hB⟩ : ∃ ds, Vals ([] : List V) ds ∧ Binds K fd P_checked_changes ds := ⟨[], .nil, F.bindsN fun _ _ _ _ _ _ us hl => match us, hl with | [_, _], _ => rfl⟩
  have S2 : FnScope N_checked_changes P_checked_changes d_checked_changes.scope := sc_checked_changes
  have q := def_ok (P := P) (w := w) (mg := mg) (base := base) (k := 2) (b := b_checked_changes) F S2 hB
  refine ⟨ds, hd, q fun cdv A outer s H E c => ?_⟩
  exact (rss_cons (rs_forK c (re_var 1) (rg_name c 2)
  (rss_one (rs_if (rt_not (rt_b (re_call (G_is_below_2.mono (by decide : 2 ≤ 2)) c Asks.run (by rfl) (g_is_below S) hd_is_below_2 (fun _ _ _ => .nil) (ra_cons (re_var 2) (ra_cons (re_var 0) ra_nil))))) (rss_one rs_never) rss_nil)))
  (rss_cons (rs_set c 3 (re_lst ra_nil))
  (rss_cons (rs_for c (ri_seq (re_callB cr_sortedI ok_sorted (by rfl) (g_sorted S) bt_sorted (ra_cons (re_callTy (cr_listX c.calm) ok_listX (by rfl) (g_list S) bt_list (ra_cons (re_var 1) ra_nil)) ra_nil))) (rg_name c 2)
  (rss_cons (rs_if (rt_not (rt_b (re_call (G_is_cells_1.mono (by decide : 2 ≤ 2)) c Asks.run (by rfl) (g_is_cells S) hd_is_cells_1 (fun _ _ _ => .nil) (ra_cons (re_ix (ix_dict c.u1) ok_get (re_var 1) (re_var 2) (fun _ _ => rfl)) ra_nil)))) (rss_one rs_never) rss_nil)
  (rss_one (rs_expr (re_bm (t := .list) PySem.F.plainAttrs_list PySem.F.slot_list_append PySem.F.type_list_append mt_append ok_append (re_var 3) (ra_cons (re_tup (ra_cons (re_var 2) (ra_cons (re_ix (ix_dict c.u1) ok_get (re_var 1) (re_var 2) (fun _ _ => rfl)) ra_nil))) ra_nil))))))
  (rss_one (rs_ret (re_callTy call_tuple_of ok_tuple (by rfl) (g_tuple S) bt_tuple (ra_cons (re_var 3) ra_nil)))))))
abbrev N_versions_of : List PySem.Str := ["settled", "loose", "plate", "found", "one", "value"]
abbrev P_versions_of : List PySem.Str := ["settled", "loose", "plate"]
noncomputable def b_versions_of : Sx :=
  (sSeq (sAsg (eF opAdd (aCons (eF mkLst (aCons (eF opIx (aCons (eVar 0) (aCons (eVar 2) aNil))) aNil)) (aCons (eLc (iSeq (eVar 1)) (gTup 2 (gCons (gName 4) (gCons (gName 5) gNil))) (tB (eF opEqX (aCons (eVar 4) (aCons (eVar 2) aNil)))) (eVar 5) [4, 5]) aNil))) (gName 3))
  (sRet (eIf (tB (eF opEqX (aCons (eF biLen (aCons (eVar 3) aNil)) (aCons (eC (.int 1)) aNil)))) (eF biTuple (aCons (eVar 3) aNil)) (eF mkTup (aStar (eVar 3) (aCons (eC .non) aNil))))))
noncomputable def F_versions_of : Fn := runDef 3 6 b_versions_of
theorem sc_versions_of : FnScope N_versions_of P_versions_of (defScope s_versions_of) := ⟨rfl, rfl, rfl, by decide +kernel, rfl, by decide +kernel, by decide +kernel⟩
theorem ok_versions_of_3 (S : Sys K mg) : ∃ ds, Vals ([] : List V) ds ∧ DefOk P w K mg base 1 (He.fAd K d_versions_of.at_) P_versions_of ds 3 F_versions_of := by
  obtain ⟨fd, F⟩ := S.says.def_ 4 (d := d_versions_of) rfl
  obtain ⟨ds, hd, hB⟩ : ∃ ds, Vals ([] : List V) ds ∧ Binds K fd P_versions_of ds := ⟨[], .nil, F.bindsN fun _ _ _ _ _ _ us hl => match us, hl with | [_, _, _], _ => rfl⟩
  have S2 : FnScope N_versions_of P_versions_of d_versions_of.scope := sc_versions_of
  have q := def_ok (P := P) (w := w) (mg := mg) (base := base) (k := 0) (b := b_versions_of) F S2 hB
  refine ⟨ds, hd, q fun cdv A outer s H E c => ?_⟩
  exact (rss_cons (rs_set c 3 (re_bin op_add4 ok_add (re_lst (ra_cons (re_ix ix_seq ok_ix (re_var 0) (re_var 2) (fun _ _ => rfl)) ra_nil)) (re_lc (own := [("one", 4), ("value", 5)]) c (ri_seq (re_var 1)) (blk_of rfl) (fun s0 H0 C0 cl0 fp0 => (rgo_tup (c.blk s0 H0 C0 cl0 fp0).calm (rgos_cons (rgo_name (c.blk s0 H0 C0 cl0 fp0).nd 4 rfl (.inl rfl) (.inr rfl) (by decide)) (rgos_cons (rgo_name (c.blk s0 H0 C0 cl0 fp0).nd 5 rfl (.inl rfl) (.inr rfl) (by decide)) rgos_nil rfl) rfl) rfl rfl)) (fun s0 H0 C0 cl0 fp0 => (rts_one (rt_cmp (op_eqA (c.blk s0 H0 C0 cl0 fp0).u65) ok_eqA (re_var 4) (re_var 2) rfl))) (fun s0 H0 C0 cl0 fp0 => (re_var 5)))))
  (rss_one (rs_ret (re_ifExp (rt_cmp (op_eqA c.u65) ok_eqA (re_callB call_len_seq ok_len (by rfl) (g_len S) bt_len (ra_cons (re_var 3) ra_nil)) re_int rfl) (re_callTy call_tuple_of ok_tuple (by rfl) (g_tuple S) bt_tuple (ra_cons (re_var 3) ra_nil)) (re_tup (ra_star c.calm (re_var 3) (ra_cons (re_globN (by rfl) (g_TORN S)) ra_nil)))))))
abbrev N_after_barrier : List PySem.Str := ["settled", "loose", "found", "plate", "value"]
abbrev P_after_barrier : List PySem.Str := ["settled", "loose"]
noncomputable def b_after_barrier : Sx :=
  (sSeq (sAsg (eF biListX (aCons (eVar 0) aNil)) (gName 2))
  (sSeq (sFor (iSeq (eVar 1)) (gTup 2 (gCons (gName 3) (gCons (gName 4) gNil)))
  (sAsg (eVar 4) (gSub (eVar 2) (eVar 3) stIx)))
  (sRet (eF biTuple (aCons (eVar 2) aNil)))))
noncomputable def F_after_barrier : Fn := runDef 2 5 b_after_barrier
theorem sc_after_barrier : FnScope N_after_barrier P_after_barrier (defScope s_after_barrier) := ⟨rfl, rfl, rfl, by decide +kernel, rfl, by decide +kernel, by decide +kernel⟩
theorem ok_after_barrier_2 (S : Sys K mg) : ∃ ds, Vals ([] : List V) ds ∧ DefOk P w K mg base 1 (He.fAd K d_after_barrier.at_) P_after_barrier ds 2 F_after_barrier := by
  obtain ⟨fd, F⟩ := S.says.def_ 5 (d := d_after_barrier) rfl
  obtain ⟨ds, hd, hB⟩ : ∃ ds, Vals ([] : List V) ds ∧ Binds K fd P_after_barrier ds := ⟨[], .nil, F.bindsN fun _ _ _ _ _ _ us hl => match us, hl with | [_, _], _ => rfl⟩
  have S2 : FnScope N_after_barrier P_after_barrier d_after_barrier.scope := sc_after_barrier
  have q := def_ok (P := P) (w := w) (mg := mg) (base := base) (k := 0) (b := b_after_barrier) F S2 hB
  refine ⟨ds, hd, q fun cdv A outer s H E c => ?_⟩
  exact (rss_cons (rs_set c 2 (re_callTy (cr_listX c.calm) ok_listX (by rfl) (g_list S) bt_list (ra_cons (re_var 0) ra_nil)))
  (rss_cons (rs_for c (ri_seq (re_var 1)) (rg_tup c (rgs_cons (rg_name c 3) (rgs_cons (rg_name c 4) rgs_nil)))
  (rss_one (rs_asg (re_var 4) (rg_sub set_list ok_set (re_var 2) (re_var 3)))))
  (rss_one (rs_ret (re_callTy call_tuple_of ok_tuple (by rfl) (g_tuple S) bt_tuple (ra_cons (re_var 2) ra_nil))))))
abbrev N_Disk_init : List PySem.Str := ["self", "many"]
abbrev P_Disk_init : List PySem.Str := ["self", "many"]
noncomputable def b_Disk_init : Sx :=
  (sSeq (sFld [0] 0 (eVar 0) (eF opMul (aCons (eF mkTup (aCons (eF mkTup aNil) aNil)) (aCons (eVar 1) aNil))))
  (sFld [0] 1 (eVar 0) (eF mkTup aNil)))
noncomputable def F_Disk_init : Fn := runDef 2 2 b_Disk_init
theorem sc_Disk_init : FnScope N_Disk_init P_Disk_init (defScope s_Disk_init) := ⟨rfl, rfl, rfl, by decide +kernel, rfl, by decide +kernel, by decide +kernel⟩
theorem ok_Disk_init_2 (S : Sys K mg) : ∃ ds, Vals ([] : List V) ds ∧ DefOk P w K mg base 1 (He.fAd K d_Disk_init.at_) P_Disk_init ds 2 F_Disk_init := by
  obtain ⟨fd, F⟩ := S.says.def_ 27 (d := d_Disk_init) rfl
  obtain ⟨ds, hd, hB⟩ : ∃ ds, Vals ([] : List V) ds ∧ Binds K fd P_Disk_init ds := ⟨[], .nil, F.bindsN fun _ _ _ _ _ _ us hl => match us, hl with | [_, _], _ => rfl⟩
  have S2 : FnScope N_Disk_init P_Disk_init d_Disk_init.scope := sc_Disk_init
  have q := def_ok (P := P) (w := w) (mg := mg) (base := base) (k := 0) (b := b_Disk_init) F S2 hB
  refine ⟨ds, hd, q fun cdv A outer s H E c => ?_⟩
  exact (rss_cons (rs_fld (at_settled S) (re_var 0) (re_bin op_mul3 ok_mul (re_tup (ra_cons (re_tup ra_nil) ra_nil)) (re_var 1)))
  (rss_one (rs_fld (at_loose S) (re_var 0) (re_tup ra_nil))))
abbrev N_Disk_barrier : List PySem.Str := ["self"]
abbrev P_Disk_barrier : List PySem.Str := ["self"]
noncomputable def b_Disk_barrier : Sx :=
  (sSeq (sFld [0] 0 (eVar 0) (eF (cl F_after_barrier []) (aCons (eF (fFld [0] 0) (aCons (eVar 0) aNil)) (aCons (eF (fFld [0] 1) (aCons (eVar 0) aNil)) aNil))))
  (sFld [0] 1 (eVar 0) (eF mkTup aNil)))
noncomputable def F_Disk_barrier : Fn := runDef 1 1 b_Disk_barrier
theorem sc_Disk_barrier : FnScope N_Disk_barrier P_Disk_barrier (defScope s_Disk_barrier) := ⟨rfl, rfl, rfl, by decide +kernel, rfl, by decide +kernel, by decide +kernel⟩
theorem ok_Disk_barrier_1 (S : Sys K mg) : ∃ ds, Vals ([] : List V) ds ∧ DefOk P w K mg base 2 (He.fAd K d_Disk_barrier.at_) P_Disk_barrier ds 1 F_Disk_barrier := by
  obtain ⟨ds_after_barrier_2, hd_after_barrier_2, G_after_barrier_2⟩ := ok_after_barrier_2 (P := P) (w := w) (base := base) S
  obtain ⟨fd, F⟩ := S.says.def_ 29 (d := d_Disk_barrier) rfl
  obtain ⟨ds, hd, hB⟩ : ∃ ds, Vals ([] : List V) ds ∧ Binds K fd P_Disk_barrier ds := ⟨[], .nil, F.bindsN fun _ _ _ _ _ _ us hl => match us, hl with | [_], _ => rfl⟩
  have S2 : FnScope N_Disk_barrier P_Disk_barrier d_Disk_barrier.scope := sc_Disk_barrier
  have q := def_ok (P := P) (w := w) (mg := mg) (base := base) (k := 1) (b := b_Disk_barrier) F S2 hB
  refine ⟨ds, hd, q fun cdv A outer s H E c => ?_⟩
  exact (rss_cons (rs_fld (at_settled S) (re_var 0) (re_call (G_after_barrier_2.mono (by decide : 1 ≤ 1)) c Asks.run (by rfl) (g_after_barrier S) hd_after_barrier_2 (fun _ _ _ => .nil) (ra_cons (re_fld (at_settled S) (re_var 0)) (ra_cons (re_fld (at_loose S) (re_var 0)) ra_nil))))
  (rss_one (rs_fld (at_loose S) (re_var 0) (re_tup ra_nil))))
abbrev N_Disk_write : List PySem.Str := ["self", "plate", "value"]
abbrev P_Disk_write : List PySem.Str := ["self", "plate", "value"]
noncomputable def b_Disk_write : Sx :=
  (sSeq (sIf (tNot (tB (eF (cl F_is_below []) (aCons (eVar 1) (aCons (eF biLen (aCons (eF (fFld [0] 0) (aCons (eVar 0) aNil)) aNil)) aNil))))) sBad sNop)
  (sFld [0] 1 (eVar 0) (eF mkTup (aStar (eF (fFld [0] 1) (aCons (eVar 0) aNil)) (aCons (eF mkTup (aCons (eVar 1) (aCons (eVar 2) aNil))) aNil)))))
noncomputable def F_Disk_write : Fn := runDef 3 3 b_Disk_write
theorem sc_Disk_write : FnScope N_Disk_write P_Disk_write (defScope s_Disk_write) := ⟨rfl, rfl, rfl, by decide +kernel, rfl, by decide +kernel, by decide +kernel⟩
theorem ok_Disk_write_3 (S : Sys K mg) : ∃ ds, Vals ([] : List V) ds ∧ DefOk P w K mg base 3 (He.fAd K d_Disk_write.at_) P_Disk_write ds 3 F_Disk_write := by
  obtain ⟨ds_is_below_2, hd_is_below_2, G_is_below_2⟩ := ok_is_below_2 (P := P) (w := w) (base := base) S
  obtain ⟨fd, F⟩ := S.says.def_ 28 (d := d_Disk_write) rfl
  obtain ⟨ds, hd, hB⟩ : ∃ ds, Vals ([] : List V) ds ∧ Binds K fd P_Disk_write ds := ⟨[], .nil, F.bindsN fun _ _ _ _ _ _ us hl => match us, hl with | [_, _, _], _ => rfl⟩
  have S2 : FnScope N_Disk_write P_Disk_write d_Disk_write.scope := sc_Disk_write
  have q := def_ok (P := P) (w := w) (mg := mg) (base := base) (k := 2) (b := b_Disk_write) F S2 hB
  refine ⟨ds, hd, q fun cdv A outer s H E c => ?_⟩
  exact (rss_cons (rs_if (rt_not (rt_b (re_call (G_is_below_2.mono (by decide : 2 ≤ 2)) c Asks.run (by rfl) (g_is_below S) hd_is_below_2 (fun _ _ _ => .nil) (ra_cons (re_var 1) (ra_cons (re_callB call_len_seq ok_len (by rfl) (g_len S) bt_len (ra_cons (re_fld (at_settled S) (re_var 0)) ra_nil)) ra_nil))))) (rss_one rs_never) rss_nil)
  (rss_one (rs_fld (at_loose S) (re_var 0) (re_tup (ra_star c.calm (re_fld (at_loose S) (re_var 0)) (ra_cons (re_tup (ra_cons (re_var 1) (ra_cons (re_var 2) ra_nil))) ra_nil))))))
abbrev N_disk_after : List PySem.Str := ["disk", "trace", "moment", "found", "event"]
abbrev P_disk_after : List PySem.Str := ["disk", "trace", "moment"]
noncomputable def b_disk_after : Sx :=
  (sSeq (sIf (tNot (tB (eF (cl F_is_below []) (aCons (eVar 2) (aCons (eF opAdd (aCons (eF biLen (aCons (eVar 1) aNil)) (aCons (eC (.int 1)) aNil))) aNil))))) sBad sNop)
  (sSeq (sAsg (eF (mkIns 0 (cl F_Disk_init [])) (aCons (eF biLen (aCons (eF (fFld [0] 0) (aCons (eVar 0) aNil)) aNil)) aNil)) (gName 3))
  (sSeq (sFld [0] 0 (eVar 3) (eF (fFld [0] 0) (aCons (eVar 0) aNil)))
  (sSeq (sFld [0] 1 (eVar 3) (eF (fFld [0] 1) (aCons (eVar 0) aNil)))
  (sSeq (sFor (iSeq (eSl (eVar 1) pNone (pSome (eVar 2)))) (gName 4)
  (sIf (tB (eF opEqX (aCons (eF opIx (aCons (eVar 4) (aCons (eC (.int 0)) aNil))) (aCons (eC (.str "barrier")) aNil)))) (sDrop (eM 0 (cl F_Disk_barrier []) (eVar 3) aNil)) (sDrop (eM 0 (cl F_Disk_write []) (eVar 3) (aCons (eF opIx (aCons (eVar 4) (aCons (eC (.int 1)) aNil))) (aCons (eF opIx (aCons (eVar 4) (aCons (eC (.int 2)) aNil))) aNil))))))
  (sRet (eVar 3)))))))
noncomputable def F_disk_after : Fn := runDef 3 5 b_disk_after
theorem sc_disk_after : FnScope N_disk_after P_disk_after (defScope s_disk_after) := ⟨rfl, rfl, rfl, by decide +kernel, rfl, by decide +kernel, by decide +kernel⟩
theorem ok_disk_after_3 (S : Sys K mg) : ∃ ds, Vals ([] : List V) ds ∧ DefOk P w K mg base 4 (He.fAd K d_disk_after.at_) P_disk_after ds 3 F_disk_after := by
  obtain ⟨ds_Disk_init_2, hd_Disk_init_2, G_Disk_init_2⟩ := ok_Disk_init_2 (P := P) (w := w) (base := base) S
  obtain ⟨ds_is_below_2, hd_is_below_2, G_is_below_2⟩ := ok_is_below_2 (P := P) (w := w) (base := base) S
  obtain ⟨ds_Disk_barrier_1, hd_Disk_barrier_1, G_Disk_barrier_1⟩ := ok_Disk_barrier_1 (P := P) (w := w) (base := base) S
  obtain ⟨ds_Disk_write_3, hd_Disk_write_3, G_Disk_write_3⟩ := ok_Disk_write_3 (P := P) (w := w) (base := base) S
  obtain ⟨fd, F⟩ := S.says.def_ 6 (d := d_disk_after) rfl
  obtain ⟨ds, hd, hB⟩ : ∃ ds, Vals ([] : List V) ds ∧ Binds K fd P_disk_after ds := ⟨[], .nil, F.bindsN fun _ _ _ _ _ _ us hl => match us, hl with | [_, _, _], _ => rfl⟩
  have S2 : FnScope N_disk_after P_disk_after d_disk_after.scope := sc_disk_after
  have q := def_ok (P := P) (w := w) (mg := mg) (base := base) (k := 3) (b := b_disk_after) F S2 hB
  refine ⟨ds, hd, q fun cdv A outer s H E c => ?_⟩
  exact (rss_cons (rs_if (rt_not (rt_b (re_call (G_is_below_2.mono (by decide : 2 ≤ 3)) c Asks.run (by rfl) (g_is_below S) hd_is_below_2 (fun _ _ _ => .nil) (ra_cons (re_var 2) (ra_cons (re_bin op_add4 ok_add (re_callB call_len_seq ok_len (by rfl) (g_len S) bt_len (ra_cons (re_var 1) ra_nil)) re_int) ra_nil))))) (rss_one rs_never) rss_nil)
  (rss_cons (rs_set c 3 (re_make (mk_Disk S) (G_Disk_init_2.mono (by decide : 1 ≤ 2)) c Asks.run (by rfl) (g_Disk S) hd_Disk_init_2 (fun _ _ _ => .nil) (ra_cons (re_callB call_len_seq ok_len (by rfl) (g_len S) bt_len (ra_cons (re_fld (at_settled S) (re_var 0)) ra_nil)) ra_nil)))
  (rss_cons (rs_fld (at_settled S) (re_var 3) (re_fld (at_settled S) (re_var 0)))
  (rss_cons (rs_fld (at_loose S) (re_var 3) (re_fld (at_loose S) (re_var 0)))
  (rss_cons (rs_for c (ri_seq (re_sl (re_var 1) rp_none (rp_some (re_var 2)))) (rg_name c 4)
  (rss_one (rs_if (rt_cmp (op_eqA c.u65) ok_eqA (re_ix ix_seq ok_ix (re_var 4) re_int (fun _ _ => rfl)) re_str rfl) (rss_one (rs_expr (re_meth0 (G_Disk_barrier_1.mono (by decide : 2 ≤ 3)) c Asks.run (cl_Disk S) (mt_Disk_barrier S) (by decide +kernel) hd_Disk_barrier_1 (fun _ _ _ => .nil) (re_var 3)))) (rss_one (rs_expr (re_meth (G_Disk_write_3.mono (by decide : 3 ≤ 3)) c Asks.run (cl_Disk S) (mt_Disk_write S) (by decide +kernel) hd_Disk_write_3 (fun _ _ _ => .nil) (re_var 3) (ra_cons (re_ix ix_seq ok_ix (re_var 4) re_int (fun _ _ => rfl)) (ra_cons (re_ix ix_seq ok_ix (re_var 4) re_int (fun _ _ => rfl)) ra_nil))))))))
  (rss_one (rs_ret (re_var 3))))))))
abbrev N_head_plate : List PySem.Str := ["number"]
abbrev P_head_plate : List PySem.Str := ["number"]
noncomputable def b_head_plate : Sx :=
  (sRet (eF opMod (aCons (eVar 0) (aCons (eC (.int 2)) aNil))))
noncomputable def F_head_plate : Fn := runDef 1 1 b_head_plate
theorem sc_head_plate : FnScope N_head_plate P_head_plate (defScope s_head_plate) := ⟨rfl, rfl, rfl, by decide +kernel, rfl, by decide +kernel, by decide +kernel⟩
theorem ok_head_plate_1 (S : Sys K mg) : ∃ ds, Vals ([] : List V) ds ∧ DefOk P w K mg base 1 (He.fAd K d_head_plate.at_) P_head_plate ds 1 F_head_plate := by
  obtain ⟨fd, F⟩ := S.says.def_ 7 (d := d_head_plate) rfl
  obtain ⟨ds, hd, hB⟩ : ∃ ds, Vals ([] : List V) ds ∧ Binds K fd P_head_plate ds := ⟨[], .nil, F.bindsN fun _ _ _ _ _ _ us hl => match us, hl with | [_], _ => rfl⟩
  have S2 : FnScope N_head_plate P_head_plate d_head_plate.scope := sc_head_plate
  have q := def_ok (P := P) (w := w) (mg := mg) (base := base) (k := 0) (b := b_head_plate) F S2 hB
  refine ⟨ds, hd, q fun cdv A outer s H E c => ?_⟩
  exact (rss_one (rs_ret (re_bin op_modN ok_mod (re_var 0) (re_globI (by rfl) (g_HEADS S)))))
abbrev N_is_head : List PySem.Str := ["plate", "value", "entry"]
abbrev P_is_head : List PySem.Str := ["plate", "value"]
noncomputable def b_is_head : Sx :=
  (sSeq (sIf (tOr (tNot (tB (eF (biIsi .tuple) (aCons (eVar 1) aNil)))) (tOr (tB (eF opNeX (aCons (eF biLen (aCons (eVar 1) aNil)) (aCons (eC (.int 3)) aNil)))) (tNot (tB (eF biAll (aCons (eLc (iSeq (eVar 1)) (gName 2) tYes (eF (cl F_is_whole [.non, .non]) (aCons (eVar 2) aNil)) [2]) aNil)))))) (sRet (eC (.bl false))) sNop)
  (sRet (eAnd (eF opGe (aCons (eF biMinT (aCons (eVar 1) aNil)) (aCons (eC (.int 0)) aNil))) (eF opEqX (aCons (eF (cl F_head_plate []) (aCons (eF opIx (aCons (eVar 1) (aCons (eC (.int 0)) aNil))) aNil)) (aCons (eVar 0) aNil))))))
noncomputable def F_is_head : Fn := runDef 2 3 b_is_head
theorem sc_is_head : FnScope N_is_head P_is_head (defScope s_is_head) := ⟨rfl, rfl, rfl, by decide +kernel, rfl, by decide +kernel, by decide +kernel⟩
theorem ok_is_head_2 (S : Sys K mg) : ∃ ds, Vals ([] : List V) ds ∧ DefOk P w K mg base 2 (He.fAd K d_is_head.at_) P_is_head ds 2 F_is_head := by
  obtain ⟨ds_head_plate_1, hd_head_plate_1, G_head_plate_1⟩ := ok_head_plate_1 (P := P) (w := w) (base := base) S
  obtain ⟨ds_is_whole_1, hd_is_whole_1, G_is_whole_1⟩ := ok_is_whole_1 (P := P) (w := w) (base := base) S
  obtain ⟨fd, F⟩ := S.says.def_ 8 (d := d_is_head) rfl
  obtain ⟨ds, hd, hB⟩ : ∃ ds, Vals ([] : List V) ds ∧ Binds K fd P_is_head ds := ⟨[], .nil, F.bindsN fun _ _ _ _ _ _ us hl => match us, hl with | [_, _], _ => rfl⟩
  have S2 : FnScope N_is_head P_is_head d_is_head.scope := sc_is_head
  have q := def_ok (P := P) (w := w) (mg := mg) (base := base) (k := 1) (b := b_is_head) F S2 hB
  refine ⟨ds, hd, q fun cdv A outer s H E c => ?_⟩
  exact (rss_cons (rs_if (rt_w (rw_or (rt_not (rt_b (re_isi .tuple (by rfl) (g_isinstance S) (by rfl) (g_tuple S) bt_tuple (re_var 1)))) (rw_or (rt_cmp (op_neA c.u65) ok_neA (re_callB call_len_seq ok_len (by rfl) (g_len S) bt_len (ra_cons (re_var 1) ra_nil)) re_int rfl) (rw_or1 (rt_not (rt_b (re_callB (cr_all c.calm) ok_all (by rfl) (g_all S) bt_all (ra_cons (re_lc (own := [("entry", 2)]) c (ri_seq (re_var 1)) (blk_of rfl) (fun s0 H0 C0 cl0 fp0 => (rgo_name (c.blk s0 H0 C0 cl0 fp0).nd 2 rfl (.inl rfl) (.inr rfl) (by decide))) (fun s0 H0 C0 cl0 fp0 => rts_nil) (fun s0 H0 C0 cl0 fp0 => (re_call (G_is_whole_1.mono (by decide : 1 ≤ 1)) (c.blk s0 H0 C0 cl0 fp0) Asks.run (by rfl) (g_is_whole S) hd_is_whole_1 (fun _ _ _ => (.cons .non (.cons .non .nil))) (ra_cons (re_var 2) ra_nil)))) ra_nil)))))))) (rss_one (rs_ret re_bl)) rss_nil)
  (rss_one (rs_ret (re_and (re_cmp op_ge ok_ge (re_callB (cr_minT c.calm c.u65) ok_minT (by rfl) (g_min S) bt_min (ra_cons (re_var 1) ra_nil)) re_int rfl) (re_one (re_cmp (op_eqA c.u65) ok_eqA (re_call (G_head_plate_1.mono (by decide : 1 ≤ 1)) c Asks.run (by rfl) (g_head_plate S) hd_head_plate_1 (fun _ _ _ => .nil) (ra_cons (re_ix ix_seq ok_ix (re_var 1) re_int (fun _ _ => rfl)) ra_nil)) (re_var 0) rfl))))))
abbrev N_Disk_now : List PySem.Str := ["self", "plate", "some", "one", "value"]
abbrev P_Disk_now : List PySem.Str := ["self", "plate"]
noncomputable def b_Disk_now : Sx :=
  (sSeq (sIf (tNot (tB (eF (cl F_is_below []) (aCons (eVar 1) (aCons (eF biLen (aCons (eF (fFld [0] 0) (aCons (eVar 0) aNil)) aNil)) aNil))))) sBad sNop)
  (sSeq (sAsg (eLc (iSeq (eF (fFld [0] 1) (aCons (eVar 0) aNil))) (gTup 2 (gCons (gName 3) (gCons (gName 4) gNil))) (tB (eF opEqX (aCons (eVar 3) (aCons (eVar 1) aNil)))) (eVar 4) [3, 4]) (gName 2))
  (sRet (eIf (tB (eF opNeX (aCons (eVar 2) (aCons (eF mkLst aNil) aNil)))) (eF opIx (aCons (eVar 2) (aCons (eF opNeg (aCons (eC (.int 1)) aNil)) aNil))) (eF opIx (aCons (eF (fFld [0] 0) (aCons (eVar 0) aNil)) (aCons (eVar 1) aNil)))))))
noncomputable def F_Disk_now : Fn := runDef 2 5 b_Disk_now
theorem sc_Disk_now : FnScope N_Disk_now P_Disk_now (defScope s_Disk_now) := ⟨rfl, rfl, rfl, by decide +kernel, rfl, by decide +kernel, by decide +kernel⟩
theorem ok_Disk_now_2 (S : Sys K mg) : ∃ ds, Vals ([] : List V) ds ∧ DefOk P w K mg base 3 (He.fAd K d_Disk_now.at_) P_Disk_now ds 2 F_Disk_now := by
  obtain ⟨ds_is_below_2, hd_is_below_2, G_is_below_2⟩ := ok_is_below_2 (P := P) (w := w) (base := base) S
  obtain ⟨fd, F⟩ := S.says.def_ 30 (d := d_Disk_now) rfl
  obtain ⟨ds, hd, hB⟩ : ∃ ds, Vals ([] : List V) ds ∧ Binds K fd P_Disk_now ds := ⟨[], .nil, F.bindsN fun _ _ _ _ _ _ us hl => match us, hl with | [_, _], _ => rfl⟩
  have S2 : FnScope N_Disk_now P_Disk_now d_Disk_now.scope := sc_Disk_now
  have q := def_ok (P := P) (w := w) (mg := mg) (base := base) (k := 2) (b := b_Disk_now) F S2 hB
  refine ⟨ds, hd, q fun cdv A outer s H E c => ?_⟩
  exact (rss_cons (rs_if (rt_not (rt_b (re_call (G_is_below_2.mono (by decide : 2 ≤ 2)) c Asks.run (by rfl) (g_is_below S) hd_is_below_2 (fun _ _ _ => .nil) (ra_cons (re_var 1) (ra_cons (re_callB call_len_seq ok_len (by rfl) (g_len S) bt_len (ra_cons (re_fld (at_settled S) (re_var 0)) ra_nil)) ra_nil))))) (rss_one rs_never) rss_nil)
  (rss_cons (rs_setLc (own := [("one", 3), ("value", 4)]) c 2 (ri_seq (re_fld (at_loose S) (re_var 0))) (blk_of rfl) (fun s0 H0 C0 cl0 fp0 => (rgo_tup (c.blk s0 H0 C0 cl0 fp0).calm (rgos_cons (rgo_name (c.blk s0 H0 C0 cl0 fp0).nd 3 rfl (.inl rfl) (.inr rfl) (by decide)) (rgos_cons (rgo_name (c.blk s0 H0 C0 cl0 fp0).nd 4 rfl (.inl rfl) (.inr rfl) (by decide)) rgos_nil rfl) rfl) rfl rfl)) (fun s0 H0 C0 cl0 fp0 => (rts_one (rt_cmp (op_eqA (c.blk s0 H0 C0 cl0 fp0).u65) ok_eqA (re_var 3) (re_var 1) rfl))) (fun s0 H0 C0 cl0 fp0 => (re_var 4)) rfl rfl (sw_true rfl rfl rfl (by decide +kernel)))
  (rss_one (rs_ret (re_ifExp (rt_cmp (op_neA c.u65) ok_neA (re_var 2) (re_lst ra_nil) rfl) (re_ix ix_seq ok_ix (re_var 2) (re_un un_neg ok_neg re_int) (fun _ _ => rfl)) (re_ix ix_seq ok_ix (re_fld (at_settled S) (re_var 0)) (re_var 1) (fun _ _ => rfl)))))))
abbrev N_read_head : List PySem.Str := ["disk", "found", "plate"]
abbrev P_read_head : List PySem.Str := ["disk"]
noncomputable def b_read_head : Sx :=
  (sSeq (sAsg (eLc (iRng1 (aCons (eC (.int 2)) aNil)) (gName 2) (tB (eF (cl F_is_head []) (aCons (eVar 2) (aCons (eM 0 (cl F_Disk_now []) (eVar 0) (aCons (eVar 2) aNil)) aNil)))) (eM 0 (cl F_Disk_now []) (eVar 0) (aCons (eVar 2) aNil)) [2]) (gName 1))
  (sSeq (sIf (tB (eF opEqX (aCons (eVar 1) (aCons (eF mkLst aNil) aNil)))) sBad sNop)
  (sRet (eF biMaxX (aCons (eVar 1) aNil)))))
noncomputable def F_read_head : Fn := runDef 1 3 b_read_head
theorem sc_read_head : FnScope N_read_head P_read_head (defScope s_read_head) := ⟨rfl, rfl, rfl, by decide +kernel, rfl, by decide +kernel, by decide +kernel⟩
theorem ok_read_head_1 (S : Sys K mg) : ∃ ds, Vals ([] : List V) ds ∧ DefOk P w K mg base 4 (He.fAd K d_read_head.at_) P_read_head ds 1 F_read_head := by
  obtain ⟨ds_Disk_now_2, hd_Disk_now_2, G_Disk_now_2⟩ := ok_Disk_now_2 (P := P) (w := w) (base := base) S
  obtain ⟨ds_is_head_2, hd_is_head_2, G_is_head_2⟩ := ok_is_head_2 (P := P) (w := w) (base := base) S
  obtain ⟨fd, F⟩ := S.says.def_ 9 (d := d_read_head) rfl
  obtain ⟨ds, hd, hB⟩ : ∃ ds, Vals ([] : List V) ds ∧ Binds K fd P_read_head ds := ⟨[], .nil, F.bindsN fun _ _ _ _ _ _ us hl => match us, hl with | [_], _ => rfl⟩
  have S2 : FnScope N_read_head P_read_head d_read_head.scope := sc_read_head
  have q := def_ok (P := P) (w := w) (mg := mg) (base := base) (k := 3) (b := b_read_head) F S2 hB
  refine ⟨ds, hd, q fun cdv A outer s H E c => ?_⟩
  exact (rss_cons (rs_setLc (own := [("plate", 2)]) c 1 (ri_rng1 (by rfl) (g_range S) (ra_cons (re_globI (by rfl) (g_HEADS S)) ra_nil)) (blk_of rfl) (fun s0 H0 C0 cl0 fp0 => (rgo_name (c.blk s0 H0 C0 cl0 fp0).nd 2 rfl (.inl rfl) (.inr rfl) (by decide))) (fun s0 H0 C0 cl0 fp0 => (rts_one (rt_b (re_call (G_is_head_2.mono (by decide : 2 ≤ 3)) (c.blk s0 H0 C0 cl0 fp0) Asks.run (by rfl) (g_is_head S) hd_is_head_2 (fun _ _ _ => .nil) (ra_cons (re_var 2) (ra_cons (re_meth (G_Disk_now_2.mono (by decide : 3 ≤ 3)) (c.blk s0 H0 C0 cl0 fp0) Asks.run (cl_Disk S) (mt_Disk_now S) (by decide +kernel) hd_Disk_now_2 (fun _ _ _ => .nil) (re_var 0) (ra_cons (re_var 2) ra_nil)) ra_nil)))))) (fun s0 H0 C0 cl0 fp0 => (re_meth (G_Disk_now_2.mono (by decide : 3 ≤ 3)) (c.blk s0 H0 C0 cl0 fp0) Asks.run (cl_Disk S) (mt_Disk_now S) (by decide +kernel) hd_Disk_now_2 (fun _ _ _ => .nil) (re_var 0) (ra_cons (re_var 2) ra_nil))) rfl rfl (sw_true rfl rfl rfl (by decide +kernel)))
  (rss_cons (rs_if (rt_cmp (op_eqA c.u65) ok_eqA (re_var 1) (re_lst ra_nil) rfl) (rss_one rs_never) rss_nil)
  (rss_one (rs_ret (re_callB (cr_maxX c.calm c.u65) ok_maxX (by rfl) (g_max S) bt_max (ra_cons (re_var 1) ra_nil))))))
abbrev N_slot_plate : List PySem.Str := ["slots", "slot"]
abbrev P_slot_plate : List PySem.Str := ["slots", "slot"]
noncomputable def b_slot_plate : Sx :=
  (sRet (eF opAdd (aCons (eC (.int 2)) (aCons (eF opMod (aCons (eVar 1) (aCons (eVar 0) aNil))) aNil))))
noncomputable def F_slot_plate : Fn := runDef 2 2 b_slot_plate
theorem sc_slot_plate : FnScope N_slot_plate P_slot_plate (defScope s_slot_plate) := ⟨rfl, rfl, rfl, by decide +kernel, rfl, by decide +kernel, by decide +kernel⟩
theorem ok_slot_plate_2 (S : Sys K mg) : ∃ ds, Vals ([] : List V) ds ∧ DefOk P w K mg base 1 (He.fAd K d_slot_plate.at_) P_slot_plate ds 2 F_slot_plate := by
  obtain ⟨fd, F⟩ := S.says.def_ 10 (d := d_slot_plate) rfl
  obtain ⟨ds, hd, hB⟩ : ∃ ds, Vals ([] : List V) ds ∧ Binds K fd P_slot_plate ds := ⟨[], .nil, F.bindsN fun _ _ _ _ _ _ us hl => match us, hl with | [_, _], _ => rfl⟩
  have S2 : FnScope N_slot_plate P_slot_plate d_slot_plate.scope := sc_slot_plate
  have q := def_ok (P := P) (w := w) (mg := mg) (base := base) (k := 0) (b := b_slot_plate) F S2 hB
  refine ⟨ds, hd, q fun cdv A outer s H E c => ?_⟩
  exact (rss_one (rs_ret (re_bin op_add4 ok_add (re_globI (by rfl) (g_HEADS S)) (re_bin op_modN ok_mod (re_var 1) (re_var 0)))))
abbrev N_log_rows : List PySem.Str := ["group", "changes", "many", "at", "plate", "cells"]
abbrev P_log_rows : List PySem.Str := ["group", "changes"]
noncomputable def b_log_rows : Sx :=
  (sSeq (sAsg (eF biLen (aCons (eVar 1) aNil)) (gName 2))
  (sRet (eLc (iEnum (aCons (eVar 1) aNil)) (gTup 2 (gCons (gName 3) (gCons (gTup 2 (gCons (gName 4) (gCons (gName 5) gNil))) gNil))) tYes (eF mkTup (aCons (eVar 0) (aCons (eVar 3) (aCons (eVar 2) (aCons (eVar 4) (aStar (eVar 5) aNil)))))) [3, 4, 5])))
noncomputable def F_log_rows : Fn := runDef 2 6 b_log_rows
theorem sc_log_rows : FnScope N_log_rows P_log_rows (defScope s_log_rows) := ⟨rfl, rfl, rfl, by decide +kernel, rfl, by decide +kernel, by decide +kernel⟩
theorem ok_log_rows_2 (S : Sys K mg) : ∃ ds, Vals ([] : List V) ds ∧ DefOk P w K mg base 1 (He.fAd K d_log_rows.at_) P_log_rows ds 2 F_log_rows := by
  obtain ⟨fd, F⟩ := S.says.def_ 11 (d := d_log_rows) rfl
  obtain ⟨ds, hd, hB⟩ : ∃ ds, Vals ([] : List V) ds ∧ Binds K fd P_log_rows ds := ⟨[], .nil, F.bindsN fun _ _ _ _ _ _ us hl => match us, hl with | [_, _], _ => rfl⟩
  have S2 : FnScope N_log_rows P_log_rows d_log_rows.scope := sc_log_rows
  have q := def_ok (P := P) (w := w) (mg := mg) (base := base) (k := 0) (b := b_log_rows) F S2 hB
  refine ⟨ds, hd, q fun cdv A outer s H E c => ?_⟩
  exact (rss_cons (rs_set c 2 (re_callB call_len_seq ok_len (by rfl) (g_len S) bt_len (ra_cons (re_var 1) ra_nil)))
  (rss_one (rs_ret (re_lc (own := [("at", 3), ("plate", 4), ("cells", 5)]) c (ri_enum (by rfl) (g_enumerate S) (ra_cons (re_var 1) ra_nil)) (blk_of rfl) (fun s0 H0 C0 cl0 fp0 => (rgo_tup (c.blk s0 H0 C0 cl0 fp0).calm (rgos_cons (rgo_name (c.blk s0 H0 C0 cl0 fp0).nd 3 rfl (.inl rfl) (.inr rfl) (by decide)) (rgos_cons (rgo_tup (c.blk s0 H0 C0 cl0 fp0).calm (rgos_cons (rgo_name (c.blk s0 H0 C0 cl0 fp0).nd 4 rfl (.inl rfl) (.inr rfl) (by decide)) (rgos_cons (rgo_name (c.blk s0 H0 C0 cl0 fp0).nd 5 rfl (.inl rfl) (.inr rfl) (by decide)) rgos_nil rfl) rfl) rfl rfl) rgos_nil rfl) rfl) rfl rfl)) (fun s0 H0 C0 cl0 fp0 => rts_nil) (fun s0 H0 C0 cl0 fp0 => (re_tup (ra_cons (re_var 0) (ra_cons (re_var 3) (ra_cons (re_var 2) (ra_cons (re_var 4) (ra_star (c.blk s0 H0 C0 cl0 fp0).calm (re_var 5) ra_nil)))))))))))
abbrev N_is_log_plate : List PySem.Str := ["value", "entry"]
abbrev P_is_log_plate : List PySem.Str := ["value"]
noncomputable def b_is_log_plate : Sx :=
  (sSeq (sIf (tOr (tNot (tB (eF (biIsi .tuple) (aCons (eVar 0) aNil)))) (tOr (tB (eF opNeX (aCons (eF biLen (aCons (eVar 0) aNil)) (aCons (eF opAdd (aCons (eC (.int 4)) (aCons (eC (.int 8)) aNil))) aNil)))) (tNot (tB (eF biAll (aCons (eLc (iSeq (eVar 0)) (gName 1) tYes (eF (cl F_is_whole [.non, .non]) (aCons (eVar 1) aNil)) [1]) aNil)))))) (sRet (eC (.bl false))) sNop)
  (sRet (eAnd (eChain opLe opLt (eC (.int 0)) (eF opIx (aCons (eVar 0) (aCons (eC (.int 1)) aNil))) (eF opIx (aCons (eVar 0) (aCons (eC (.int 2)) aNil)))) (eAnd (eF opGe (aCons (eF opIx (aCons (eVar 0) (aCons (eC (.int 0)) aNil))) (aCons (eC (.int 0)) aNil))) (eF opGe (aCons (eF opIx (aCons (eVar 0) (aCons (eC (.int 3)) aNil))) (aCons (eC (.int 0)) aNil)))))))
noncomputable def F_is_log_plate : Fn := runDef 1 2 b_is_log_plate
theorem sc_is_log_plate : FnScope N_is_log_plate P_is_log_plate (defScope s_is_log_plate) := ⟨rfl, rfl, rfl, by decide +kernel, rfl, by decide +kernel, by decide +kernel⟩
theorem ok_is_log_plate_1 (S : Sys K mg) : ∃ ds, Vals ([] : List V) ds ∧ DefOk P w K mg base 2 (He.fAd K d_is_log_plate.at_) P_is_log_plate ds 1 F_is_log_plate := by
  obtain ⟨ds_is_whole_1, hd_is_whole_1, G_is_whole_1⟩ := ok_is_whole_1 (P := P) (w := w) (base := base) S
  obtain ⟨fd, F⟩ := S.says.def_ 12 (d := d_is_log_plate) rfl
  obtain ⟨ds, hd, hB⟩ : ∃ ds, Vals ([] : List V) ds ∧ Binds K fd P_is_log_plate ds := ⟨[], .nil, F.bindsN fun _ _ _ _ _ _ us hl => match us, hl with | [_], _ => rfl⟩
  have S2 : FnScope N_is_log_plate P_is_log_plate d_is_log_plate.scope := sc_is_log_plate
  have q := def_ok (P := P) (w := w) (mg := mg) (base := base) (k := 1) (b := b_is_log_plate) F S2 hB
  refine ⟨ds, hd, q fun cdv A outer s H E c => ?_⟩
  exact (rss_cons (rs_if (rt_w (rw_or (rt_not (rt_b (re_isi .tuple (by rfl) (g_isinstance S) (by rfl) (g_tuple S) bt_tuple (re_var 0)))) (rw_or (rt_cmp (op_neA c.u65) ok_neA (re_callB call_len_seq ok_len (by rfl) (g_len S) bt_len (ra_cons (re_var 0) ra_nil)) (re_bin op_add4 ok_add (re_globI (by rfl) (g_PARTS S)) (re_globI (by rfl) (g_WIDTH S))) rfl) (rw_or1 (rt_not (rt_b (re_callB (cr_all c.calm) ok_all (by rfl) (g_all S) bt_all (ra_cons (re_lc (own := [("entry", 1)]) c (ri_seq (re_var 0)) (blk_of rfl) (fun s0 H0 C0 cl0 fp0 => (rgo_name (c.blk s0 H0 C0 cl0 fp0).nd 1 rfl (.inl rfl) (.inr rfl) (by decide))) (fun s0 H0 C0 cl0 fp0 => rts_nil) (fun s0 H0 C0 cl0 fp0 => (re_call (G_is_whole_1.mono (by decide : 1 ≤ 1)) (c.blk s0 H0 C0 cl0 fp0) Asks.run (by rfl) (g_is_whole S) hd_is_whole_1 (fun _ _ _ => (.cons .non (.cons .non .nil))) (ra_cons (re_var 1) ra_nil)))) ra_nil)))))))) (rss_one (rs_ret re_bl)) rss_nil)
  (rss_one (rs_ret (re_and (re_chain op_le ok_le op_lt ok_lt re_int (re_ix ix_seq ok_ix (re_var 0) re_int (fun _ _ => rfl)) (re_ix ix_seq ok_ix (re_var 0) re_int (fun _ _ => rfl))) (re_and (re_cmp op_ge ok_ge (re_ix ix_seq ok_ix (re_var 0) re_int (fun _ _ => rfl)) re_int rfl) (re_one (re_cmp op_ge ok_ge (re_ix ix_seq ok_ix (re_var 0) re_int (fun _ _ => rfl)) re_int rfl)))))))
abbrev N_whole_group : List PySem.Str := ["disk", "slots", "slot", "group", "first", "found", "at", "value"]
abbrev P_whole_group : List PySem.Str := ["disk", "slots", "slot", "group"]
noncomputable def b_whole_group : Sx :=
  (sSeq (sAsg (eM 0 (cl F_Disk_now []) (eVar 0) (aCons (eF (cl F_slot_plate []) (aCons (eVar 1) (aCons (eVar 2) aNil))) aNil)) (gName 4))
  (sSeq (sIf (tOr (tNot (tB (eF (cl F_is_log_plate []) (aCons (eVar 4) aNil)))) (tOr (tB (eF opNeX (aCons (eF opIx (aCons (eVar 4) (aCons (eC (.int 0)) aNil))) (aCons (eVar 3) aNil)))) (tOr (tB (eF opNeX (aCons (eF opIx (aCons (eVar 4) (aCons (eC (.int 1)) aNil))) (aCons (eC (.int 0)) aNil)))) (tB (eF opGt (aCons (eF opIx (aCons (eVar 4) (aCons (eC (.int 2)) aNil))) (aCons (eVar 1) aNil))))))) (sRet (eC .non)) sNop)
  (sSeq (sAsg (eF mkLst aNil) (gName 5))
  (sSeq (sFor (iRng1 (aCons (eF opIx (aCons (eVar 4) (aCons (eC (.int 2)) aNil))) aNil)) (gName 6)
  (sSeq (sAsg (eM 0 (cl F_Disk_now []) (eVar 0) (aCons (eF (cl F_slot_plate []) (aCons (eVar 1) (aCons (eF opAdd (aCons (eVar 2) (aCons (eVar 6) aNil))) aNil))) aNil)) (gName 7))
  (sSeq (sIf (tOr (tNot (tB (eF (cl F_is_log_plate []) (aCons (eVar 7) aNil)))) (tB (eF opNeX (aCons (eSl (eVar 7) pNone (pSome (eC (.int 3)))) (aCons (eF mkTup (aCons (eVar 3) (aCons (eVar 6) (aCons (eF opIx (aCons (eVar 4) (aCons (eC (.int 2)) aNil))) aNil)))) aNil))))) (sRet (eC .non)) sNop)
  (sDrop (eBM .list mAppend (eVar 5) (aCons (eF mkTup (aCons (eF opIx (aCons (eVar 7) (aCons (eC (.int 3)) aNil))) (aCons (eSl (eVar 7) (pSome (eC (.int 4))) pNone) aNil))) aNil))))))
  (sRet (eF biTuple (aCons (eVar 5) aNil)))))))
noncomputable def F_whole_group : Fn := runDef 4 8 b_whole_group
theorem sc_whole_group : FnScope N_whole_group P_whole_group (defScope s_whole_group) := ⟨rfl, rfl, rfl, by decide +kernel, rfl, by decide +kernel, by decide +kernel⟩
theorem ok_whole_group_4 (S : Sys K mg) : ∃ ds, Vals ([] : List V) ds ∧ DefOk P w K mg base 4 (He.fAd K d_whole_group.at_) P_whole_group ds 4 F_whole_group := by
  obtain ⟨ds_Disk_now_2, hd_Disk_now_2, G_Disk_now_2⟩ := ok_Disk_now_2 (P := P) (w := w) (base := base) S
  obtain ⟨ds_slot_plate_2, hd_slot_plate_2, G_slot_plate_2⟩ := ok_slot_plate_2 (P := P) (w := w) (base := base) S
  obtain ⟨ds_is_log_plate_1, hd_is_log_plate_1, G_is_log_plate_1⟩ := ok_is_log_plate_1 (P := P) (w := w) (base := base) S
  obtain ⟨fd, F⟩ := S.says.def_ 13 (d := d_whole_group) rfl
  obtain ⟨ds, hd, hB⟩ : ∃ ds, Vals ([] : List V) ds ∧ Binds K fd P_whole_group ds := ⟨[], .nil, F.bindsN fun _ _ _ _ _ _ us hl => match us, hl with | [_, _, _, _], _ => rfl⟩
  have S2 : FnScope N_whole_group P_whole_group d_whole_group.scope := sc_whole_group
  have q := def_ok (P := P) (w := w) (mg := mg) (base := base) (k := 3) (b := b_whole_group) F S2 hB
  refine ⟨ds, hd, q fun cdv A outer s H E c => ?_⟩
  exact (rss_cons (rs_set c 4 (re_meth (G_Disk_now_2.mono (by decide : 3 ≤ 3)) c Asks.run (cl_Disk S) (mt_Disk_now S) (by decide +kernel) hd_Disk_now_2 (fun _ _ _ => .nil) (re_var 0) (ra_cons (re_call (G_slot_plate_2.mono (by decide : 1 ≤ 3)) c Asks.run (by rfl) (g_slot_plate S) hd_slot_plate_2 (fun _ _ _ => .nil) (ra_cons (re_var 1) (ra_cons (re_var 2) ra_nil))) ra_nil)))
  (rss_cons (rs_if (rt_w (rw_or (rt_not (rt_b (re_call (G_is_log_plate_1.mono (by decide : 2 ≤ 3)) c Asks.run (by rfl) (g_is_log_plate S) hd_is_log_plate_1 (fun _ _ _ => .nil) (ra_cons (re_var 4) ra_nil)))) (rw_or (rt_cmp (op_neA c.u65) ok_neA (re_ix ix_seq ok_ix (re_var 4) re_int (fun _ _ => rfl)) (re_var 3) rfl) (rw_or (rt_cmp (op_neA c.u65) ok_neA (re_ix ix_seq ok_ix (re_var 4) re_int (fun _ _ => rfl)) re_int rfl) (rw_or1 (rt_cmp op_gt ok_gt (re_ix ix_seq ok_ix (re_var 4) re_int (fun _ _ => rfl)) (re_var 1) rfl)))))) (rss_one (rs_ret re_non)) rss_nil)
  (rss_cons (rs_set c 5 (re_lst ra_nil))
  (rss_cons (rs_for c (ri_rng1 (by rfl) (g_range S) (ra_cons (re_ix ix_seq ok_ix (re_var 4) re_int (fun _ _ => rfl)) ra_nil)) (rg_name c 6)
  (rss_cons (rs_set c 7 (re_meth (G_Disk_now_2.mono (by decide : 3 ≤ 3)) c Asks.run (cl_Disk S) (mt_Disk_now S) (by decide +kernel) hd_Disk_now_2 (fun _ _ _ => .nil) (re_var 0) (ra_cons (re_call (G_slot_plate_2.mono (by decide : 1 ≤ 3)) c Asks.run (by rfl) (g_slot_plate S) hd_slot_plate_2 (fun _ _ _ => .nil) (ra_cons (re_var 1) (ra_cons (re_bin op_add4 ok_add (re_var 2) (re_var 6)) ra_nil))) ra_nil)))
  (rss_cons (rs_if (rt_w (rw_or (rt_not (rt_b (re_call (G_is_log_plate_1.mono (by decide : 2 ≤ 3)) c Asks.run (by rfl) (g_is_log_plate S) hd_is_log_plate_1 (fun _ _ _ => .nil) (ra_cons (re_var 7) ra_nil)))) (rw_or1 (rt_cmp (op_neA c.u65) ok_neA (re_sl (re_var 7) rp_none (rp_some re_int)) (re_tup (ra_cons (re_var 3) (ra_cons (re_var 6) (ra_cons (re_ix ix_seq ok_ix (re_var 4) re_int (fun _ _ => rfl)) ra_nil)))) rfl)))) (rss_one (rs_ret re_non)) rss_nil)
  (rss_one (rs_expr (re_bm (t := .list) PySem.F.plainAttrs_list PySem.F.slot_list_append PySem.F.type_list_append mt_append ok_append (re_var 5) (ra_cons (re_tup (ra_cons (re_ix ix_seq ok_ix (re_var 7) re_int (fun _ _ => rfl)) (ra_cons (re_sl (re_var 7) (rp_some (re_globI (by rfl) (g_PARTS S))) rp_none) ra_nil))) ra_nil)))))))
  (rss_one (rs_ret (re_callTy call_tuple_of ok_tuple (by rfl) (g_tuple S) bt_tuple (ra_cons (re_var 5) ra_nil))))))))
abbrev N_read_groups : List PySem.Str := ["disk", "slots", "head", "number", "group", "slot", "found", "used", "changes"]
abbrev P_read_groups : List PySem.Str := ["disk", "slots", "head"]
noncomputable def b_read_groups : Sx :=
  (sSeq (sAsg (eVar 2) (gTup 3 (gCons (gName 3) (gCons (gName 4) (gCons (gName 5) gNil)))))
  (sSeq (sPar 6 7 (aCons (eF mkLst aNil) (aCons (eC (.int 0)) aNil)))
  (sSeq (sAsg (eF (cl F_whole_group []) (aCons (eVar 0) (aCons (eVar 1) (aCons (eVar 5) (aCons (eVar 4) aNil))))) (gName 8))
  (sSeq (sWhile (tAnd (tB (eF opNis (aCons (eVar 8) (aCons (eC .non) aNil)))) (tB (eF opLe (aCons (eF opAdd (aCons (eVar 7) (aCons (eF biLen (aCons (eVar 8) aNil)) aNil))) (aCons (eVar 1) aNil)))))
  (sSeq (sDrop (eBM .list mAppend (eVar 6) (aCons (eF mkTup (aCons (eVar 4) (aCons (eVar 5) (aCons (eVar 8) aNil)))) aNil)))
  (sSeq (sAug 7 (eF biLen (aCons (eVar 8) aNil)) opAddI)
  (sSeq (sPar 4 5 (aCons (eF opAdd (aCons (eVar 4) (aCons (eC (.int 1)) aNil))) (aCons (eF opAdd (aCons (eVar 5) (aCons (eF biLen (aCons (eVar 8) aNil)) aNil))) aNil)))
  (sAsg (eF (cl F_whole_group []) (aCons (eVar 0) (aCons (eVar 1) (aCons (eVar 5) (aCons (eVar 4) aNil))))) (gName 8))))))
  (sRet (eF biTuple (aCons (eVar 6) aNil)))))))
noncomputable def F_read_groups : Fn := runDef 3 9 b_read_groups
theorem sc_read_groups : FnScope N_read_groups P_read_groups (defScope s_read_groups) := ⟨rfl, rfl, rfl, by decide +kernel, rfl, by decide +kernel, by decide +kernel⟩
theorem ok_read_groups_3 (S : Sys K mg) : ∃ ds, Vals ([] : List V) ds ∧ DefOk P w K mg base 5 (He.fAd K d_read_groups.at_) P_read_groups ds 3 F_read_groups := by
  obtain ⟨ds_whole_group_4, hd_whole_group_4, G_whole_group_4⟩ := ok_whole_group_4 (P := P) (w := w) (base := base) S
  obtain ⟨fd, F⟩ := S.says.def_ 14 (d := d_read_groups) rfl
  obtain ⟨ds, hd, hB⟩ : ∃ ds, Vals ([] : List V) ds ∧ Binds K fd P_read_groups ds := ⟨[], .nil, F.bindsN fun _ _ _ _ _ _ us hl => match us, hl with | [_, _, _], _ => rfl⟩
  have S2 : FnScope N_read_groups P_read_groups d_read_groups.scope := sc_read_groups
  have q := def_ok (P := P) (w := w) (mg := mg) (base := base) (k := 4) (b := b_read_groups) F S2 hB
  refine ⟨ds, hd, q fun cdv A outer s H E c => ?_⟩
  exact (rss_cons (rs_asg (re_var 2) (rg_tup c (rgs_cons (rg_name c 3) (rgs_cons (rg_name c 4) (rgs_cons (rg_name c 5) rgs_nil)))))
  (rss_cons (rs_par c 6 7 (ra_cons (re_lst ra_nil) (ra_cons re_int ra_nil)))
  (rss_cons (rs_set c 8 (re_call (G_whole_group_4.mono (by decide : 4 ≤ 4)) c Asks.run (by rfl) (g_whole_group S) hd_whole_group_4 (fun _ _ _ => .nil) (ra_cons (re_var 0) (ra_cons (re_var 1) (ra_cons (re_var 5) (ra_cons (re_var 4) ra_nil))))))
  (rss_cons (rs_while c (rt_w (rw_and (rt_cmp op_notN ok_nis (re_var 8) re_non rfl) (rw_and1 (rt_cmp op_le ok_le (re_bin op_add4 ok_add (re_var 7) (re_callB call_len_seq ok_len (by rfl) (g_len S) bt_len (ra_cons (re_var 8) ra_nil))) (re_var 1) rfl))))
  (rss_cons (rs_expr (re_bm (t := .list) PySem.F.plainAttrs_list PySem.F.slot_list_append PySem.F.type_list_append mt_append ok_append (re_var 6) (ra_cons (re_tup (ra_cons (re_var 4) (ra_cons (re_var 5) (ra_cons (re_var 8) ra_nil)))) ra_nil)))
  (rss_cons (rs_aug c 7 ip_add ok_ipadd (re_callB call_len_seq ok_len (by rfl) (g_len S) bt_len (ra_cons (re_var 8) ra_nil)))
  (rss_cons (rs_par c 4 5 (ra_cons (re_bin op_add4 ok_add (re_var 4) re_int) (ra_cons (re_bin op_add4 ok_add (re_var 5) (re_callB call_len_seq ok_len (by rfl) (g_len S) bt_len (ra_cons (re_var 8) ra_nil))) ra_nil)))
  (rss_one (rs_set c 8 (re_call (G_whole_group_4.mono (by decide : 4 ≤ 4)) c Asks.run (by rfl) (g_whole_group S) hd_whole_group_4 (fun _ _ _ => .nil) (ra_cons (re_var 0) (ra_cons (re_var 1) (ra_cons (re_var 5) (ra_cons (re_var 4) ra_nil)))))))))))
  (rss_one (rs_ret (re_callTy call_tuple_of ok_tuple (by rfl) (g_tuple S) bt_tuple (ra_cons (re_var 6) ra_nil))))))))
abbrev N_last_seen : List PySem.Str := ["disk", "slots", "found", "slot", "value"]
abbrev P_last_seen : List PySem.Str := ["disk", "slots"]
noncomputable def b_last_seen : Sx :=
  (sSeq (sAsg (eLc (iRng1 (aCons (eVar 1) aNil)) (gName 3) tYes (eM 0 (cl F_Disk_now []) (eVar 0) (aCons (eF (cl F_slot_plate []) (aCons (eVar 1) (aCons (eVar 3) aNil))) aNil)) [3]) (gName 2))
  (sRet (eF biMaxX (aCons (eF mkLst (aCons (eF opNeg (aCons (eC (.int 1)) aNil)) (aStar (eLc (iSeq (eVar 2)) (gName 4) (tB (eF (cl F_is_log_plate []) (aCons (eVar 4) aNil))) (eF opIx (aCons (eVar 4) (aCons (eC (.int 0)) aNil))) [4]) aNil))) aNil))))
noncomputable def F_last_seen : Fn := runDef 2 5 b_last_seen
theorem sc_last_seen : FnScope N_last_seen P_last_seen (defScope s_last_seen) := ⟨rfl, rfl, rfl, by decide +kernel, rfl, by decide +kernel, by decide +kernel⟩
theorem ok_last_seen_2 (S : Sys K mg) : ∃ ds, Vals ([] : List V) ds ∧ DefOk P w K mg base 4 (He.fAd K d_last_seen.at_) P_last_seen ds 2 F_last_seen := by
  obtain ⟨ds_Disk_now_2, hd_Disk_now_2, G_Disk_now_2⟩ := ok_Disk_now_2 (P := P) (w := w) (base := base) S
  obtain ⟨ds_slot_plate_2, hd_slot_plate_2, G_slot_plate_2⟩ := ok_slot_plate_2 (P := P) (w := w) (base := base) S
  obtain ⟨ds_is_log_plate_1, hd_is_log_plate_1, G_is_log_plate_1⟩ := ok_is_log_plate_1 (P := P) (w := w) (base := base) S
  obtain ⟨fd, F⟩ := S.says.def_ 15 (d := d_last_seen) rfl
  obtain ⟨ds, hd, hB⟩ : ∃ ds, Vals ([] : List V) ds ∧ Binds K fd P_last_seen ds := ⟨[], .nil, F.bindsN fun _ _ _ _ _ _ us hl => match us, hl with | [_, _], _ => rfl⟩
  have S2 : FnScope N_last_seen P_last_seen d_last_seen.scope := sc_last_seen
  have q := def_ok (P := P) (w := w) (mg := mg) (base := base) (k := 3) (b := b_last_seen) F S2 hB
  refine ⟨ds, hd, q fun cdv A outer s H E c => ?_⟩
  exact (rss_cons (rs_setLc (own := [("slot", 3)]) c 2 (ri_rng1 (by rfl) (g_range S) (ra_cons (re_var 1) ra_nil)) (blk_of rfl) (fun s0 H0 C0 cl0 fp0 => (rgo_name (c.blk s0 H0 C0 cl0 fp0).nd 3 rfl (.inl rfl) (.inr rfl) (by decide))) (fun s0 H0 C0 cl0 fp0 => rts_nil) (fun s0 H0 C0 cl0 fp0 => (re_meth (G_Disk_now_2.mono (by decide : 3 ≤ 3)) (c.blk s0 H0 C0 cl0 fp0) Asks.run (cl_Disk S) (mt_Disk_now S) (by decide +kernel) hd_Disk_now_2 (fun _ _ _ => .nil) (re_var 0) (ra_cons (re_call (G_slot_plate_2.mono (by decide : 1 ≤ 3)) (c.blk s0 H0 C0 cl0 fp0) Asks.run (by rfl) (g_slot_plate S) hd_slot_plate_2 (fun _ _ _ => .nil) (ra_cons (re_var 1) (ra_cons (re_var 3) ra_nil))) ra_nil))) rfl rfl (sw_true rfl rfl rfl (by decide +kernel)))
  (rss_one (rs_ret (re_callB (cr_maxX c.calm c.u65) ok_maxX (by rfl) (g_max S) bt_max (ra_cons (re_lst (ra_cons (re_un un_neg ok_neg re_int) (ra_star c.calm (re_lc (own := [("value", 4)]) c (ri_seq (re_var 2)) (blk_of rfl) (fun s0 H0 C0 cl0 fp0 => (rgo_name (c.blk s0 H0 C0 cl0 fp0).nd 4 rfl (.inl rfl) (.inr rfl) (by decide))) (fun s0 H0 C0 cl0 fp0 => (rts_one (rt_b (re_call (G_is_log_plate_1.mono (by decide : 2 ≤ 3)) (c.blk s0 H0 C0 cl0 fp0) Asks.run (by rfl) (g_is_log_plate S) hd_is_log_plate_1 (fun _ _ _ => .nil) (ra_cons (re_var 4) ra_nil))))) (fun s0 H0 C0 cl0 fp0 => (re_ix ix_seq ok_ix (re_var 4) re_int (fun _ _ => rfl)))) ra_nil))) ra_nil)))))
abbrev N_home_plate : List PySem.Str := ["slots", "plate"]
abbrev P_home_plate : List PySem.Str := ["slots", "plate"]
noncomputable def b_home_plate : Sx :=
  (sRet (eF opAdd (aCons (eF opAdd (aCons (eC (.int 2)) (aCons (eVar 0) aNil))) (aCons (eVar 1) aNil))))
noncomputable def F_home_plate : Fn := runDef 2 2 b_home_plate
theorem sc_home_plate : FnScope N_home_plate P_home_plate (defScope s_home_plate) := ⟨rfl, rfl, rfl, by decide +kernel, rfl, by decide +kernel, by decide +kernel⟩
theorem ok_home_plate_2 (S : Sys K mg) : ∃ ds, Vals ([] : List V) ds ∧ DefOk P w K mg base 1 (He.fAd K d_home_plate.at_) P_home_plate ds 2 F_home_plate := by
  obtain ⟨fd, F⟩ := S.says.def_ 16 (d := d_home_plate) rfl
  obtain ⟨ds, hd, hB⟩ : ∃ ds, Vals ([] : List V) ds ∧ Binds K fd P_home_plate ds := ⟨[], .nil, F.bindsN fun _ _ _ _ _ _ us hl => match us, hl with | [_, _], _ => rfl⟩
  have S2 : FnScope N_home_plate P_home_plate d_home_plate.scope := sc_home_plate
  have q := def_ok (P := P) (w := w) (mg := mg) (base := base) (k := 0) (b := b_home_plate) F S2 hB
  refine ⟨ds, hd, q fun cdv A outer s H E c => ?_⟩
  exact (rss_one (rs_ret (re_bin op_add4 ok_add (re_bin op_add4 ok_add (re_globI (by rfl) (g_HEADS S)) (re_var 0)) (re_var 1))))
abbrev N_merged : List PySem.Str := ["groups", "found", "group", "slot", "changes", "plate", "cells"]
abbrev P_merged : List PySem.Str := ["groups"]
noncomputable def b_merged : Sx :=
  (sSeq (sAsg (eF mkDic aNil) (gName 1))
  (sSeq (sFor (iSeq (eVar 0)) (gTup 3 (gCons (gName 2) (gCons (gName 3) (gCons (gName 4) gNil))))
  (sFor (iSeq (eVar 4)) (gTup 2 (gCons (gName 5) (gCons (gName 6) gNil)))
  (sAsg (eVar 6) (gSub (eVar 1) (eVar 5) stPut))))
  (sRet (eVar 1))))
noncomputable def F_merged : Fn := runDef 1 7 b_merged
theorem sc_merged : FnScope N_merged P_merged (defScope s_merged) := ⟨rfl, rfl, rfl, by decide +kernel, rfl, by decide +kernel, by decide +kernel⟩
theorem ok_merged_1 (S : Sys K mg) : ∃ ds, Vals ([] : List V) ds ∧ DefOk P w K mg base 1 (He.fAd K d_merged.at_) P_merged ds 1 F_merged := by
  obtain ⟨fd, F⟩ := S.says.def_ 17 (d := d_merged) rfl
  obtain ⟨ds, hd, hB⟩ : ∃ ds, Vals ([] : List V) ds ∧ Binds K fd P_merged ds := ⟨[], .nil, F.bindsN fun _ _ _ _ _ _ us hl => match us, hl with | [_], _ => rfl⟩
  have S2 : FnScope N_merged P_merged d_merged.scope := sc_merged
  have q := def_ok (P := P) (w := w) (mg := mg) (base := base) (k := 0) (b := b_merged) F S2 hB
  refine ⟨ds, hd, q fun cdv A outer s H E c => ?_⟩
  exact (rss_cons (rs_set c 1 re_dic)
  (rss_cons (rs_for c (ri_seq (re_var 0)) (rg_tup c (rgs_cons (rg_name c 2) (rgs_cons (rg_name c 3) (rgs_cons (rg_name c 4) rgs_nil))))
  (rss_one (rs_for c (ri_seq (re_var 4)) (rg_tup c (rgs_cons (rg_name c 5) (rgs_cons (rg_name c 6) rgs_nil)))
  (rss_one (rs_asg (re_var 6) (rg_sub (set_dict c.u1) ok_put (re_var 1) (re_var 5)))))))
  (rss_one (rs_ret (re_var 1)))))
abbrev N_read_home : List PySem.Str := ["disk", "plates", "slots", "groups", "found", "plate", "value", "cells"]
abbrev P_read_home : List PySem.Str := ["disk", "plates", "slots", "groups"]
noncomputable def b_read_home : Sx :=
  (sSeq (sAsg (eF mkDic aNil) (gName 4))
  (sSeq (sFor (iRng1 (aCons (eVar 1) aNil)) (gName 5)
  (sSeq (sAsg (eM 0 (cl F_Disk_now []) (eVar 0) (aCons (eF (cl F_home_plate []) (aCons (eVar 2) (aCons (eVar 5) aNil))) aNil)) (gName 6))
  (sAsg (eIf (tB (eF (cl F_is_cells []) (aCons (eVar 6) aNil))) (eVar 6) (eF opMul (aCons (eF mkTup (aCons (eC (.int 0)) aNil)) (aCons (eC (.int 8)) aNil)))) (gSub (eVar 4) (eVar 5) stPut))))
  (sSeq (sForI (eF (cl F_merged []) (aCons (eVar 3) aNil)) (gTup 2 (gCons (gName 5) (gCons (gName 7) gNil)))
  (sIf (tB (eF opLt (aCons (eVar 5) (aCons (eVar 1) aNil)))) (sAsg (eVar 7) (gSub (eVar 4) (eVar 5) stPut)) sNop))
  (sRet (eVar 4)))))
noncomputable def F_read_home : Fn := runDef 4 8 b_read_home
theorem sc_read_home : FnScope N_read_home P_read_home (defScope s_read_home) := ⟨rfl, rfl, rfl, by decide +kernel, rfl, by decide +kernel, by decide +kernel⟩
theorem ok_read_home_4 (S : Sys K mg) : ∃ ds, Vals ([] : List V) ds ∧ DefOk P w K mg base 4 (He.fAd K d_read_home.at_) P_read_home ds 4 F_read_home := by
  obtain ⟨ds_Disk_now_2, hd_Disk_now_2, G_Disk_now_2⟩ := ok_Disk_now_2 (P := P) (w := w) (base := base) S
  obtain ⟨ds_home_plate_2, hd_home_plate_2, G_home_plate_2⟩ := ok_home_plate_2 (P := P) (w := w) (base := base) S
  obtain ⟨ds_is_cells_1, hd_is_cells_1, G_is_cells_1⟩ := ok_is_cells_1 (P := P) (w := w) (base := base) S
  obtain ⟨ds_merged_1, hd_merged_1, G_merged_1⟩ := ok_merged_1 (P := P) (w := w) (base := base) S
  obtain ⟨fd, F⟩ := S.says.def_ 18 (d := d_read_home) rfl
  obtain ⟨ds, hd, hB⟩ : ∃ ds, Vals ([] : List V) ds ∧ Binds K fd P_read_home ds := ⟨[], .nil, F.bindsN fun _ _ _ _ _ _ us hl => match us, hl with | [_, _, _, _], _ => rfl⟩
  have S2 : FnScope N_read_home P_read_home d_read_home.scope := sc_read_home
  have q := def_ok (P := P) (w := w) (mg := mg) (base := base) (k := 3) (b := b_read_home) F S2 hB
  refine ⟨ds, hd, q fun cdv A outer s H E c => ?_⟩
  exact (rss_cons (rs_set c 4 re_dic)
  (rss_cons (rs_for c (ri_rng1 (by rfl) (g_range S) (ra_cons (re_var 1) ra_nil)) (rg_name c 5)
  (rss_cons (rs_set c 6 (re_meth (G_Disk_now_2.mono (by decide : 3 ≤ 3)) c Asks.run (cl_Disk S) (mt_Disk_now S) (by decide +kernel) hd_Disk_now_2 (fun _ _ _ => .nil) (re_var 0) (ra_cons (re_call (G_home_plate_2.mono (by decide : 1 ≤ 3)) c Asks.run (by rfl) (g_home_plate S) hd_home_plate_2 (fun _ _ _ => .nil) (ra_cons (re_var 2) (ra_cons (re_var 5) ra_nil))) ra_nil)))
  (rss_one (rs_asg (re_ifExp (rt_b (re_call (G_is_cells_1.mono (by decide : 2 ≤ 3)) c Asks.run (by rfl) (g_is_cells S) hd_is_cells_1 (fun _ _ _ => .nil) (ra_cons (re_var 6) ra_nil))) (re_var 6) (re_bin op_mul3 ok_mul (re_tup (ra_cons re_int ra_nil)) (re_globI (by rfl) (g_WIDTH S)))) (rg_sub (set_dict c.u1) ok_put (re_var 4) (re_var 5))))))
  (rss_cons (rs_forI c (re_call (G_merged_1.mono (by decide : 1 ≤ 3)) c Asks.run (by rfl) (g_merged S) hd_merged_1 (fun _ _ _ => .nil) (ra_cons (re_var 3) ra_nil)) (rg_tup c (rgs_cons (rg_name c 5) (rgs_cons (rg_name c 7) rgs_nil)))
  (rss_one (rs_if (rt_cmp op_lt ok_lt (re_var 5) (re_var 1) rfl) (rss_one (rs_asg (re_var 7) (rg_sub (set_dict c.u1) ok_put (re_var 4) (re_var 5)))) rss_nil)))
  (rss_one (rs_ret (re_var 4))))))
abbrev N_Store_used : List PySem.Str := ["self", "group", "slot", "changes"]
abbrev P_Store_used : List PySem.Str := ["self"]
noncomputable def b_Store_used : Sx :=
  (sRet (eF biSum (aCons (eLc (iSeq (eF (fFld [1] 8) (aCons (eVar 0) aNil))) (gTup 3 (gCons (gName 1) (gCons (gName 2) (gCons (gName 3) gNil)))) tYes (eF biLen (aCons (eVar 3) aNil)) [1, 2, 3]) aNil)))
noncomputable def F_Store_used : Fn := runDef 1 4 b_Store_used
theorem sc_Store_used : FnScope N_Store_used P_Store_used (defScope s_Store_used) := ⟨rfl, rfl, rfl, by decide +kernel, rfl, by decide +kernel, by decide +kernel⟩
theorem ok_Store_used_1 (S : Sys K mg) : ∃ ds, Vals ([] : List V) ds ∧ DefOk P w K mg base 1 (He.fAd K d_Store_used.at_) P_Store_used ds 1 F_Store_used := by
  obtain ⟨fd, F⟩ := S.says.def_ 40 (d := d_Store_used) rfl
  obtain ⟨ds, hd, hB⟩ : ∃ ds, Vals ([] : List V) ds ∧ Binds K fd P_Store_used ds := ⟨[], .nil, F.bindsN fun _ _ _ _ _ _ us hl => match us, hl with | [_], _ => rfl⟩
  have S2 : FnScope N_Store_used P_Store_used d_Store_used.scope := sc_Store_used
  have q := def_ok (P := P) (w := w) (mg := mg) (base := base) (k := 0) (b := b_Store_used) F S2 hB
  refine ⟨ds, hd, q fun cdv A outer s H E c => ?_⟩
  exact (rss_one (rs_ret (re_callB (cr_sum c.calm) ok_sum (by rfl) (g_sum S) bt_sum (ra_cons (re_lc (own := [("group", 1), ("slot", 2), ("changes", 3)]) c (ri_seq (re_fld (at_groups S) (re_var 0))) (blk_of rfl) (fun s0 H0 C0 cl0 fp0 => (rgo_tup (c.blk s0 H0 C0 cl0 fp0).calm (rgos_cons (rgo_name (c.blk s0 H0 C0 cl0 fp0).nd 1 rfl (.inl rfl) (.inr rfl) (by decide)) (rgos_cons (rgo_name (c.blk s0 H0 C0 cl0 fp0).nd 2 rfl (.inl rfl) (.inr rfl) (by decide)) (rgos_cons (rgo_name (c.blk s0 H0 C0 cl0 fp0).nd 3 rfl (.inl rfl) (.inr rfl) (by decide)) rgos_nil rfl) rfl) rfl) rfl rfl)) (fun s0 H0 C0 cl0 fp0 => rts_nil) (fun s0 H0 C0 cl0 fp0 => (re_callB call_len_seq ok_len (by rfl) (g_len S) bt_len (ra_cons (re_var 3) ra_nil)))) ra_nil))))
abbrev N_Store_init : List PySem.Str := ["self", "plates", "slots", "disk"]
abbrev P_Store_init : List PySem.Str := ["self", "plates", "slots", "disk"]
noncomputable def b_Store_init : Sx :=
  (sSeq (sFld [1] 2 (eVar 0) (eVar 1))
  (sSeq (sFld [1] 3 (eVar 0) (eVar 2))
  (sSeq (sFld [1] 4 (eVar 0) (eVar 3))
  (sSeq (sFld [1] 5 (eVar 0) (eF (cl F_disk_after []) (aCons (eVar 3) (aCons (eF mkTup aNil) (aCons (eC (.int 0)) aNil)))))
  (sSeq (sFld [1] 6 (eVar 0) (eF mkTup aNil))
  (sSeq (sFld [1] 7 (eVar 0) (eF (cl F_read_head []) (aCons (eVar 3) aNil)))
  (sSeq (sFld [1] 8 (eVar 0) (eF (cl F_read_groups []) (aCons (eVar 3) (aCons (eVar 2) (aCons (eF (fFld [1] 7) (aCons (eVar 0) aNil)) aNil)))))
  (sSeq (sFld [1] 9 (eVar 0) (eF (cl F_read_home []) (aCons (eVar 3) (aCons (eVar 1) (aCons (eVar 2) (aCons (eF (fFld [1] 8) (aCons (eVar 0) aNil)) aNil))))))
  (sSeq (sFld [1] 10 (eVar 0) (eF opAdd (aCons (eC (.int 1)) (aCons (eF biMaxX (aCons (eF opSub (aCons (eF opIx (aCons (eF (fFld [1] 7) (aCons (eVar 0) aNil)) (aCons (eC (.int 1)) aNil))) (aCons (eC (.int 1)) aNil))) (aCons (eF (cl F_last_seen []) (aCons (eVar 3) (aCons (eVar 2) aNil))) aNil))) aNil))))
  (sSeq (sFld [1] 11 (eVar 0) (eF opAdd (aCons (eF opIx (aCons (eF (fFld [1] 7) (aCons (eVar 0) aNil)) (aCons (eC (.int 2)) aNil))) (aCons (eM 1 (cl F_Store_used []) (eVar 0) aNil) aNil))))
  (sSeq (sFld [1] 12 (eVar 0) (eF mkDic aNil))
  (sSeq (sFld [1] 13 (eVar 0) (eC (.int 0)))
  (sSeq (sFld [1] 14 (eVar 0) (eF mkTup aNil))
  (sSeq (sFld [1] 15 (eVar 0) (eC (.int 0)))
  (sFld [1] 16 (eVar 0) (eC (.int 0)))))))))))))))))
noncomputable def F_Store_init : Fn := runDef 4 4 b_Store_init
theorem sc_Store_init : FnScope N_Store_init P_Store_init (defScope s_Store_init) := ⟨rfl, rfl, rfl, by decide +kernel, rfl, by decide +kernel, by decide +kernel⟩
theorem ok_Store_init_4 (S : Sys K mg) : ∃ ds, Vals ([] : List V) ds ∧ DefOk P w K mg base 6 (He.fAd K d_Store_init.at_) P_Store_init ds 4 F_Store_init := by
  obtain ⟨ds_disk_after_3, hd_disk_after_3, G_disk_after_3⟩ := ok_disk_after_3 (P := P) (w := w) (base := base) S
  obtain ⟨ds_read_head_1, hd_read_head_1, G_read_head_1⟩ := ok_read_head_1 (P := P) (w := w) (base := base) S
  obtain ⟨ds_read_groups_3, hd_read_groups_3, G_read_groups_3⟩ := ok_read_groups_3 (P := P) (w := w) (base := base) S
  obtain ⟨ds_read_home_4, hd_read_home_4, G_read_home_4⟩ := ok_read_home_4 (P := P) (w := w) (base := base) S
  obtain ⟨ds_Store_used_1, hd_Store_used_1, G_Store_used_1⟩ := ok_Store_used_1 (P := P) (w := w) (base := base) S
  obtain ⟨ds_last_seen_2, hd_last_seen_2, G_last_seen_2⟩ := ok_last_seen_2 (P := P) (w := w) (base := base) S
  obtain ⟨fd, F⟩ := S.says.def_ 34 (d := d_Store_init) rfl
  obtain ⟨ds, hd, hB⟩ : ∃ ds, Vals ([] : List V) ds ∧ Binds K fd P_Store_init ds := ⟨[], .nil, F.bindsN fun _ _ _ _ _ _ us hl => match us, hl with | [_, _, _, _], _ => rfl⟩
  have S2 : FnScope N_Store_init P_Store_init d_Store_init.scope := sc_Store_init
  have q := def_ok (P := P) (w := w) (mg := mg) (base := base) (k := 5) (b := b_Store_init) F S2 hB
  refine ⟨ds, hd, q fun cdv A outer s H E c => ?_⟩
  exact (rss_cons (rs_fld (at_plates S) (re_var 0) (re_var 1))
  (rss_cons (rs_fld (at_slots S) (re_var 0) (re_var 2))
  (rss_cons (rs_fld (at_begin S) (re_var 0) (re_var 3))
  (rss_cons (rs_fld (at_device S) (re_var 0) (re_call (G_disk_after_3.mono (by decide : 4 ≤ 5)) c Asks.run (by rfl) (g_disk_after S) hd_disk_after_3 (fun _ _ _ => .nil) (ra_cons (re_var 3) (ra_cons (re_tup ra_nil) (ra_cons re_int ra_nil)))))
  (rss_cons (rs_fld (at_trace S) (re_var 0) (re_tup ra_nil))
  (rss_cons (rs_fld (at_head S) (re_var 0) (re_call (G_read_head_1.mono (by decide : 4 ≤ 5)) c Asks.run (by rfl) (g_read_head S) hd_read_head_1 (fun _ _ _ => .nil) (ra_cons (re_var 3) ra_nil)))
  (rss_cons (rs_fld (at_groups S) (re_var 0) (re_call (G_read_groups_3.mono (by decide : 5 ≤ 5)) c Asks.run (by rfl) (g_read_groups S) hd_read_groups_3 (fun _ _ _ => .nil) (ra_cons (re_var 3) (ra_cons (re_var 2) (ra_cons (re_fld (at_head S) (re_var 0)) ra_nil)))))
  (rss_cons (rs_fld (at_cells S) (re_var 0) (re_call (G_read_home_4.mono (by decide : 4 ≤ 5)) c Asks.run (by rfl) (g_read_home S) hd_read_home_4 (fun _ _ _ => .nil) (ra_cons (re_var 3) (ra_cons (re_var 1) (ra_cons (re_var 2) (ra_cons (re_fld (at_groups S) (re_var 0)) ra_nil))))))
  (rss_cons (rs_fld (at_next_group S) (re_var 0) (re_bin op_add4 ok_add re_int (re_callB (cr_maxX c.calm c.u65) ok_maxX (by rfl) (g_max S) bt_max (ra_cons (re_bin op_sub ok_sub (re_ix ix_seq ok_ix (re_fld (at_head S) (re_var 0)) re_int (fun _ _ => rfl)) re_int) (ra_cons (re_call (G_last_seen_2.mono (by decide : 4 ≤ 5)) c Asks.run (by rfl) (g_last_seen S) hd_last_seen_2 (fun _ _ _ => .nil) (ra_cons (re_var 3) (ra_cons (re_var 2) ra_nil))) ra_nil)))))
  (rss_cons (rs_fld (at_next_slot S) (re_var 0) (re_bin op_add4 ok_add (re_ix ix_seq ok_ix (re_fld (at_head S) (re_var 0)) re_int (fun _ _ => rfl)) (re_meth0 (G_Store_used_1.mono (by decide : 1 ≤ 5)) c Asks.run (cl_Store S) (mt_Store_used S) (by decide +kernel) hd_Store_used_1 (fun _ _ _ => .nil) (re_var 0))))
  (rss_cons (rs_fld (at_running S) (re_var 0) re_dic)
  (rss_cons (rs_fld (at_running_deeds S) (re_var 0) re_int)
  (rss_cons (rs_fld (at_pushed S) (re_var 0) (re_tup ra_nil))
  (rss_cons (rs_fld (at_deeds S) (re_var 0) re_int)
  (rss_one (rs_fld (at_settled_deeds S) (re_var 0) re_int))))))))))))))))
abbrev N_fresh_store : List PySem.Str := ["plates", "slots", "home", "told", "disk", "plate", "cells"]
abbrev P_fresh_store : List PySem.Str := ["plates", "slots", "home"]
noncomputable def b_fresh_store : Sx :=
  (sSeq (sAsg (eF (cl F_checked_changes []) (aCons (eVar 0) (aCons (eVar 2) aNil))) (gName 3))
  (sSeq (sIf (tB (eF opLt (aCons (eF biLen (aCons (eVar 3) aNil)) (aCons (eVar 0) aNil)))) sBad sNop)
  (sSeq (sAsg (eF (mkIns 0 (cl F_Disk_init [])) (aCons (eF opAdd (aCons (eF opAdd (aCons (eC (.int 2)) (aCons (eVar 1) aNil))) (aCons (eVar 0) aNil))) aNil)) (gName 4))
  (sSeq (sFor (iSeq (eVar 3)) (gTup 2 (gCons (gName 5) (gCons (gName 6) gNil)))
  (sDrop (eM 0 (cl F_Disk_write []) (eVar 4) (aCons (eF (cl F_home_plate []) (aCons (eVar 1) (aCons (eVar 5) aNil))) (aCons (eVar 6) aNil)))))
  (sSeq (sDrop (eM 0 (cl F_Disk_write []) (eVar 4) (aCons (eF (cl F_head_plate []) (aCons (eC (.int 0)) aNil)) (aCons (eF mkTup (aCons (eC (.int 0)) (aCons (eC (.int 0)) (aCons (eC (.int 0)) aNil)))) aNil))))
  (sSeq (sDrop (eM 0 (cl F_Disk_barrier []) (eVar 4) aNil))
  (sRet (eF (mkIns 1 (cl F_Store_init [])) (aCons (eVar 0) (aCons (eVar 1) (aCons (eVar 4) aNil)))))))))))
noncomputable def F_fresh_store : Fn := runDef 3 7 b_fresh_store
theorem sc_fresh_store : FnScope N_fresh_store P_fresh_store (defScope s_fresh_store) := ⟨rfl, rfl, rfl, by decide +kernel, rfl, by decide +kernel, by decide +kernel⟩
theorem ok_fresh_store_3 (S : Sys K mg) : ∃ ds, Vals ([] : List V) ds ∧ DefOk P w K mg base 8 (He.fAd K d_fresh_store.at_) P_fresh_store ds 3 F_fresh_store := by
  obtain ⟨ds_checked_changes_2, hd_checked_changes_2, G_checked_changes_2⟩ := ok_checked_changes_2 (P := P) (w := w) (base := base) S
  obtain ⟨ds_Disk_init_2, hd_Disk_init_2, G_Disk_init_2⟩ := ok_Disk_init_2 (P := P) (w := w) (base := base) S
  obtain ⟨ds_Disk_write_3, hd_Disk_write_3, G_Disk_write_3⟩ := ok_Disk_write_3 (P := P) (w := w) (base := base) S
  obtain ⟨ds_Disk_barrier_1, hd_Disk_barrier_1, G_Disk_barrier_1⟩ := ok_Disk_barrier_1 (P := P) (w := w) (base := base) S
  obtain ⟨ds_Store_init_4, hd_Store_init_4, G_Store_init_4⟩ := ok_Store_init_4 (P := P) (w := w) (base := base) S
  obtain ⟨ds_head_plate_1, hd_head_plate_1, G_head_plate_1⟩ := ok_head_plate_1 (P := P) (w := w) (base := base) S
  obtain ⟨ds_home_plate_2, hd_home_plate_2, G_home_plate_2⟩ := ok_home_plate_2 (P := P) (w := w) (base := base) S
  obtain ⟨fd, F⟩ := S.says.def_ 19 (d := d_fresh_store) rfl
  obtain ⟨ds, hd, hB⟩ : ∃ ds, Vals ([] : List V) ds ∧ Binds K fd P_fresh_store ds := ⟨[], .nil, F.bindsN fun _ _ _ _ _ _ us hl => match us, hl with | [_, _, _], _ => rfl⟩
  have S2 : FnScope N_fresh_store P_fresh_store d_fresh_store.scope := sc_fresh_store
  have q := def_ok (P := P) (w := w) (mg := mg) (base := base) (k := 7) (b := b_fresh_store) F S2 hB
  refine ⟨ds, hd, q fun cdv A outer s H E c => ?_⟩
  exact (rss_cons (rs_set c 3 (re_call (G_checked_changes_2.mono (by decide : 3 ≤ 7)) c Asks.run (by rfl) (g_checked_changes S) hd_checked_changes_2 (fun _ _ _ => .nil) (ra_cons (re_var 0) (ra_cons (re_var 2) ra_nil))))
  (rss_cons (rs_if (rt_cmp op_lt ok_lt (re_callB call_len_seq ok_len (by rfl) (g_len S) bt_len (ra_cons (re_var 3) ra_nil)) (re_var 0) rfl) (rss_one rs_never) rss_nil)
  (rss_cons (rs_set c 4 (re_make (mk_Disk S) (G_Disk_init_2.mono (by decide : 1 ≤ 6)) c Asks.run (by rfl) (g_Disk S) hd_Disk_init_2 (fun _ _ _ => .nil) (ra_cons (re_bin op_add4 ok_add (re_bin op_add4 ok_add (re_globI (by rfl) (g_HEADS S)) (re_var 1)) (re_var 0)) ra_nil)))
  (rss_cons (rs_for c (ri_seq (re_var 3)) (rg_tup c (rgs_cons (rg_name c 5) (rgs_cons (rg_name c 6) rgs_nil)))
  (rss_one (rs_expr (re_meth (G_Disk_write_3.mono (by decide : 3 ≤ 7)) c Asks.run (cl_Disk S) (mt_Disk_write S) (by decide +kernel) hd_Disk_write_3 (fun _ _ _ => .nil) (re_var 4) (ra_cons (re_call (G_home_plate_2.mono (by decide : 1 ≤ 7)) c Asks.run (by rfl) (g_home_plate S) hd_home_plate_2 (fun _ _ _ => .nil) (ra_cons (re_var 1) (ra_cons (re_var 5) ra_nil))) (ra_cons (re_var 6) ra_nil))))))
  (rss_cons (rs_expr (re_meth (G_Disk_write_3.mono (by decide : 3 ≤ 7)) c Asks.run (cl_Disk S) (mt_Disk_write S) (by decide +kernel) hd_Disk_write_3 (fun _ _ _ => .nil) (re_var 4) (ra_cons (re_call (G_head_plate_1.mono (by decide : 1 ≤ 7)) c Asks.run (by rfl) (g_head_plate S) hd_head_plate_1 (fun _ _ _ => .nil) (ra_cons re_int ra_nil)) (ra_cons (re_tup (ra_cons re_int (ra_cons re_int (ra_cons re_int ra_nil)))) ra_nil))))
  (rss_cons (rs_expr (re_meth0 (G_Disk_barrier_1.mono (by decide : 2 ≤ 7)) c Asks.run (cl_Disk S) (mt_Disk_barrier S) (by decide +kernel) hd_Disk_barrier_1 (fun _ _ _ => .nil) (re_var 4)))
  (rss_one (rs_ret (re_make (mk_Store S) (G_Store_init_4.mono (by decide : 6 ≤ 6)) c Asks.run (by rfl) (g_Store S) hd_Store_init_4 (fun _ _ _ => .nil) (ra_cons (re_var 0) (ra_cons (re_var 1) (ra_cons (re_var 4) ra_nil))))))))))))
abbrev N_Store_barrier : List PySem.Str := ["self"]
abbrev P_Store_barrier : List PySem.Str := ["self"]
noncomputable def b_Store_barrier : Sx :=
  (sSeq (sDrop (eM 0 (cl F_Disk_barrier []) (eF (fFld [1] 5) (aCons (eVar 0) aNil)) aNil))
  (sFld [1] 6 (eVar 0) (eF mkTup (aStar (eF (fFld [1] 6) (aCons (eVar 0) aNil)) (aCons (eF mkTup (aCons (eC (.str "barrier")) aNil)) aNil)))))
noncomputable def F_Store_barrier : Fn := runDef 1 1 b_Store_barrier
theorem sc_Store_barrier : FnScope N_Store_barrier P_Store_barrier (defScope s_Store_barrier) := ⟨rfl, rfl, rfl, by decide +kernel, rfl, by decide +kernel, by decide +kernel⟩
theorem ok_Store_barrier_1 (S : Sys K mg) : ∃ ds, Vals ([] : List V) ds ∧ DefOk P w K mg base 3 (He.fAd K d_Store_barrier.at_) P_Store_barrier ds 1 F_Store_barrier := by
  obtain ⟨ds_Disk_barrier_1, hd_Disk_barrier_1, G_Disk_barrier_1⟩ := ok_Disk_barrier_1 (P := P) (w := w) (base := base) S
  obtain ⟨fd, F⟩ := S.says.def_ 38 (d := d_Store_barrier) rfl
  obtain ⟨ds, hd, hB⟩ : ∃ ds, Vals ([] : List V) ds ∧ Binds K fd P_Store_barrier ds := ⟨[], .nil, F.bindsN fun _ _ _ _ _ _ us hl => match us, hl with | [_], _ => rfl⟩
  have S2 : FnScope N_Store_barrier P_Store_barrier d_Store_barrier.scope := sc_Store_barrier
  have q := def_ok (P := P) (w := w) (mg := mg) (base := base) (k := 2) (b := b_Store_barrier) F S2 hB
  refine ⟨ds, hd, q fun cdv A outer s H E c => ?_⟩
  exact (rss_cons (rs_expr (re_meth0 (G_Disk_barrier_1.mono (by decide : 2 ≤ 2)) c Asks.run (cl_Disk S) (mt_Disk_barrier S) (by decide +kernel) hd_Disk_barrier_1 (fun _ _ _ => .nil) (re_fld (at_device S) (re_var 0))))
  (rss_one (rs_fld (at_trace S) (re_var 0) (re_tup (ra_star c.calm (re_fld (at_trace S) (re_var 0)) (ra_cons (re_tup (ra_cons re_str ra_nil)) ra_nil))))))
abbrev N_Store_write : List PySem.Str := ["self", "plate", "value"]
abbrev P_Store_write : List PySem.Str := ["self", "plate", "value"]
noncomputable def b_Store_write : Sx :=
  (sSeq (sDrop (eM 0 (cl F_Disk_write []) (eF (fFld [1] 5) (aCons (eVar 0) aNil)) (aCons (eVar 1) (aCons (eVar 2) aNil))))
  (sFld [1] 6 (eVar 0) (eF mkTup (aStar (eF (fFld [1] 6) (aCons (eVar 0) aNil)) (aCons (eF mkTup (aCons (eC (.str "write")) (aCons (eVar 1) (aCons (eVar 2) aNil)))) aNil)))))
noncomputable def F_Store_write : Fn := runDef 3 3 b_Store_write
theorem sc_Store_write : FnScope N_Store_write P_Store_write (defScope s_Store_write) := ⟨rfl, rfl, rfl, by decide +kernel, rfl, by decide +kernel, by decide +kernel⟩
theorem ok_Store_write_3 (S : Sys K mg) : ∃ ds, Vals ([] : List V) ds ∧ DefOk P w K mg base 4 (He.fAd K d_Store_write.at_) P_Store_write ds 3 F_Store_write := by
  obtain ⟨ds_Disk_write_3, hd_Disk_write_3, G_Disk_write_3⟩ := ok_Disk_write_3 (P := P) (w := w) (base := base) S
  obtain ⟨fd, F⟩ := S.says.def_ 37 (d := d_Store_write) rfl
  obtain ⟨ds, hd, hB⟩ : ∃ ds, Vals ([] : List V) ds ∧ Binds K fd P_Store_write ds := ⟨[], .nil, F.bindsN fun _ _ _ _ _ _ us hl => match us, hl with | [_, _, _], _ => rfl⟩
  have S2 : FnScope N_Store_write P_Store_write d_Store_write.scope := sc_Store_write
  have q := def_ok (P := P) (w := w) (mg := mg) (base := base) (k := 3) (b := b_Store_write) F S2 hB
  refine ⟨ds, hd, q fun cdv A outer s H E c => ?_⟩
  exact (rss_cons (rs_expr (re_meth (G_Disk_write_3.mono (by decide : 3 ≤ 3)) c Asks.run (cl_Disk S) (mt_Disk_write S) (by decide +kernel) hd_Disk_write_3 (fun _ _ _ => .nil) (re_fld (at_device S) (re_var 0)) (ra_cons (re_var 1) (ra_cons (re_var 2) ra_nil))))
  (rss_one (rs_fld (at_trace S) (re_var 0) (re_tup (ra_star c.calm (re_fld (at_trace S) (re_var 0)) (ra_cons (re_tup (ra_cons re_str (ra_cons (re_var 1) (ra_cons (re_var 2) ra_nil)))) ra_nil))))))
abbrev N_Store_write_home : List PySem.Str := ["self", "found", "plate"]
abbrev P_Store_write_home : List PySem.Str := ["self"]
noncomputable def b_Store_write_home : Sx :=
  (sSeq (sAsg (eF (cl F_merged []) (aCons (eF (fFld [1] 8) (aCons (eVar 0) aNil)) aNil)) (gName 1))
  (sSeq (sFor (iSeq (eF biSorted (aCons (eF biListX (aCons (eVar 1) aNil)) aNil))) (gName 2)
  (sIf (tB (eF opLt (aCons (eVar 2) (aCons (eF (fFld [1] 2) (aCons (eVar 0) aNil)) aNil)))) (sDrop (eM 1 (cl F_Store_write []) (eVar 0) (aCons (eF (cl F_home_plate []) (aCons (eF (fFld [1] 3) (aCons (eVar 0) aNil)) (aCons (eVar 2) aNil))) (aCons (eF opGet (aCons (eVar 1) (aCons (eVar 2) aNil))) aNil)))) sNop))
  (sDrop (eM 1 (cl F_Store_barrier []) (eVar 0) aNil))))
noncomputable def F_Store_write_home : Fn := runDef 1 3 b_Store_write_home
theorem sc_Store_write_home : FnScope N_Store_write_home P_Store_write_home (defScope s_Store_write_home) := ⟨rfl, rfl, rfl, by decide +kernel, rfl, by decide +kernel, by decide +kernel⟩
theorem ok_Store_write_home_1 (S : Sys K mg) : ∃ ds, Vals ([] : List V) ds ∧ DefOk P w K mg base 5 (He.fAd K d_Store_write_home.at_) P_Store_write_home ds 1 F_Store_write_home := by
  obtain ⟨ds_merged_1, hd_merged_1, G_merged_1⟩ := ok_merged_1 (P := P) (w := w) (base := base) S
  obtain ⟨ds_Store_barrier_1, hd_Store_barrier_1, G_Store_barrier_1⟩ := ok_Store_barrier_1 (P := P) (w := w) (base := base) S
  obtain ⟨ds_Store_write_3, hd_Store_write_3, G_Store_write_3⟩ := ok_Store_write_3 (P := P) (w := w) (base := base) S
  obtain ⟨ds_home_plate_2, hd_home_plate_2, G_home_plate_2⟩ := ok_home_plate_2 (P := P) (w := w) (base := base) S
  obtain ⟨fd, F⟩ := S.says.def_ 45 (d := d_Store_write_home) rfl
  obtain ⟨ds, hd, hB⟩ : ∃ ds, Vals ([] : List V) ds ∧ Binds K fd P_Store_write_home ds := ⟨[], .nil, F.bindsN fun _ _ _ _ _ _ us hl => match us, hl with | [_], _ => rfl⟩
  have S2 : FnScope N_Store_write_home P_Store_write_home d_Store_write_home.scope := sc_Store_write_home
  have q := def_ok (P := P) (w := w) (mg := mg) (base := base) (k := 4) (b := b_Store_write_home) F S2 hB
  refine ⟨ds, hd, q fun cdv A outer s H E c => ?_⟩
  exact (rss_cons (rs_set c 1 (re_call (G_merged_1.mono (by decide : 1 ≤ 4)) c Asks.run (by rfl) (g_merged S) hd_merged_1 (fun _ _ _ => .nil) (ra_cons (re_fld (at_groups S) (re_var 0)) ra_nil)))
  (rss_cons (rs_for c (ri_seq (re_callB cr_sortedI ok_sorted (by rfl) (g_sorted S) bt_sorted (ra_cons (re_callTy (cr_listX c.calm) ok_listX (by rfl) (g_list S) bt_list (ra_cons (re_var 1) ra_nil)) ra_nil))) (rg_name c 2)
  (rss_one (rs_if (rt_cmp op_lt ok_lt (re_var 2) (re_fld (at_plates S) (re_var 0)) rfl) (rss_one (rs_expr (re_meth (G_Store_write_3.mono (by decide : 4 ≤ 4)) c Asks.run (cl_Store S) (mt_Store_write S) (by decide +kernel) hd_Store_write_3 (fun _ _ _ => .nil) (re_var 0) (ra_cons (re_call (G_home_plate_2.mono (by decide : 1 ≤ 4)) c Asks.run (by rfl) (g_home_plate S) hd_home_plate_2 (fun _ _ _ => .nil) (ra_cons (re_fld (at_slots S) (re_var 0)) (ra_cons (re_var 2) ra_nil))) (ra_cons (re_ix (ix_dict c.u1) ok_get (re_var 1) (re_var 2) (fun _ _ => rfl)) ra_nil))))) rss_nil)))
  (rss_one (rs_expr (re_meth0 (G_Store_barrier_1.mono (by decide : 3 ≤ 4)) c Asks.run (cl_Store S) (mt_Store_barrier S) (by decide +kernel) hd_Store_barrier_1 (fun _ _ _ => .nil) (re_var 0))))))
abbrev N_Store_turn_head : List PySem.Str := ["self"]
abbrev P_Store_turn_head : List PySem.Str := ["self"]
noncomputable def b_Store_turn_head : Sx :=
  (sSeq (sFld [1] 7 (eVar 0) (eF mkTup (aCons (eF opAdd (aCons (eF opIx (aCons (eF (fFld [1] 7) (aCons (eVar 0) aNil)) (aCons (eC (.int 0)) aNil))) (aCons (eC (.int 1)) aNil))) (aCons (eF (fFld [1] 10) (aCons (eVar 0) aNil)) (aCons (eF (fFld [1] 11) (aCons (eVar 0) aNil)) aNil)))))
  (sSeq (sDrop (eM 1 (cl F_Store_write []) (eVar 0) (aCons (eF (cl F_head_plate []) (aCons (eF opIx (aCons (eF (fFld [1] 7) (aCons (eVar 0) aNil)) (aCons (eC (.int 0)) aNil))) aNil)) (aCons (eF (fFld [1] 7) (aCons (eVar 0) aNil)) aNil))))
  (sSeq (sDrop (eM 1 (cl F_Store_barrier []) (eVar 0) aNil))
  (sFld [1] 8 (eVar 0) (eF mkTup aNil)))))
noncomputable def F_Store_turn_head : Fn := runDef 1 1 b_Store_turn_head
theorem sc_Store_turn_head : FnScope N_Store_turn_head P_Store_turn_head (defScope s_Store_turn_head) := ⟨rfl, rfl, rfl, by decide +kernel, rfl, by decide +kernel, by decide +kernel⟩
theorem ok_Store_turn_head_1 (S : Sys K mg) : ∃ ds, Vals ([] : List V) ds ∧ DefOk P w K mg base 5 (He.fAd K d_Store_turn_head.at_) P_Store_turn_head ds 1 F_Store_turn_head := by
  obtain ⟨ds_Store_write_3, hd_Store_write_3, G_Store_write_3⟩ := ok_Store_write_3 (P := P) (w := w) (base := base) S
  obtain ⟨ds_Store_barrier_1, hd_Store_barrier_1, G_Store_barrier_1⟩ := ok_Store_barrier_1 (P := P) (w := w) (base := base) S
  obtain ⟨ds_head_plate_1, hd_head_plate_1, G_head_plate_1⟩ := ok_head_plate_1 (P := P) (w := w) (base := base) S
  obtain ⟨fd, F⟩ := S.says.def_ 46 (d := d_Store_turn_head) rfl
  obtain ⟨ds, hd, hB⟩ : ∃ ds, Vals ([] : List V) ds ∧ Binds K fd P_Store_turn_head ds := ⟨[], .nil, F.bindsN fun _ _ _ _ _ _ us hl => match us, hl with | [_], _ => rfl⟩
  have S2 : FnScope N_Store_turn_head P_Store_turn_head d_Store_turn_head.scope := sc_Store_turn_head
  have q := def_ok (P := P) (w := w) (mg := mg) (base := base) (k := 4) (b := b_Store_turn_head) F S2 hB
  refine ⟨ds, hd, q fun cdv A outer s H E c => ?_⟩
  exact (rss_cons (rs_fld (at_head S) (re_var 0) (re_tup (ra_cons (re_bin op_add4 ok_add (re_ix ix_seq ok_ix (re_fld (at_head S) (re_var 0)) re_int (fun _ _ => rfl)) re_int) (ra_cons (re_fld (at_next_group S) (re_var 0)) (ra_cons (re_fld (at_next_slot S) (re_var 0)) ra_nil)))))
  (rss_cons (rs_expr (re_meth (G_Store_write_3.mono (by decide : 4 ≤ 4)) c Asks.run (cl_Store S) (mt_Store_write S) (by decide +kernel) hd_Store_write_3 (fun _ _ _ => .nil) (re_var 0) (ra_cons (re_call (G_head_plate_1.mono (by decide : 1 ≤ 4)) c Asks.run (by rfl) (g_head_plate S) hd_head_plate_1 (fun _ _ _ => .nil) (ra_cons (re_ix ix_seq ok_ix (re_fld (at_head S) (re_var 0)) re_int (fun _ _ => rfl)) ra_nil)) (ra_cons (re_fld (at_head S) (re_var 0)) ra_nil))))
  (rss_cons (rs_expr (re_meth0 (G_Store_barrier_1.mono (by decide : 3 ≤ 4)) c Asks.run (cl_Store S) (mt_Store_barrier S) (by decide +kernel) hd_Store_barrier_1 (fun _ _ _ => .nil) (re_var 0)))
  (rss_one (rs_fld (at_groups S) (re_var 0) (re_tup ra_nil))))))
abbrev N_open_store : List PySem.Str := ["disk", "plates", "slots", "found"]
abbrev P_open_store : List PySem.Str := ["disk", "plates", "slots"]
noncomputable def b_open_store : Sx :=
  (sSeq (sAsg (eF (mkIns 1 (cl F_Store_init [])) (aCons (eVar 1) (aCons (eVar 2) (aCons (eVar 0) aNil)))) (gName 3))
  (sSeq (sDrop (eM 1 (cl F_Store_write_home []) (eVar 3) aNil))
  (sSeq (sDrop (eM 1 (cl F_Store_turn_head []) (eVar 3) aNil))
  (sRet (eVar 3)))))
noncomputable def F_open_store : Fn := runDef 3 4 b_open_store
theorem sc_open_store : FnScope N_open_store P_open_store (defScope s_open_store) := ⟨rfl, rfl, rfl, by decide +kernel, rfl, by decide +kernel, by decide +kernel⟩
theorem ok_open_store_3 (S : Sys K mg) : ∃ ds, Vals ([] : List V) ds ∧ DefOk P w K mg base 8 (He.fAd K d_open_store.at_) P_open_store ds 3 F_open_store := by
  obtain ⟨ds_Store_init_4, hd_Store_init_4, G_Store_init_4⟩ := ok_Store_init_4 (P := P) (w := w) (base := base) S
  obtain ⟨ds_Store_write_home_1, hd_Store_write_home_1, G_Store_write_home_1⟩ := ok_Store_write_home_1 (P := P) (w := w) (base := base) S
  obtain ⟨ds_Store_turn_head_1, hd_Store_turn_head_1, G_Store_turn_head_1⟩ := ok_Store_turn_head_1 (P := P) (w := w) (base := base) S
  obtain ⟨fd, F⟩ := S.says.def_ 20 (d := d_open_store) rfl
  obtain ⟨ds, hd, hB⟩ : ∃ ds, Vals ([] : List V) ds ∧ Binds K fd P_open_store ds := ⟨[], .nil, F.bindsN fun _ _ _ _ _ _ us hl => match us, hl with | [_, _, _], _ => rfl⟩
  have S2 : FnScope N_open_store P_open_store d_open_store.scope := sc_open_store
  have q := def_ok (P := P) (w := w) (mg := mg) (base := base) (k := 7) (b := b_open_store) F S2 hB
  refine ⟨ds, hd, q fun cdv A outer s H E c => ?_⟩
  exact (rss_cons (rs_set c 3 (re_make (mk_Store S) (G_Store_init_4.mono (by decide : 6 ≤ 6)) c Asks.run (by rfl) (g_Store S) hd_Store_init_4 (fun _ _ _ => .nil) (ra_cons (re_var 1) (ra_cons (re_var 2) (ra_cons (re_var 0) ra_nil)))))
  (rss_cons (rs_expr (re_meth0 (G_Store_write_home_1.mono (by decide : 5 ≤ 7)) c Asks.run (cl_Store S) (mt_Store_write_home S) (by decide +kernel) hd_Store_write_home_1 (fun _ _ _ => .nil) (re_var 3)))
  (rss_cons (rs_expr (re_meth0 (G_Store_turn_head_1.mono (by decide : 5 ≤ 7)) c Asks.run (cl_Store S) (mt_Store_turn_head S) (by decide +kernel) hd_Store_turn_head_1 (fun _ _ _ => .nil) (re_var 3)))
  (rss_one (rs_ret (re_var 3))))))
abbrev N_Disk_chosen : List PySem.Str := ["self", "plate", "number", "some"]
abbrev P_Disk_chosen : List PySem.Str := ["self", "plate", "number"]
noncomputable def b_Disk_chosen : Sx :=
  (sSeq (sIf (tOr (tNot (tB (eF (cl F_is_below []) (aCons (eVar 1) (aCons (eF biLen (aCons (eF (fFld [0] 0) (aCons (eVar 0) aNil)) aNil)) aNil))))) (tNot (tB (eF (cl F_is_whole [.non, .non]) (aCons (eVar 2) aNil))))) sBad sNop)
  (sSeq (sAsg (eF (cl F_versions_of []) (aCons (eF (fFld [0] 0) (aCons (eVar 0) aNil)) (aCons (eF (fFld [0] 1) (aCons (eVar 0) aNil)) (aCons (eVar 1) aNil)))) (gName 3))
  (sSeq (sIf (tAnd (tB (eF opEqX (aCons (eVar 2) (aCons (eF opNeg (aCons (eC (.int 1)) aNil)) aNil)))) (tB (eF opGt (aCons (eF biLen (aCons (eVar 3) aNil)) (aCons (eC (.int 1)) aNil))))) (sRet (eC .non)) sNop)
  (sSeq (sIf (tNot (tB (eChain opLe opLt (eC (.int 0)) (eVar 2) (eF biMaxX (aCons (eC (.int 1)) (aCons (eF opSub (aCons (eF biLen (aCons (eVar 3) aNil)) (aCons (eC (.int 1)) aNil))) aNil)))))) sBad sNop)
  (sRet (eF opIx (aCons (eVar 3) (aCons (eVar 2) aNil))))))))
noncomputable def F_Disk_chosen : Fn := runDef 3 4 b_Disk_chosen
theorem sc_Disk_chosen : FnScope N_Disk_chosen P_Disk_chosen (defScope s_Disk_chosen) := ⟨rfl, rfl, rfl, by decide +kernel, rfl, by decide +kernel, by decide +kernel⟩
theorem ok_Disk_chosen_3 (S : Sys K mg) : ∃ ds, Vals ([] : List V) ds ∧ DefOk P w K mg base 3 (He.fAd K d_Disk_chosen.at_) P_Disk_chosen ds 3 F_Disk_chosen := by
  obtain ⟨ds_versions_of_3, hd_versions_of_3, G_versions_of_3⟩ := ok_versions_of_3 (P := P) (w := w) (base := base) S
  obtain ⟨ds_is_below_2, hd_is_below_2, G_is_below_2⟩ := ok_is_below_2 (P := P) (w := w) (base := base) S
  obtain ⟨ds_is_whole_1, hd_is_whole_1, G_is_whole_1⟩ := ok_is_whole_1 (P := P) (w := w) (base := base) S
  obtain ⟨fd, F⟩ := S.says.def_ 33 (d := d_Disk_chosen) rfl
  obtain ⟨ds, hd, hB⟩ : ∃ ds, Vals ([] : List V) ds ∧ Binds K fd P_Disk_chosen ds := ⟨[], .nil, F.bindsN fun _ _ _ _ _ _ us hl => match us, hl with | [_, _, _], _ => rfl⟩
  have S2 : FnScope N_Disk_chosen P_Disk_chosen d_Disk_chosen.scope := sc_Disk_chosen
  have q := def_ok (P := P) (w := w) (mg := mg) (base := base) (k := 2) (b := b_Disk_chosen) F S2 hB
  refine ⟨ds, hd, q fun cdv A outer s H E c => ?_⟩
  exact (rss_cons (rs_if (rt_w (rw_or (rt_not (rt_b (re_call (G_is_below_2.mono (by decide : 2 ≤ 2)) c Asks.run (by rfl) (g_is_below S) hd_is_below_2 (fun _ _ _ => .nil) (ra_cons (re_var 1) (ra_cons (re_callB call_len_seq ok_len (by rfl) (g_len S) bt_len (ra_cons (re_fld (at_settled S) (re_var 0)) ra_nil)) ra_nil))))) (rw_or1 (rt_not (rt_b (re_call (G_is_whole_1.mono (by decide : 1 ≤ 2)) c Asks.run (by rfl) (g_is_whole S) hd_is_whole_1 (fun _ _ _ => (.cons .non (.cons .non .nil))) (ra_cons (re_var 2) ra_nil))))))) (rss_one rs_never) rss_nil)
  (rss_cons (rs_set c 3 (re_call (G_versions_of_3.mono (by decide : 1 ≤ 2)) c Asks.run (by rfl) (g_versions_of S) hd_versions_of_3 (fun _ _ _ => .nil) (ra_cons (re_fld (at_settled S) (re_var 0)) (ra_cons (re_fld (at_loose S) (re_var 0)) (ra_cons (re_var 1) ra_nil)))))
  (rss_cons (rs_if (rt_w (rw_and (rt_cmp (op_eqA c.u65) ok_eqA (re_var 2) (re_un un_neg ok_neg re_int) rfl) (rw_and1 (rt_cmp op_gt ok_gt (re_callB call_len_seq ok_len (by rfl) (g_len S) bt_len (ra_cons (re_var 3) ra_nil)) re_int rfl)))) (rss_one (rs_ret (re_globN (by rfl) (g_TORN S)))) rss_nil)
  (rss_cons (rs_if (rt_not (rt_chain op_le ok_le op_lt ok_lt re_int (re_var 2) (re_callB (cr_maxX c.calm c.u65) ok_maxX (by rfl) (g_max S) bt_max (ra_cons re_int (ra_cons (re_bin op_sub ok_sub (re_callB call_len_seq ok_len (by rfl) (g_len S) bt_len (ra_cons (re_var 3) ra_nil)) re_int) ra_nil))))) (rss_one rs_never) rss_nil)
  (rss_one (rs_ret (re_ix ix_seq ok_ix (re_var 3) (re_var 2) (fun _ _ => rfl))))))))
abbrev N_Disk_fallen : List PySem.Str := ["self", "choice", "found", "late", "plate", "number", "value"]
abbrev P_Disk_fallen : List PySem.Str := ["self", "choice"]
noncomputable def b_Disk_fallen : Sx :=
  (sSeq (sAsg (eF (mkIns 0 (cl F_Disk_init [])) (aCons (eF biLen (aCons (eF (fFld [0] 0) (aCons (eVar 0) aNil)) aNil)) aNil)) (gName 2))
  (sSeq (sAsg (eF biListX (aCons (eF (fFld [0] 0) (aCons (eVar 0) aNil)) aNil)) (gName 3))
  (sSeq (sForI (eVar 1) (gTup 2 (gCons (gName 4) (gCons (gName 5) gNil)))
  (sSeq (sAsg (eM 0 (cl F_Disk_chosen []) (eVar 0) (aCons (eVar 4) (aCons (eVar 5) aNil))) (gName 6))
  (sAsg (eVar 6) (gSub (eVar 3) (eVar 4) stIx))))
  (sSeq (sFld [0] 0 (eVar 2) (eF biTuple (aCons (eVar 3) aNil)))
  (sRet (eVar 2))))))
noncomputable def F_Disk_fallen : Fn := runDef 2 7 b_Disk_fallen
theorem sc_Disk_fallen : FnScope N_Disk_fallen P_Disk_fallen (defScope s_Disk_fallen) := ⟨rfl, rfl, rfl, by decide +kernel, rfl, by decide +kernel, by decide +kernel⟩
theorem ok_Disk_fallen_2 (S : Sys K mg) : ∃ ds, Vals ([] : List V) ds ∧ DefOk P w K mg base 4 (He.fAd K d_Disk_fallen.at_) P_Disk_fallen ds 2 F_Disk_fallen := by
  obtain ⟨ds_Disk_init_2, hd_Disk_init_2, G_Disk_init_2⟩ := ok_Disk_init_2 (P := P) (w := w) (base := base) S
  obtain ⟨ds_Disk_chosen_3, hd_Disk_chosen_3, G_Disk_chosen_3⟩ := ok_Disk_chosen_3 (P := P) (w := w) (base := base) S
  obtain ⟨fd, F⟩ := S.says.def_ 32 (d := d_Disk_fallen) rfl
  obtain ⟨ds, hd, hB⟩ : ∃ ds, Vals ([] : List V) ds ∧ Binds K fd P_Disk_fallen ds := ⟨[], .nil, F.bindsN fun _ _ _ _ _ _ us hl => match us, hl with | [_, _], _ => rfl⟩
  have S2 : FnScope N_Disk_fallen P_Disk_fallen d_Disk_fallen.scope := sc_Disk_fallen
  have q := def_ok (P := P) (w := w) (mg := mg) (base := base) (k := 3) (b := b_Disk_fallen) F S2 hB
  refine ⟨ds, hd, q fun cdv A outer s H E c => ?_⟩
  exact (rss_cons (rs_set c 2 (re_make (mk_Disk S) (G_Disk_init_2.mono (by decide : 1 ≤ 2)) c Asks.run (by rfl) (g_Disk S) hd_Disk_init_2 (fun _ _ _ => .nil) (ra_cons (re_callB call_len_seq ok_len (by rfl) (g_len S) bt_len (ra_cons (re_fld (at_settled S) (re_var 0)) ra_nil)) ra_nil)))
  (rss_cons (rs_set c 3 (re_callTy (cr_listX c.calm) ok_listX (by rfl) (g_list S) bt_list (ra_cons (re_fld (at_settled S) (re_var 0)) ra_nil)))
  (rss_cons (rs_forI c (re_var 1) (rg_tup c (rgs_cons (rg_name c 4) (rgs_cons (rg_name c 5) rgs_nil)))
  (rss_cons (rs_set c 6 (re_meth (G_Disk_chosen_3.mono (by decide : 3 ≤ 3)) c Asks.run (cl_Disk S) (mt_Disk_chosen S) (by decide +kernel) hd_Disk_chosen_3 (fun _ _ _ => .nil) (re_var 0) (ra_cons (re_var 4) (ra_cons (re_var 5) ra_nil))))
  (rss_one (rs_asg (re_var 6) (rg_sub set_list ok_set (re_var 3) (re_var 4))))))
  (rss_cons (rs_fld (at_settled S) (re_var 2) (re_callTy call_tuple_of ok_tuple (by rfl) (g_tuple S) bt_tuple (ra_cons (re_var 3) ra_nil)))
  (rss_one (rs_ret (re_var 2)))))))
abbrev N_fallen_disk : List PySem.Str := ["store", "moment", "choice"]
abbrev P_fallen_disk : List PySem.Str := ["store", "moment", "choice"]
noncomputable def b_fallen_disk : Sx :=
  (sRet (eM 0 (cl F_Disk_fallen []) (eF (cl F_disk_after []) (aCons (eF (fFld [1] 4) (aCons (eVar 0) aNil)) (aCons (eF (fFld [1] 6) (aCons (eVar 0) aNil)) (aCons (eVar 1) aNil)))) (aCons (eVar 2) aNil)))
noncomputable def F_fallen_disk : Fn := runDef 3 3 b_fallen_disk
theorem sc_fallen_disk : FnScope N_fallen_disk P_fallen_disk (defScope s_fallen_disk) := ⟨rfl, rfl, rfl, by decide +kernel, rfl, by decide +kernel, by decide +kernel⟩
theorem ok_fallen_disk_3 (S : Sys K mg) : ∃ ds, Vals ([] : List V) ds ∧ DefOk P w K mg base 5 (He.fAd K d_fallen_disk.at_) P_fallen_disk ds 3 F_fallen_disk := by
  obtain ⟨ds_Disk_fallen_2, hd_Disk_fallen_2, G_Disk_fallen_2⟩ := ok_Disk_fallen_2 (P := P) (w := w) (base := base) S
  obtain ⟨ds_disk_after_3, hd_disk_after_3, G_disk_after_3⟩ := ok_disk_after_3 (P := P) (w := w) (base := base) S
  obtain ⟨fd, F⟩ := S.says.def_ 21 (d := d_fallen_disk) rfl
  obtain ⟨ds, hd, hB⟩ : ∃ ds, Vals ([] : List V) ds ∧ Binds K fd P_fallen_disk ds := ⟨[], .nil, F.bindsN fun _ _ _ _ _ _ us hl => match us, hl with | [_, _, _], _ => rfl⟩
  have S2 : FnScope N_fallen_disk P_fallen_disk d_fallen_disk.scope := sc_fallen_disk
  have q := def_ok (P := P) (w := w) (mg := mg) (base := base) (k := 4) (b := b_fallen_disk) F S2 hB
  refine ⟨ds, hd, q fun cdv A outer s H E c => ?_⟩
  exact (rss_one (rs_ret (re_meth (G_Disk_fallen_2.mono (by decide : 4 ≤ 4)) c Asks.run (cl_Disk S) (mt_Disk_fallen S) (by decide +kernel) hd_Disk_fallen_2 (fun _ _ _ => .nil) (re_call (G_disk_after_3.mono (by decide : 4 ≤ 4)) c Asks.run (by rfl) (g_disk_after S) hd_disk_after_3 (fun _ _ _ => .nil) (ra_cons (re_fld (at_begin S) (re_var 0)) (ra_cons (re_fld (at_trace S) (re_var 0)) (ra_cons (re_var 1) ra_nil)))) (ra_cons (re_var 2) ra_nil))))
abbrev N_L_number : List PySem.Str := ["_law_script", "_law_index", "_law_cell", "_law_blend"]
abbrev P_L_number : List PySem.Str := ["_law_script", "_law_index"]
noncomputable def b_L_number : Sx :=
  (sSeq (sIf (tB (eF opEqX (aCons (eVar 0) (aCons (eF mkLst aNil) aNil)))) (sRet (eF biInt (aCons (eF opMod (aCons (eF opAdd (aCons (eF opMul (aCons (eVar 1) (aCons (eC (.int 48271)) aNil))) (aCons (eC (.int 12345)) aNil))) (aCons (eC (.int 2147483647)) aNil))) aNil))) sNop)
  (sSeq (sAsg (eF opIx (aCons (eVar 0) (aCons (eF opMod (aCons (eVar 1) (aCons (eF biLen (aCons (eVar 0) aNil)) aNil))) aNil))) (gName 2))
  (sSeq (sIf (tB (eF opGe (aCons (eF biAbs (aCons (eVar 2) aNil)) (aCons (eF opPow (aCons (eC (.int 10)) (aCons (eC (.int 60)) aNil))) aNil)))) (sAsg (eF opMod (aCons (eVar 2) (aCons (eF opPow (aCons (eC (.int 10)) (aCons (eC (.int 18)) aNil))) aNil))) (gName 2)) sNop)
  (sSeq (sAsg (eF opMod (aCons (eF opAdd (aCons (eF opMul (aCons (eF opAdd (aCons (eVar 2) (aCons (eF opMul (aCons (eC (.int 977)) (aCons (eVar 1) aNil))) aNil))) (aCons (eC (.int 48271)) aNil))) (aCons (eF opMul (aCons (eC (.int 31)) (aCons (eF biLen (aCons (eVar 0) aNil)) aNil))) aNil))) (aCons (eC (.int 2147483647)) aNil))) (gName 3))
  (sRet (eF biInt (aCons (eF opMod (aCons (eF opAdd (aCons (eF opMul (aCons (eF opMod (aCons (eF opMul (aCons (eVar 3) (aCons (eC (.int 69621)) aNil))) (aCons (eC (.int 2147483629)) aNil))) (aCons (eC (.int 16807)) aNil))) (aCons (eVar 1) aNil))) (aCons (eC (.int 2147483587)) aNil))) aNil)))))))
noncomputable def F_L_number : Fn := runDef 2 4 b_L_number
theorem sc_L_number : FnScope N_L_number P_L_number (defScope s_L_number) := ⟨rfl, rfl, rfl, by decide +kernel, rfl, by decide +kernel, by decide +kernel⟩
theorem ok_L_number_2 (S : Sys K mg) : ∃ ds, Vals ([] : List V) ds ∧ DefOk P w K mg base 1 (He.fAd K d_L_number.at_) P_L_number ds 2 F_L_number := by
  obtain ⟨fd, F⟩ := S.says.def_ 22 (d := d_L_number) rfl
  obtain ⟨ds, hd, hB⟩ : ∃ ds, Vals ([] : List V) ds ∧ Binds K fd P_L_number ds := ⟨[], .nil, F.bindsN fun _ _ _ _ _ _ us hl => match us, hl with | [_, _], _ => rfl⟩
  have S2 : FnScope N_L_number P_L_number d_L_number.scope := sc_L_number
  have q := def_ok (P := P) (w := w) (mg := mg) (base := base) (k := 0) (b := b_L_number) F S2 hB
  refine ⟨ds, hd, q fun cdv A outer s H E c => ?_⟩
  exact (rss_cons (rs_if (rt_cmp (op_eqA c.u65) ok_eqA (re_var 0) (re_lst ra_nil) rfl) (rss_one (rs_ret (re_callTy call_int1 ok_int (by rfl) (g_int S) bt_int (ra_cons (re_bin op_modN ok_mod (re_bin op_add4 ok_add (re_bin op_mul3 ok_mul (re_var 1) re_int) re_int) re_int) ra_nil)))) rss_nil)
  (rss_cons (rs_set c 2 (re_ix ix_seq ok_ix (re_var 0) (re_bin op_modN ok_mod (re_var 1) (re_callB call_len_seq ok_len (by rfl) (g_len S) bt_len (ra_cons (re_var 0) ra_nil))) (fun _ _ => rfl)))
  (rss_cons (rs_if (rt_cmp op_ge ok_ge (re_callB call_abs ok_abs (by rfl) (g_abs S) bt_abs (ra_cons (re_var 2) ra_nil)) (re_bin op_pow ok_pow re_int re_int) rfl) (rss_one (rs_set c 2 (re_bin op_modN ok_mod (re_var 2) (re_bin op_pow ok_pow re_int re_int)))) rss_nil)
  (rss_cons (rs_set c 3 (re_bin op_modN ok_mod (re_bin op_add4 ok_add (re_bin op_mul3 ok_mul (re_bin op_add4 ok_add (re_var 2) (re_bin op_mul3 ok_mul re_int (re_var 1))) re_int) (re_bin op_mul3 ok_mul re_int (re_callB call_len_seq ok_len (by rfl) (g_len S) bt_len (ra_cons (re_var 0) ra_nil)))) re_int))
  (rss_one (rs_ret (re_callTy call_int1 ok_int (by rfl) (g_int S) bt_int (ra_cons (re_bin op_modN ok_mod (re_bin op_add4 ok_add (re_bin op_mul3 ok_mul (re_bin op_modN ok_mod (re_bin op_mul3 ok_mul (re_var 3) re_int) re_int) re_int) (re_var 1)) re_int) ra_nil))))))))
abbrev N_L_take : List PySem.Str := ["_law_draw", "_law_many"]
abbrev P_L_take : List PySem.Str := ["_law_draw", "_law_many"]
noncomputable def b_L_take : Sx :=
  (sSeq (sAugS (eVar 0) (eC (.int 1)) (eC (.int 1)) opIxL opAddI stIx)
  (sRet (eF opMod (aCons (eF biInt (aCons (eF (cl F_L_number []) (aCons (eF opIx (aCons (eVar 0) (aCons (eC (.int 0)) aNil))) (aCons (eF biInt (aCons (eF opIx (aCons (eVar 0) (aCons (eC (.int 1)) aNil))) aNil)) aNil))) aNil)) (aCons (eVar 1) aNil)))))
noncomputable def F_L_take : Fn := runDef 2 2 b_L_take
theorem sc_L_take : FnScope N_L_take P_L_take (defScope s_L_take) := ⟨rfl, rfl, rfl, by decide +kernel, rfl, by decide +kernel, by decide +kernel⟩
theorem ok_L_take_2 (S : Sys K mg) : ∃ ds, Vals ([] : List V) ds ∧ DefOk P w K mg base 2 (He.fAd K d_L_take.at_) P_L_take ds 2 F_L_take := by
  obtain ⟨ds_L_number_2, hd_L_number_2, G_L_number_2⟩ := ok_L_number_2 (P := P) (w := w) (base := base) S
  obtain ⟨fd, F⟩ := S.says.def_ 23 (d := d_L_take) rfl
  obtain ⟨ds, hd, hB⟩ : ∃ ds, Vals ([] : List V) ds ∧ Binds K fd P_L_take ds := ⟨[], .nil, F.bindsN fun _ _ _ _ _ _ us hl => match us, hl with | [_, _], _ => rfl⟩
  have S2 : FnScope N_L_take P_L_take d_L_take.scope := sc_L_take
  have q := def_ok (P := P) (w := w) (mg := mg) (base := base) (k := 1) (b := b_L_take) F S2 hB
  refine ⟨ds, hd, q fun cdv A outer s H E c => ?_⟩
  exact (rss_cons (rs_augS get_list ok_ixL ip_add ok_ipadd set_list ok_set (re_var 0) re_int re_int)
  (rss_one (rs_ret (re_bin op_modN ok_mod (re_callTy call_int1 ok_int (by rfl) (g_int S) bt_int (ra_cons (re_call (G_L_number_2.mono (by decide : 1 ≤ 1)) c Asks.run (by rfl) (g__law_number S) hd_L_number_2 (fun _ _ _ => .nil) (ra_cons (re_ix ix_seq ok_ix (re_var 0) re_int (fun _ _ => rfl)) (ra_cons (re_callTy call_int1 ok_int (by rfl) (g_int S) bt_int (ra_cons (re_ix ix_seq ok_ix (re_var 0) re_int (fun _ _ => rfl)) ra_nil)) ra_nil))) ra_nil)) (re_var 1)))))
abbrev N_L_pick : List PySem.Str := ["_law_draw", "_law_items"]
abbrev P_L_pick : List PySem.Str := ["_law_draw", "_law_items"]
noncomputable def b_L_pick : Sx :=
  (sRet (eF opIx (aCons (eVar 1) (aCons (eF (cl F_L_take []) (aCons (eVar 0) (aCons (eF biLen (aCons (eVar 1) aNil)) aNil))) aNil))))
noncomputable def F_L_pick : Fn := runDef 2 2 b_L_pick
theorem sc_L_pick : FnScope N_L_pick P_L_pick (defScope s_L_pick) := ⟨rfl, rfl, rfl, by decide +kernel, rfl, by decide +kernel, by decide +kernel⟩
theorem ok_L_pick_2 (S : Sys K mg) : ∃ ds, Vals ([] : List V) ds ∧ DefOk P w K mg base 3 (He.fAd K d_L_pick.at_) P_L_pick ds 2 F_L_pick := by
  obtain ⟨ds_L_take_2, hd_L_take_2, G_L_take_2⟩ := ok_L_take_2 (P := P) (w := w) (base := base) S
  obtain ⟨fd, F⟩ := S.says.def_ 24 (d := d_L_pick) rfl
  obtain ⟨ds, hd, hB⟩ : ∃ ds, Vals ([] : List V) ds ∧ Binds K fd P_L_pick ds := ⟨[], .nil, F.bindsN fun _ _ _ _ _ _ us hl => match us, hl with | [_, _], _ => rfl⟩
  have S2 : FnScope N_L_pick P_L_pick d_L_pick.scope := sc_L_pick
  have q := def_ok (P := P) (w := w) (mg := mg) (base := base) (k := 2) (b := b_L_pick) F S2 hB
  refine ⟨ds, hd, q fun cdv A outer s H E c => ?_⟩
  exact (rss_one (rs_ret (re_ix ix_seq ok_ix (re_var 1) (re_call (G_L_take_2.mono (by decide : 2 ≤ 2)) c Asks.run (by rfl) (g__law_take S) hd_L_take_2 (fun _ _ _ => .nil) (ra_cons (re_var 0) (ra_cons (re_callB call_len_seq ok_len (by rfl) (g_len S) bt_len (ra_cons (re_var 1) ra_nil)) ra_nil))) (fun _ _ => rfl))))
abbrev N_Disk_versions : List PySem.Str := ["self", "plate"]
abbrev P_Disk_versions : List PySem.Str := ["self", "plate"]
noncomputable def b_Disk_versions : Sx :=
  (sSeq (sIf (tNot (tB (eF (cl F_is_below []) (aCons (eVar 1) (aCons (eF biLen (aCons (eF (fFld [0] 0) (aCons (eVar 0) aNil)) aNil)) aNil))))) sBad sNop)
  (sRet (eF (cl F_versions_of []) (aCons (eF (fFld [0] 0) (aCons (eVar 0) aNil)) (aCons (eF (fFld [0] 1) (aCons (eVar 0) aNil)) (aCons (eVar 1) aNil))))))
noncomputable def F_Disk_versions : Fn := runDef 2 2 b_Disk_versions
theorem sc_Disk_versions : FnScope N_Disk_versions P_Disk_versions (defScope s_Disk_versions) := ⟨rfl, rfl, rfl, by decide +kernel, rfl, by decide +kernel, by decide +kernel⟩
theorem ok_Disk_versions_2 (S : Sys K mg) : ∃ ds, Vals ([] : List V) ds ∧ DefOk P w K mg base 3 (He.fAd K d_Disk_versions.at_) P_Disk_versions ds 2 F_Disk_versions := by
  obtain ⟨ds_versions_of_3, hd_versions_of_3, G_versions_of_3⟩ := ok_versions_of_3 (P := P) (w := w) (base := base) S
  obtain ⟨ds_is_below_2, hd_is_below_2, G_is_below_2⟩ := ok_is_below_2 (P := P) (w := w) (base := base) S
  obtain ⟨fd, F⟩ := S.says.def_ 31 (d := d_Disk_versions) rfl
  obtain ⟨ds, hd, hB⟩ : ∃ ds, Vals ([] : List V) ds ∧ Binds K fd P_Disk_versions ds := ⟨[], .nil, F.bindsN fun _ _ _ _ _ _ us hl => match us, hl with | [_, _], _ => rfl⟩
  have S2 : FnScope N_Disk_versions P_Disk_versions d_Disk_versions.scope := sc_Disk_versions
  have q := def_ok (P := P) (w := w) (mg := mg) (base := base) (k := 2) (b := b_Disk_versions) F S2 hB
  refine ⟨ds, hd, q fun cdv A outer s H E c => ?_⟩
  exact (rss_cons (rs_if (rt_not (rt_b (re_call (G_is_below_2.mono (by decide : 2 ≤ 2)) c Asks.run (by rfl) (g_is_below S) hd_is_below_2 (fun _ _ _ => .nil) (ra_cons (re_var 1) (ra_cons (re_callB call_len_seq ok_len (by rfl) (g_len S) bt_len (ra_cons (re_fld (at_settled S) (re_var 0)) ra_nil)) ra_nil))))) (rss_one rs_never) rss_nil)
  (rss_one (rs_ret (re_call (G_versions_of_3.mono (by decide : 1 ≤ 2)) c Asks.run (by rfl) (g_versions_of S) hd_versions_of_3 (fun _ _ _ => .nil) (ra_cons (re_fld (at_settled S) (re_var 0)) (ra_cons (re_fld (at_loose S) (re_var 0)) (ra_cons (re_var 1) ra_nil)))))))
abbrev N_L_choice : List PySem.Str := ["_law_draw", "_law_disk", "_law_event"]
abbrev P_L_choice : List PySem.Str := ["_law_draw", "_law_disk"]
noncomputable def b_L_choice : Sx :=
  (sRet (eF biDictX (aCons (eLc (iSeq (eF (fFld [0] 1) (aCons (eVar 1) aNil))) (gName 2) tYes (eF mkTup (aCons (eF opIx (aCons (eVar 2) (aCons (eC (.int 0)) aNil))) (aCons (eF (cl F_L_pick []) (aCons (eVar 0) (aCons (eF mkLst (aCons (eC (.int 0)) (aCons (eF opSub (aCons (eF biLen (aCons (eM 0 (cl F_Disk_versions []) (eVar 1) (aCons (eF opIx (aCons (eVar 2) (aCons (eC (.int 0)) aNil))) aNil)) aNil)) (aCons (eC (.int 2)) aNil))) (aCons (eF opNeg (aCons (eC (.int 1)) aNil)) aNil)))) aNil))) aNil))) [2]) aNil)))
noncomputable def F_L_choice : Fn := runDef 2 3 b_L_choice
theorem sc_L_choice : FnScope N_L_choice P_L_choice (defScope s_L_choice) := ⟨rfl, rfl, rfl, by decide +kernel, rfl, by decide +kernel, by decide +kernel⟩
theorem ok_L_choice_2 (S : Sys K mg) : ∃ ds, Vals ([] : List V) ds ∧ DefOk P w K mg base 4 (He.fAd K d_L_choice.at_) P_L_choice ds 2 F_L_choice := by
  obtain ⟨ds_L_pick_2, hd_L_pick_2, G_L_pick_2⟩ := ok_L_pick_2 (P := P) (w := w) (base := base) S
  obtain ⟨ds_Disk_versions_2, hd_Disk_versions_2, G_Disk_versions_2⟩ := ok_Disk_versions_2 (P := P) (w := w) (base := base) S
  obtain ⟨fd, F⟩ := S.says.def_ 25 (d := d_L_choice) rfl
  obtain ⟨ds, hd, hB⟩ : ∃ ds, Vals ([] : List V) ds ∧ Binds K fd P_L_choice ds := ⟨[], .nil, F.bindsN fun _ _ _ _ _ _ us hl => match us, hl with | [_, _], _ => rfl⟩
  have S2 : FnScope N_L_choice P_L_choice d_L_choice.scope := sc_L_choice
  have q := def_ok (P := P) (w := w) (mg := mg) (base := base) (k := 3) (b := b_L_choice) F S2 hB
  refine ⟨ds, hd, q fun cdv A outer s H E c => ?_⟩
  exact (rss_one (rs_ret (re_callTy (cr_dictX c.calm) ok_dictX (by rfl) (g_dict S) bt_dict (ra_cons (re_lc (own := [("_law_event", 2)]) c (ri_seq (re_fld (at_loose S) (re_var 1))) (blk_of rfl) (fun s0 H0 C0 cl0 fp0 => (rgo_name (c.blk s0 H0 C0 cl0 fp0).nd 2 rfl (.inl rfl) (.inr rfl) (by decide))) (fun s0 H0 C0 cl0 fp0 => rts_nil) (fun s0 H0 C0 cl0 fp0 => (re_tup (ra_cons (re_ix ix_seq ok_ix (re_var 2) re_int (fun _ _ => rfl)) (ra_cons (re_call (G_L_pick_2.mono (by decide : 3 ≤ 3)) (c.blk s0 H0 C0 cl0 fp0) Asks.run (by rfl) (g__law_pick S) hd_L_pick_2 (fun _ _ _ => .nil) (ra_cons (re_var 0) (ra_cons (re_lst (ra_cons re_int (ra_cons (re_bin op_sub ok_sub (re_callB call_len_seq ok_len (by rfl) (g_len S) bt_len (ra_cons (re_meth (G_Disk_versions_2.mono (by decide : 3 ≤ 3)) (c.blk s0 H0 C0 cl0 fp0) Asks.run (cl_Disk S) (mt_Disk_versions S) (by decide +kernel) hd_Disk_versions_2 (fun _ _ _ => .nil) (re_var 1) (ra_cons (re_ix ix_seq ok_ix (re_var 2) re_int (fun _ _ => rfl)) ra_nil)) ra_nil)) re_int) (ra_cons (re_un un_neg ok_neg re_int) ra_nil)))) ra_nil))) ra_nil))))) ra_nil))))
abbrev N_Store_settle : List PySem.Str := ["self"]
abbrev P_Store_settle : List PySem.Str := ["self"]
noncomputable def b_Store_settle : Sx :=
  (sSeq (sDrop (eM 1 (cl F_Store_barrier []) (eVar 0) aNil))
  (sFld [1] 16 (eVar 0) (eF opSub (aCons (eF (fFld [1] 15) (aCons (eVar 0) aNil)) (aCons (eF (fFld [1] 13) (aCons (eVar 0) aNil)) aNil)))))
noncomputable def F_Store_settle : Fn := runDef 1 1 b_Store_settle
theorem sc_Store_settle : FnScope N_Store_settle P_Store_settle (defScope s_Store_settle) := ⟨rfl, rfl, rfl, by decide +kernel, rfl, by decide +kernel, by decide +kernel⟩
theorem ok_Store_settle_1 (S : Sys K mg) : ∃ ds, Vals ([] : List V) ds ∧ DefOk P w K mg base 4 (He.fAd K d_Store_settle.at_) P_Store_settle ds 1 F_Store_settle := by
  obtain ⟨ds_Store_barrier_1, hd_Store_barrier_1, G_Store_barrier_1⟩ := ok_Store_barrier_1 (P := P) (w := w) (base := base) S
  obtain ⟨fd, F⟩ := S.says.def_ 42 (d := d_Store_settle) rfl
  obtain ⟨ds, hd, hB⟩ : ∃ ds, Vals ([] : List V) ds ∧ Binds K fd P_Store_settle ds := ⟨[], .nil, F.bindsN fun _ _ _ _ _ _ us hl => match us, hl with | [_], _ => rfl⟩
  have S2 : FnScope N_Store_settle P_Store_settle d_Store_settle.scope := sc_Store_settle
  have q := def_ok (P := P) (w := w) (mg := mg) (base := base) (k := 3) (b := b_Store_settle) F S2 hB
  refine ⟨ds, hd, q fun cdv A outer s H E c => ?_⟩
  exact (rss_cons (rs_expr (re_meth0 (G_Store_barrier_1.mono (by decide : 3 ≤ 3)) c Asks.run (cl_Store S) (mt_Store_barrier S) (by decide +kernel) hd_Store_barrier_1 (fun _ _ _ => .nil) (re_var 0)))
  (rss_one (rs_fld (at_settled_deeds S) (re_var 0) (re_bin op_sub ok_sub (re_fld (at_deeds S) (re_var 0)) (re_fld (at_running_deeds S) (re_var 0))))))
abbrev N_Store_lay : List PySem.Str := ["self"]
abbrev P_Store_lay : List PySem.Str := ["self"]
noncomputable def b_Store_lay : Sx :=
  (sSeq (sIf (tB (eF opEqX (aCons (eF (fFld [1] 8) (aCons (eVar 0) aNil)) (aCons (eF mkTup aNil) aNil)))) sRetN sNop)
  (sSeq (sDrop (eM 1 (cl F_Store_settle []) (eVar 0) aNil))
  (sSeq (sDrop (eM 1 (cl F_Store_write_home []) (eVar 0) aNil))
  (sDrop (eM 1 (cl F_Store_turn_head []) (eVar 0) aNil)))))
noncomputable def F_Store_lay : Fn := runDef 1 1 b_Store_lay
theorem sc_Store_lay : FnScope N_Store_lay P_Store_lay (defScope s_Store_lay) := ⟨rfl, rfl, rfl, by decide +kernel, rfl, by decide +kernel, by decide +kernel⟩
theorem ok_Store_lay_1 (S : Sys K mg) : ∃ ds, Vals ([] : List V) ds ∧ DefOk P w K mg base 6 (He.fAd K d_Store_lay.at_) P_Store_lay ds 1 F_Store_lay := by
  obtain ⟨ds_Store_settle_1, hd_Store_settle_1, G_Store_settle_1⟩ := ok_Store_settle_1 (P := P) (w := w) (base := base) S
  obtain ⟨ds_Store_write_home_1, hd_Store_write_home_1, G_Store_write_home_1⟩ := ok_Store_write_home_1 (P := P) (w := w) (base := base) S
  obtain ⟨ds_Store_turn_head_1, hd_Store_turn_head_1, G_Store_turn_head_1⟩ := ok_Store_turn_head_1 (P := P) (w := w) (base := base) S
  obtain ⟨fd, F⟩ := S.says.def_ 44 (d := d_Store_lay) rfl
  obtain ⟨ds, hd, hB⟩ : ∃ ds, Vals ([] : List V) ds ∧ Binds K fd P_Store_lay ds := ⟨[], .nil, F.bindsN fun _ _ _ _ _ _ us hl => match us, hl with | [_], _ => rfl⟩
  have S2 : FnScope N_Store_lay P_Store_lay d_Store_lay.scope := sc_Store_lay
  have q := def_ok (P := P) (w := w) (mg := mg) (base := base) (k := 5) (b := b_Store_lay) F S2 hB
  refine ⟨ds, hd, q fun cdv A outer s H E c => ?_⟩
  exact (rss_cons (rs_if (rt_cmp (op_eqA c.u65) ok_eqA (re_fld (at_groups S) (re_var 0)) (re_tup ra_nil) rfl) (rss_one rs_retN) rss_nil)
  (rss_cons (rs_expr (re_meth0 (G_Store_settle_1.mono (by decide : 4 ≤ 5)) c Asks.run (cl_Store S) (mt_Store_settle S) (by decide +kernel) hd_Store_settle_1 (fun _ _ _ => .nil) (re_var 0)))
  (rss_cons (rs_expr (re_meth0 (G_Store_write_home_1.mono (by decide : 5 ≤ 5)) c Asks.run (cl_Store S) (mt_Store_write_home S) (by decide +kernel) hd_Store_write_home_1 (fun _ _ _ => .nil) (re_var 0)))
  (rss_one (rs_expr (re_meth0 (G_Store_turn_head_1.mono (by decide : 5 ≤ 5)) c Asks.run (cl_Store S) (mt_Store_turn_head S) (by decide +kernel) hd_Store_turn_head_1 (fun _ _ _ => .nil) (re_var 0)))))))
abbrev N_Store_push : List PySem.Str := ["self", "changes", "begin", "at", "value", "plate"]
abbrev P_Store_push : List PySem.Str := ["self"]
noncomputable def b_Store_push : Sx :=
  (sSeq (sIf (tB (eF opEqX (aCons (eF (fFld [1] 13) (aCons (eVar 0) aNil)) (aCons (eC (.int 0)) aNil)))) sRetN sNop)
  (sSeq (sAsg (eF biTuple (aCons (eLc (iSeq (eF biSorted (aCons (eF biListX (aCons (eF (fFld [1] 12) (aCons (eVar 0) aNil)) aNil)) aNil))) (gName 5) tYes (eF mkTup (aCons (eVar 5) (aCons (eF opGet (aCons (eF (fFld [1] 12) (aCons (eVar 0) aNil)) (aCons (eVar 5) aNil))) aNil))) [5]) aNil)) (gName 1))
  (sSeq (sIf (tB (eF opGt (aCons (eF opAdd (aCons (eM 1 (cl F_Store_used []) (eVar 0) aNil) (aCons (eF biLen (aCons (eVar 1) aNil)) aNil))) (aCons (eF (fFld [1] 3) (aCons (eVar 0) aNil)) aNil)))) (sDrop (eM 1 (cl F_Store_lay []) (eVar 0) aNil)) sNop)
  (sSeq (sAsg (eF biLen (aCons (eF (fFld [1] 6) (aCons (eVar 0) aNil)) aNil)) (gName 2))
  (sSeq (sFor (iEnum (aCons (eF (cl F_log_rows []) (aCons (eF (fFld [1] 10) (aCons (eVar 0) aNil)) (aCons (eVar 1) aNil))) aNil)) (gTup 2 (gCons (gName 3) (gCons (gName 4) gNil)))
  (sDrop (eM 1 (cl F_Store_write []) (eVar 0) (aCons (eF (cl F_slot_plate []) (aCons (eF (fFld [1] 3) (aCons (eVar 0) aNil)) (aCons (eF opAdd (aCons (eF (fFld [1] 11) (aCons (eVar 0) aNil)) (aCons (eVar 3) aNil))) aNil))) (aCons (eVar 4) aNil)))))
  (sSeq (sFld [1] 8 (eVar 0) (eF mkTup (aStar (eF (fFld [1] 8) (aCons (eVar 0) aNil)) (aCons (eF mkTup (aCons (eF (fFld [1] 10) (aCons (eVar 0) aNil)) (aCons (eF (fFld [1] 11) (aCons (eVar 0) aNil)) (aCons (eVar 1) aNil)))) aNil))))
  (sSeq (sFld [1] 14 (eVar 0) (eF mkTup (aStar (eF (fFld [1] 14) (aCons (eVar 0) aNil)) (aCons (eF mkTup (aCons (eVar 2) (aCons (eF biLen (aCons (eF (fFld [1] 6) (aCons (eVar 0) aNil)) aNil)) (aCons (eF (fFld [1] 15) (aCons (eVar 0) aNil)) aNil)))) aNil))))
  (sSeq (sFldAug [1] 10 (eVar 0) (eC (.int 1)) opAddI)
  (sSeq (sFldAug [1] 11 (eVar 0) (eF biLen (aCons (eVar 1) aNil)) opAddI)
  (sSeq (sFld [1] 12 (eVar 0) (eF mkDic aNil))
  (sFld [1] 13 (eVar 0) (eC (.int 0)))))))))))))
noncomputable def F_Store_push : Fn := runDef 1 6 b_Store_push
theorem sc_Store_push : FnScope N_Store_push P_Store_push (defScope s_Store_push) := ⟨rfl, rfl, rfl, by decide +kernel, rfl, by decide +kernel, by decide +kernel⟩
theorem ok_Store_push_1 (S : Sys K mg) : ∃ ds, Vals ([] : List V) ds ∧ DefOk P w K mg base 7 (He.fAd K d_Store_push.at_) P_Store_push ds 1 F_Store_push := by
  obtain ⟨ds_Store_lay_1, hd_Store_lay_1, G_Store_lay_1⟩ := ok_Store_lay_1 (P := P) (w := w) (base := base) S
  obtain ⟨ds_log_rows_2, hd_log_rows_2, G_log_rows_2⟩ := ok_log_rows_2 (P := P) (w := w) (base := base) S
  obtain ⟨ds_Store_write_3, hd_Store_write_3, G_Store_write_3⟩ := ok_Store_write_3 (P := P) (w := w) (base := base) S
  obtain ⟨ds_Store_used_1, hd_Store_used_1, G_Store_used_1⟩ := ok_Store_used_1 (P := P) (w := w) (base := base) S
  obtain ⟨ds_slot_plate_2, hd_slot_plate_2, G_slot_plate_2⟩ := ok_slot_plate_2 (P := P) (w := w) (base := base) S
  obtain ⟨fd, F⟩ := S.says.def_ 41 (d := d_Store_push) rfl
  obtain ⟨ds, hd, hB⟩ : ∃ ds, Vals ([] : List V) ds ∧ Binds K fd P_Store_push ds := ⟨[], .nil, F.bindsN fun _ _ _ _ _ _ us hl => match us, hl with | [_], _ => rfl⟩
  have S2 : FnScope N_Store_push P_Store_push d_Store_push.scope := sc_Store_push
  have q := def_ok (P := P) (w := w) (mg := mg) (base := base) (k := 6) (b := b_Store_push) F S2 hB
  refine ⟨ds, hd, q fun cdv A outer s H E c => ?_⟩
  exact (rss_cons (rs_if (rt_cmp (op_eqA c.u65) ok_eqA (re_fld (at_running_deeds S) (re_var 0)) re_int rfl) (rss_one rs_retN) rss_nil)
  (rss_cons (rs_set c 1 (re_callTy call_tuple_of ok_tuple (by rfl) (g_tuple S) bt_tuple (ra_cons (re_lc (own := [("plate", 5)]) c (ri_seq (re_callB cr_sortedI ok_sorted (by rfl) (g_sorted S) bt_sorted (ra_cons (re_callTy (cr_listX c.calm) ok_listX (by rfl) (g_list S) bt_list (ra_cons (re_fld (at_running S) (re_var 0)) ra_nil)) ra_nil))) (blk_of rfl) (fun s0 H0 C0 cl0 fp0 => (rgo_name (c.blk s0 H0 C0 cl0 fp0).nd 5 rfl (.inl rfl) (.inr rfl) (by decide))) (fun s0 H0 C0 cl0 fp0 => rts_nil) (fun s0 H0 C0 cl0 fp0 => (re_tup (ra_cons (re_var 5) (ra_cons (re_ix (ix_dict (c.blk s0 H0 C0 cl0 fp0).u1) ok_get (re_fld (at_running S) (re_var 0)) (re_var 5) (fun _ _ => rfl)) ra_nil))))) ra_nil)))
  (rss_cons (rs_if (rt_cmp op_gt ok_gt (re_bin op_add4 ok_add (re_meth0 (G_Store_used_1.mono (by decide : 1 ≤ 6)) c Asks.run (cl_Store S) (mt_Store_used S) (by decide +kernel) hd_Store_used_1 (fun _ _ _ => .nil) (re_var 0)) (re_callB call_len_seq ok_len (by rfl) (g_len S) bt_len (ra_cons (re_var 1) ra_nil))) (re_fld (at_slots S) (re_var 0)) rfl) (rss_one (rs_expr (re_meth0 (G_Store_lay_1.mono (by decide : 6 ≤ 6)) c Asks.run (cl_Store S) (mt_Store_lay S) (by decide +kernel) hd_Store_lay_1 (fun _ _ _ => .nil) (re_var 0)))) rss_nil)
  (rss_cons (rs_set c 2 (re_callB call_len_seq ok_len (by rfl) (g_len S) bt_len (ra_cons (re_fld (at_trace S) (re_var 0)) ra_nil)))
  (rss_cons (rs_for c (ri_enum (by rfl) (g_enumerate S) (ra_cons (re_call (G_log_rows_2.mono (by decide : 1 ≤ 6)) c Asks.run (by rfl) (g_log_rows S) hd_log_rows_2 (fun _ _ _ => .nil) (ra_cons (re_fld (at_next_group S) (re_var 0)) (ra_cons (re_var 1) ra_nil))) ra_nil)) (rg_tup c (rgs_cons (rg_name c 3) (rgs_cons (rg_name c 4) rgs_nil)))
  (rss_one (rs_expr (re_meth (G_Store_write_3.mono (by decide : 4 ≤ 6)) c Asks.run (cl_Store S) (mt_Store_write S) (by decide +kernel) hd_Store_write_3 (fun _ _ _ => .nil) (re_var 0) (ra_cons (re_call (G_slot_plate_2.mono (by decide : 1 ≤ 6)) c Asks.run (by rfl) (g_slot_plate S) hd_slot_plate_2 (fun _ _ _ => .nil) (ra_cons (re_fld (at_slots S) (re_var 0)) (ra_cons (re_bin op_add4 ok_add (re_fld (at_next_slot S) (re_var 0)) (re_var 3)) ra_nil))) (ra_cons (re_var 4) ra_nil))))))
  (rss_cons (rs_fld (at_groups S) (re_var 0) (re_tup (ra_star c.calm (re_fld (at_groups S) (re_var 0)) (ra_cons (re_tup (ra_cons (re_fld (at_next_group S) (re_var 0)) (ra_cons (re_fld (at_next_slot S) (re_var 0)) (ra_cons (re_var 1) ra_nil)))) ra_nil))))
  (rss_cons (rs_fld (at_pushed S) (re_var 0) (re_tup (ra_star c.calm (re_fld (at_pushed S) (re_var 0)) (ra_cons (re_tup (ra_cons (re_var 2) (ra_cons (re_callB call_len_seq ok_len (by rfl) (g_len S) bt_len (ra_cons (re_fld (at_trace S) (re_var 0)) ra_nil)) (ra_cons (re_fld (at_deeds S) (re_var 0)) ra_nil)))) ra_nil))))
  (rss_cons (rs_fldAug (at_next_group S) in_add ok_inAdd (re_var 0) re_int)
  (rss_cons (rs_fldAug (at_next_slot S) in_add ok_inAdd (re_var 0) (re_callB call_len_seq ok_len (by rfl) (g_len S) bt_len (ra_cons (re_var 1) ra_nil)))
  (rss_cons (rs_fld (at_running S) (re_var 0) re_dic)
  (rss_one (rs_fld (at_running_deeds S) (re_var 0) re_int))))))))))))
abbrev N_Store_put : List PySem.Str := ["self", "changes", "told", "plate", "cells"]
abbrev P_Store_put : List PySem.Str := ["self", "changes"]
noncomputable def b_Store_put : Sx :=
  (sSeq (sAsg (eF (cl F_checked_changes []) (aCons (eF (fFld [1] 2) (aCons (eVar 0) aNil)) (aCons (eVar 1) aNil))) (gName 2))
  (sSeq (sIf (tB (eF opGt (aCons (eF biLen (aCons (eVar 2) aNil)) (aCons (eF (fFld [1] 3) (aCons (eVar 0) aNil)) aNil)))) sBad sNop)
  (sSeq (sIf (tB (eF opEqX (aCons (eVar 2) (aCons (eF mkTup aNil) aNil)))) sRetN sNop)
  (sSeq (sIf (tB (eF opGt (aCons (eLenSet (eF mkLst (aStar (eF (fFld [1] 12) (aCons (eVar 0) aNil)) (aStar (eLc (iSeq (eVar 2)) (gTup 2 (gCons (gName 3) (gCons (gName 4) gNil))) tYes (eVar 3) [3, 4]) aNil)))) (aCons (eF (fFld [1] 3) (aCons (eVar 0) aNil)) aNil)))) (sDrop (eM 1 (cl F_Store_push []) (eVar 0) aNil)) sNop)
  (sSeq (sFor (iSeq (eVar 2)) (gTup 2 (gCons (gName 3) (gCons (gName 4) gNil)))
  (sSeq (sAsg (eVar 4) (gSub (eF (fFld [1] 12) (aCons (eVar 0) aNil)) (eVar 3) stPut))
  (sAsg (eVar 4) (gSub (eF (fFld [1] 9) (aCons (eVar 0) aNil)) (eVar 3) stPut))))
  (sSeq (sFldAug [1] 13 (eVar 0) (eC (.int 1)) opAddI)
  (sFldAug [1] 15 (eVar 0) (eC (.int 1)) opAddI)))))))
noncomputable def F_Store_put : Fn := runDef 2 5 b_Store_put
theorem sc_Store_put : FnScope N_Store_put P_Store_put (defScope s_Store_put) := ⟨rfl, rfl, rfl, by decide +kernel, rfl, by decide +kernel, by decide +kernel⟩
theorem ok_Store_put_2 (S : Sys K mg) : ∃ ds, Vals ([] : List V) ds ∧ DefOk P w K mg base 8 (He.fAd K d_Store_put.at_) P_Store_put ds 2 F_Store_put := by
  obtain ⟨ds_checked_changes_2, hd_checked_changes_2, G_checked_changes_2⟩ := ok_checked_changes_2 (P := P) (w := w) (base := base) S
  obtain ⟨ds_Store_push_1, hd_Store_push_1, G_Store_push_1⟩ := ok_Store_push_1 (P := P) (w := w) (base := base) S
  obtain ⟨fd, F⟩ := S.says.def_ 39 (d := d_Store_put) rfl
  obtain ⟨ds, hd, hB⟩ : ∃ ds, Vals ([] : List V) ds ∧ Binds K fd P_Store_put ds := ⟨[], .nil, F.bindsN fun _ _ _ _ _ _ us hl => match us, hl with | [_, _], _ => rfl⟩
  have S2 : FnScope N_Store_put P_Store_put d_Store_put.scope := sc_Store_put
  have q := def_ok (P := P) (w := w) (mg := mg) (base := base) (k := 7) (b := b_Store_put) F S2 hB
  refine ⟨ds, hd, q fun cdv A outer s H E c => ?_⟩
  exact (rss_cons (rs_set c 2 (re_call (G_checked_changes_2.mono (by decide : 3 ≤ 7)) c Asks.run (by rfl) (g_checked_changes S) hd_checked_changes_2 (fun _ _ _ => .nil) (ra_cons (re_fld (at_plates S) (re_var 0)) (ra_cons (re_var 1) ra_nil))))
  (rss_cons (rs_if (rt_cmp op_gt ok_gt (re_callB call_len_seq ok_len (by rfl) (g_len S) bt_len (ra_cons (re_var 2) ra_nil)) (re_fld (at_slots S) (re_var 0)) rfl) (rss_one rs_never) rss_nil)
  (rss_cons (rs_if (rt_cmp (op_eqA c.u65) ok_eqA (re_var 2) (re_tup ra_nil) rfl) (rss_one rs_retN) rss_nil)
  (rss_cons (rs_if (rt_cmp op_gt ok_gt (re_lenSet c (by rfl) (g_len S) (by rfl) (g_set S) (re_lst (ra_star c.calm (re_fld (at_running S) (re_var 0)) (ra_star c.calm (re_lc (own := [("plate", 3), ("cells", 4)]) c (ri_seq (re_var 2)) (blk_of rfl) (fun s0 H0 C0 cl0 fp0 => (rgo_tup (c.blk s0 H0 C0 cl0 fp0).calm (rgos_cons (rgo_name (c.blk s0 H0 C0 cl0 fp0).nd 3 rfl (.inl rfl) (.inr rfl) (by decide)) (rgos_cons (rgo_name (c.blk s0 H0 C0 cl0 fp0).nd 4 rfl (.inl rfl) (.inr rfl) (by decide)) rgos_nil rfl) rfl) rfl rfl)) (fun s0 H0 C0 cl0 fp0 => rts_nil) (fun s0 H0 C0 cl0 fp0 => (re_var 3))) ra_nil)))) (re_fld (at_slots S) (re_var 0)) rfl) (rss_one (rs_expr (re_meth0 (G_Store_push_1.mono (by decide : 7 ≤ 7)) c Asks.run (cl_Store S) (mt_Store_push S) (by decide +kernel) hd_Store_push_1 (fun _ _ _ => .nil) (re_var 0)))) rss_nil)
  (rss_cons (rs_for c (ri_seq (re_var 2)) (rg_tup c (rgs_cons (rg_name c 3) (rgs_cons (rg_name c 4) rgs_nil)))
  (rss_cons (rs_asg (re_var 4) (rg_sub (set_dict c.u1) ok_put (re_fld (at_running S) (re_var 0)) (re_var 3)))
  (rss_one (rs_asg (re_var 4) (rg_sub (set_dict c.u1) ok_put (re_fld (at_cells S) (re_var 0)) (re_var 3))))))
  (rss_cons (rs_fldAug (at_running_deeds S) in_add ok_inAdd (re_var 0) re_int)
  (rss_one (rs_fldAug (at_deeds S) in_add ok_inAdd (re_var 0) re_int))))))))
abbrev N_Store_home : List PySem.Str := ["self"]
abbrev P_Store_home : List PySem.Str := ["self"]
noncomputable def b_Store_home : Sx :=
  (sRet (eF biDictX (aCons (eF (fFld [1] 9) (aCons (eVar 0) aNil)) aNil)))
noncomputable def F_Store_home : Fn := runDef 1 1 b_Store_home
theorem sc_Store_home : FnScope N_Store_home P_Store_home (defScope s_Store_home) := ⟨rfl, rfl, rfl, by decide +kernel, rfl, by decide +kernel, by decide +kernel⟩
theorem ok_Store_home_1 (S : Sys K mg) : ∃ ds, Vals ([] : List V) ds ∧ DefOk P w K mg base 1 (He.fAd K d_Store_home.at_) P_Store_home ds 1 F_Store_home := by
  obtain ⟨fd, F⟩ := S.says.def_ 36 (d := d_Store_home) rfl
  obtain ⟨ds, hd, hB⟩ : ∃ ds, Vals ([] : List V) ds ∧ Binds K fd P_Store_home ds := ⟨[], .nil, F.bindsN fun _ _ _ _ _ _ us hl => match us, hl with | [_], _ => rfl⟩
  have S2 : FnScope N_Store_home P_Store_home d_Store_home.scope := sc_Store_home
  have q := def_ok (P := P) (w := w) (mg := mg) (base := base) (k := 0) (b := b_Store_home) F S2 hB
  refine ⟨ds, hd, q fun cdv A outer s H E c => ?_⟩
  exact (rss_one (rs_ret (re_callTy (cr_dictX c.calm) ok_dictX (by rfl) (g_dict S) bt_dict (ra_cons (re_fld (at_cells S) (re_var 0)) ra_nil))))
abbrev N_Store_sync : List PySem.Str := ["self"]
abbrev P_Store_sync : List PySem.Str := ["self"]
noncomputable def b_Store_sync : Sx :=
  (sSeq (sDrop (eM 1 (cl F_Store_push []) (eVar 0) aNil))
  (sDrop (eM 1 (cl F_Store_settle []) (eVar 0) aNil)))
noncomputable def F_Store_sync : Fn := runDef 1 1 b_Store_sync
theorem sc_Store_sync : FnScope N_Store_sync P_Store_sync (defScope s_Store_sync) := ⟨rfl, rfl, rfl, by decide +kernel, rfl, by decide +kernel, by decide +kernel⟩
theorem ok_Store_sync_1 (S : Sys K mg) : ∃ ds, Vals ([] : List V) ds ∧ DefOk P w K mg base 8 (He.fAd K d_Store_sync.at_) P_Store_sync ds 1 F_Store_sync := by
  obtain ⟨ds_Store_push_1, hd_Store_push_1, G_Store_push_1⟩ := ok_Store_push_1 (P := P) (w := w) (base := base) S
  obtain ⟨ds_Store_settle_1, hd_Store_settle_1, G_Store_settle_1⟩ := ok_Store_settle_1 (P := P) (w := w) (base := base) S
  obtain ⟨fd, F⟩ := S.says.def_ 43 (d := d_Store_sync) rfl
  obtain ⟨ds, hd, hB⟩ : ∃ ds, Vals ([] : List V) ds ∧ Binds K fd P_Store_sync ds := ⟨[], .nil, F.bindsN fun _ _ _ _ _ _ us hl => match us, hl with | [_], _ => rfl⟩
  have S2 : FnScope N_Store_sync P_Store_sync d_Store_sync.scope := sc_Store_sync
  have q := def_ok (P := P) (w := w) (mg := mg) (base := base) (k := 7) (b := b_Store_sync) F S2 hB
  refine ⟨ds, hd, q fun cdv A outer s H E c => ?_⟩
  exact (rss_cons (rs_expr (re_meth0 (G_Store_push_1.mono (by decide : 7 ≤ 7)) c Asks.run (cl_Store S) (mt_Store_push S) (by decide +kernel) hd_Store_push_1 (fun _ _ _ => .nil) (re_var 0)))
  (rss_one (rs_expr (re_meth0 (G_Store_settle_1.mono (by decide : 4 ≤ 7)) c Asks.run (cl_Store S) (mt_Store_settle S) (by decide +kernel) hd_Store_settle_1 (fun _ _ _ => .nil) (re_var 0)))))
noncomputable def st_law_0 : Sx :=
  (sGc (sAsg (eF mkLst (aCons (eVar 0) (aCons (eC (.int 0)) aNil))) (gName 1)))
noncomputable def st_law_1 : Sx :=
  (sGc (sAsg (eF (cl F_L_pick []) (aCons (eVar 1) (aCons (eF mkLst (aCons (eC (.int 2)) (aCons (eC (.int 3)) (aCons (eC (.int 5)) aNil)))) aNil))) (gName 2)))
noncomputable def st_law_2 : Sx :=
  (sGc (sAsg (eF (cl F_L_pick []) (aCons (eVar 1) (aCons (eF mkLst (aCons (eVar 2) (aCons (eF opAdd (aCons (eVar 2) (aCons (eC (.int 2)) aNil))) (aCons (eF opAdd (aCons (eVar 2) (aCons (eC (.int 6)) aNil))) aNil)))) aNil))) (gName 3)))
noncomputable def st_law_3 : Sx :=
  (sGc (sPar 4 5 (aCons (eF (cl F_fresh_store []) (aCons (eVar 2) (aCons (eVar 3) (aCons (eF biDictX (aCons (eLc (iRng1 (aCons (eVar 2) aNil)) (gName 11) tYes (eF mkTup (aCons (eVar 11) (aCons (eF opMul (aCons (eF mkTup (aCons (eC (.int 0)) aNil)) (aCons (eC (.int 8)) aNil))) aNil))) [11]) aNil)) aNil)))) (aCons (eF mkLst (aCons (eF mkTup (aCons (eC (.int 0)) (aCons (eC (.int 0)) aNil))) aNil)) aNil))))
noncomputable def bd_law_4 : Sx :=
  (sGc (sFg [7, 6] (sSeq (sGc (sAsg (eF opAdd (aCons (eF (fFld [1] 15) (aCons (eVar 4) aNil)) (aCons (eC (.int 1)) aNil))) (gName 7)))
  (sSeq (sGc (sDrop (eM 1 (cl F_Store_put []) (eVar 4) (aCons (eF biDictX (aCons (eLc (iRng1 (aCons (eVar 2) aNil)) (gName 11) tYes (eF mkTup (aCons (eVar 11) (aCons (eF opMul (aCons (eF mkTup (aCons (eVar 7) aNil)) (aCons (eC (.int 8)) aNil))) aNil))) [11]) aNil)) aNil))))
  (sIf (tB (eF opEqX (aCons (eF (cl F_L_take []) (aCons (eVar 1) (aCons (eC (.int 3)) aNil))) (aCons (eC (.int 0)) aNil)))) (sSeq (sGc (sDrop (eM 1 (cl F_Store_sync []) (eVar 4) aNil)))
  (sGc (sDrop (eBM .list mAppend (eVar 5) (aCons (eF mkTup (aCons (eF biLen (aCons (eF (fFld [1] 6) (aCons (eVar 4) aNil)) aNil)) (aCons (eVar 7) aNil))) aNil))))) (sIf (tB (eF opEqX (aCons (eF (cl F_L_take []) (aCons (eVar 1) (aCons (eC (.int 2)) aNil))) (aCons (eC (.int 0)) aNil)))) (sGc (sDrop (eM 1 (cl F_Store_push []) (eVar 4) aNil))) (sIf (tB (eF opEqX (aCons (eF (cl F_L_take []) (aCons (eVar 1) (aCons (eC (.int 3)) aNil))) (aCons (eC (.int 0)) aNil)))) (sGc (sDrop (eM 1 (cl F_Store_lay []) (eVar 4) aNil))) sNop)))))))
noncomputable def st_law_4 : Sx :=
  (sFor (iRng1 (aCons (eF (cl F_L_pick []) (aCons (eVar 1) (aCons (eF mkLst (aCons (eC (.int 5)) (aCons (eC (.int 9)) (aCons (eC (.int 14)) aNil)))) aNil))) aNil)) (gName 6)
  bd_law_4)
noncomputable def bd_law_5 : Sx :=
  (sGc (sFg [8, 9, 10, 7, 6] (sSeq (sGc (sAsg (eF (cl F_L_take []) (aCons (eVar 1) (aCons (eF opAdd (aCons (eF biLen (aCons (eF (fFld [1] 6) (aCons (eVar 4) aNil)) aNil)) (aCons (eC (.int 1)) aNil))) aNil))) (gName 8)))
  (sSeq (sGc (sAsg (eF (cl F_L_choice []) (aCons (eVar 1) (aCons (eF (cl F_disk_after []) (aCons (eF (fFld [1] 4) (aCons (eVar 4) aNil)) (aCons (eF (fFld [1] 6) (aCons (eVar 4) aNil)) (aCons (eVar 8) aNil)))) aNil))) (gName 9)))
  (sSeq (sGc (sAsg (eM 1 (cl F_Store_home []) (eF (cl F_open_store []) (aCons (eF (cl F_fallen_disk []) (aCons (eVar 4) (aCons (eVar 8) (aCons (eVar 9) aNil)))) (aCons (eVar 2) (aCons (eVar 3) aNil)))) aNil) (gName 10)))
  (sSeq (sGc (sAsg (eF opIx (aCons (eF opGet (aCons (eVar 10) (aCons (eC (.int 0)) aNil))) (aCons (eC (.int 0)) aNil))) (gName 7)))
  (sSeq (sIf (tOr (tB (eF opNeX (aCons (eVar 10) (aCons (eF biDictX (aCons (eLc (iRng1 (aCons (eVar 2) aNil)) (gName 11) tYes (eF mkTup (aCons (eVar 11) (aCons (eF opMul (aCons (eF mkTup (aCons (eVar 7) aNil)) (aCons (eC (.int 8)) aNil))) aNil))) [11]) aNil)) aNil)))) (tNot (tB (eChain opLe opLe (eC (.int 0)) (eVar 7) (eF (fFld [1] 15) (aCons (eVar 4) aNil)))))) (sRet (eC (.bl false))) sNop)
  (sIf (tB (eF opLt (aCons (eVar 7) (aCons (eF biMaxX (aCons (eLc (iSeq (eVar 5)) (gTup 2 (gCons (gName 12) (gCons (gName 13) gNil))) (tB (eF opLe (aCons (eVar 12) (aCons (eVar 8) aNil)))) (eVar 13) [12, 13]) aNil)) aNil)))) (sRet (eC (.bl false))) sNop))))))))
noncomputable def st_law_5 : Sx :=
  (sFor (iRng1 (aCons (eC (.int 8)) aNil)) (gName 6)
  bd_law_5)
noncomputable def st_law_6 : Sx :=
  (sRet (eC (.bl true)))
abbrev N_law : List PySem.Str := ["_law_script", "_law_draw", "_law_plates", "_law_slots", "_law_store", "_law_synced", "_law_turn", "_law_number_here", "_law_moment", "_law_choice_here", "_law_home", "_law_plate", "_law_event", "_law_one"]
abbrev P_law : List PySem.Str := ["_law_script"]
noncomputable def b_law : Sx :=
  (sSeq st_law_0
  (sSeq st_law_1
  (sSeq st_law_2
  (sSeq st_law_3
  (sSeq st_law_4
  (sSeq st_law_5
  st_law_6))))))
noncomputable def F_law : Fn := runDef 1 14 b_law
theorem sc_law : FnScope N_law P_law (defScope s_law) := ⟨rfl, rfl, rfl, by decide +kernel, rfl, by decide +kernel, by decide +kernel⟩
theorem ok_law_F (S : Sys K mg) {fd : FuncData} (F : FunD K d_law.name d_law.qual d_law.params d_law.body d_law.scope (d_law.dvs K) (d_law.kws K) (He.fAd K d_law.at_) fd) : FnOk P w K mg base (L2.CX P w) 9 (He.fAd K d_law.at_) fd P_law (spD K 1 F_law) := by
  obtain ⟨ds_L_pick_2, hd_L_pick_2, G_L_pick_2⟩ := ok_L_pick_2 (P := P) (w := w) (base := base) S
  obtain ⟨ds_fresh_store_3, hd_fresh_store_3, G_fresh_store_3⟩ := ok_fresh_store_3 (P := P) (w := w) (base := base) S
  obtain ⟨ds_Store_put_2, hd_Store_put_2, G_Store_put_2⟩ := ok_Store_put_2 (P := P) (w := w) (base := base) S
  obtain ⟨ds_L_take_2, hd_L_take_2, G_L_take_2⟩ := ok_L_take_2 (P := P) (w := w) (base := base) S
  obtain ⟨ds_L_choice_2, hd_L_choice_2, G_L_choice_2⟩ := ok_L_choice_2 (P := P) (w := w) (base := base) S
  obtain ⟨ds_Store_home_1, hd_Store_home_1, G_Store_home_1⟩ := ok_Store_home_1 (P := P) (w := w) (base := base) S
  obtain ⟨ds_Store_sync_1, hd_Store_sync_1, G_Store_sync_1⟩ := ok_Store_sync_1 (P := P) (w := w) (base := base) S
  obtain ⟨ds_disk_after_3, hd_disk_after_3, G_disk_after_3⟩ := ok_disk_after_3 (P := P) (w := w) (base := base) S
  obtain ⟨ds_Store_push_1, hd_Store_push_1, G_Store_push_1⟩ := ok_Store_push_1 (P := P) (w := w) (base := base) S
  obtain ⟨ds_open_store_3, hd_open_store_3, G_open_store_3⟩ := ok_open_store_3 (P := P) (w := w) (base := base) S
  obtain ⟨ds_Store_lay_1, hd_Store_lay_1, G_Store_lay_1⟩ := ok_Store_lay_1 (P := P) (w := w) (base := base) S
  obtain ⟨ds_fallen_disk_3, hd_fallen_disk_3, G_fallen_disk_3⟩ := ok_fallen_disk_3 (P := P) (w := w) (base := base) S
  have S2 : FnScope N_law P_law d_law.scope := sc_law
  have q := def_okF (P := P) (w := w) (mg := mg) (base := base) (k := 8) (b := b_law) F S2
  refine q fun cdv A outer s H E c => ?_
  exact (rss_cons (rs_gc (rs_set c 1 (re_lst (ra_cons (re_var 0) (ra_cons re_int ra_nil)))))
  (rss_cons (rs_gc (rs_set c 2 (re_call (G_L_pick_2.mono (by decide : 3 ≤ 8)) c Asks.run (by rfl) (g__law_pick S) hd_L_pick_2 (fun _ _ _ => .nil) (ra_cons (re_var 1) (ra_cons (re_lst (ra_cons re_int (ra_cons re_int (ra_cons re_int ra_nil)))) ra_nil)))))
  (rss_cons (rs_gc (rs_set c 3 (re_call (G_L_pick_2.mono (by decide : 3 ≤ 8)) c Asks.run (by rfl) (g__law_pick S) hd_L_pick_2 (fun _ _ _ => .nil) (ra_cons (re_var 1) (ra_cons (re_lst (ra_cons (re_var 2) (ra_cons (re_bin op_add4 ok_add (re_var 2) re_int) (ra_cons (re_bin op_add4 ok_add (re_var 2) re_int) ra_nil)))) ra_nil)))))
  (rss_cons (rs_gc (rs_par c 4 5 (ra_cons (re_call (G_fresh_store_3.mono (by decide : 8 ≤ 8)) c Asks.run (by rfl) (g_fresh_store S) hd_fresh_store_3 (fun _ _ _ => .nil) (ra_cons (re_var 2) (ra_cons (re_var 3) (ra_cons (re_callTy (cr_dictX c.calm) ok_dictX (by rfl) (g_dict S) bt_dict (ra_cons (re_lc (own := [("_law_plate", 11)]) c (ri_rng1 (by rfl) (g_range S) (ra_cons (re_var 2) ra_nil)) (blk_of rfl) (fun s0 H0 C0 cl0 fp0 => (rgo_name (c.blk s0 H0 C0 cl0 fp0).nd 11 rfl (.inl rfl) (.inr rfl) (by decide))) (fun s0 H0 C0 cl0 fp0 => rts_nil) (fun s0 H0 C0 cl0 fp0 => (re_tup (ra_cons (re_var 11) (ra_cons (re_bin op_mul3 ok_mul (re_tup (ra_cons re_int ra_nil)) re_int) ra_nil))))) ra_nil)) ra_nil)))) (ra_cons (re_lst (ra_cons (re_tup (ra_cons re_int (ra_cons re_int ra_nil))) ra_nil)) ra_nil))))
  (rss_cons (rs_for c (ri_rng1 (by rfl) (g_range S) (ra_cons (re_call (G_L_pick_2.mono (by decide : 3 ≤ 8)) c Asks.run (by rfl) (g__law_pick S) hd_L_pick_2 (fun _ _ _ => .nil) (ra_cons (re_var 1) (ra_cons (re_lst (ra_cons re_int (ra_cons re_int (ra_cons re_int ra_nil)))) ra_nil))) ra_nil)) (rg_name c 6)
  (rss_gc (rss_fg (is := [7, 6]) (rss_cons (rs_gc (rs_set c 7 (re_bin op_add4 ok_add (re_fld (at_deeds S) (re_var 4)) re_int)))
  (rss_cons (rs_gc (rs_expr (re_meth (G_Store_put_2.mono (by decide : 8 ≤ 8)) c Asks.run (cl_Store S) (mt_Store_put S) (by decide +kernel) hd_Store_put_2 (fun _ _ _ => .nil) (re_var 4) (ra_cons (re_callTy (cr_dictX c.calm) ok_dictX (by rfl) (g_dict S) bt_dict (ra_cons (re_lc (own := [("_law_plate", 11)]) c (ri_rng1 (by rfl) (g_range S) (ra_cons (re_var 2) ra_nil)) (blk_of rfl) (fun s0 H0 C0 cl0 fp0 => (rgo_name (c.blk s0 H0 C0 cl0 fp0).nd 11 rfl (.inl rfl) (.inr rfl) (by decide))) (fun s0 H0 C0 cl0 fp0 => rts_nil) (fun s0 H0 C0 cl0 fp0 => (re_tup (ra_cons (re_var 11) (ra_cons (re_bin op_mul3 ok_mul (re_tup (ra_cons (re_var 7) ra_nil)) re_int) ra_nil))))) ra_nil)) ra_nil))))
  (rss_one (rs_if (rt_cmp (op_eqA c.u65) ok_eqA (re_call (G_L_take_2.mono (by decide : 2 ≤ 8)) c Asks.run (by rfl) (g__law_take S) hd_L_take_2 (fun _ _ _ => .nil) (ra_cons (re_var 1) (ra_cons re_int ra_nil))) re_int rfl) (rss_cons (rs_gc (rs_expr (re_meth0 (G_Store_sync_1.mono (by decide : 8 ≤ 8)) c Asks.run (cl_Store S) (mt_Store_sync S) (by decide +kernel) hd_Store_sync_1 (fun _ _ _ => .nil) (re_var 4))))
  (rss_one (rs_gc (rs_expr (re_bm (t := .list) PySem.F.plainAttrs_list PySem.F.slot_list_append PySem.F.type_list_append mt_append ok_append (re_var 5) (ra_cons (re_tup (ra_cons (re_callB call_len_seq ok_len (by rfl) (g_len S) bt_len (ra_cons (re_fld (at_trace S) (re_var 4)) ra_nil)) (ra_cons (re_var 7) ra_nil))) ra_nil)))))) (rss_one (rs_if (rt_cmp (op_eqA c.u65) ok_eqA (re_call (G_L_take_2.mono (by decide : 2 ≤ 8)) c Asks.run (by rfl) (g__law_take S) hd_L_take_2 (fun _ _ _ => .nil) (ra_cons (re_var 1) (ra_cons re_int ra_nil))) re_int rfl) (rss_one (rs_gc (rs_expr (re_meth0 (G_Store_push_1.mono (by decide : 7 ≤ 8)) c Asks.run (cl_Store S) (mt_Store_push S) (by decide +kernel) hd_Store_push_1 (fun _ _ _ => .nil) (re_var 4))))) (rss_one (rs_if (rt_cmp (op_eqA c.u65) ok_eqA (re_call (G_L_take_2.mono (by decide : 2 ≤ 8)) c Asks.run (by rfl) (g__law_take S) hd_L_take_2 (fun _ _ _ => .nil) (ra_cons (re_var 1) (ra_cons re_int ra_nil))) re_int rfl) (rss_one (rs_gc (rs_expr (re_meth0 (G_Store_lay_1.mono (by decide : 6 ≤ 8)) c Asks.run (cl_Store S) (mt_Store_lay S) (by decide +kernel) hd_Store_lay_1 (fun _ _ _ => .nil) (re_var 4))))) rss_nil)))))))))))
  (rss_cons (rs_for c (ri_rng1 (by rfl) (g_range S) (ra_cons re_int ra_nil)) (rg_name c 6)
  (rss_gc (rss_fg (is := [8, 9, 10, 7, 6]) (rss_cons (rs_gc (rs_set c 8 (re_call (G_L_take_2.mono (by decide : 2 ≤ 8)) c Asks.run (by rfl) (g__law_take S) hd_L_take_2 (fun _ _ _ => .nil) (ra_cons (re_var 1) (ra_cons (re_bin op_add4 ok_add (re_callB call_len_seq ok_len (by rfl) (g_len S) bt_len (ra_cons (re_fld (at_trace S) (re_var 4)) ra_nil)) re_int) ra_nil)))))
  (rss_cons (rs_gc (rs_set c 9 (re_call (G_L_choice_2.mono (by decide : 4 ≤ 8)) c Asks.run (by rfl) (g__law_choice S) hd_L_choice_2 (fun _ _ _ => .nil) (ra_cons (re_var 1) (ra_cons (re_call (G_disk_after_3.mono (by decide : 4 ≤ 8)) c Asks.run (by rfl) (g_disk_after S) hd_disk_after_3 (fun _ _ _ => .nil) (ra_cons (re_fld (at_begin S) (re_var 4)) (ra_cons (re_fld (at_trace S) (re_var 4)) (ra_cons (re_var 8) ra_nil)))) ra_nil)))))
  (rss_cons (rs_gc (rs_set c 10 (re_meth0 (G_Store_home_1.mono (by decide : 1 ≤ 8)) c Asks.run (cl_Store S) (mt_Store_home S) (by decide +kernel) hd_Store_home_1 (fun _ _ _ => .nil) (re_call (G_open_store_3.mono (by decide : 8 ≤ 8)) c Asks.run (by rfl) (g_open_store S) hd_open_store_3 (fun _ _ _ => .nil) (ra_cons (re_call (G_fallen_disk_3.mono (by decide : 5 ≤ 8)) c Asks.run (by rfl) (g_fallen_disk S) hd_fallen_disk_3 (fun _ _ _ => .nil) (ra_cons (re_var 4) (ra_cons (re_var 8) (ra_cons (re_var 9) ra_nil)))) (ra_cons (re_var 2) (ra_cons (re_var 3) ra_nil)))))))
  (rss_cons (rs_gc (rs_set c 7 (re_ix ix_seq ok_ix (re_ix (ix_dict c.u1) ok_get (re_var 10) re_int (fun _ _ => rfl)) re_int (fun _ _ => rfl))))
  (rss_cons (rs_if (rt_w (rw_or (rt_cmp (op_neA c.u65) ok_neA (re_var 10) (re_callTy (cr_dictX c.calm) ok_dictX (by rfl) (g_dict S) bt_dict (ra_cons (re_lc (own := [("_law_plate", 11)]) c (ri_rng1 (by rfl) (g_range S) (ra_cons (re_var 2) ra_nil)) (blk_of rfl) (fun s0 H0 C0 cl0 fp0 => (rgo_name (c.blk s0 H0 C0 cl0 fp0).nd 11 rfl (.inl rfl) (.inr rfl) (by decide))) (fun s0 H0 C0 cl0 fp0 => rts_nil) (fun s0 H0 C0 cl0 fp0 => (re_tup (ra_cons (re_var 11) (ra_cons (re_bin op_mul3 ok_mul (re_tup (ra_cons (re_var 7) ra_nil)) re_int) ra_nil))))) ra_nil)) rfl) (rw_or1 (rt_not (rt_chain op_le ok_le op_le ok_le re_int (re_var 7) (re_fld (at_deeds S) (re_var 4))))))) (rss_one (rs_ret re_bl)) rss_nil)
  (rss_one (rs_if (rt_cmp op_lt ok_lt (re_var 7) (re_callB (cr_maxX c.calm c.u65) ok_maxX (by rfl) (g_max S) bt_max (ra_cons (re_lc (own := [("_law_event", 12), ("_law_one", 13)]) c (ri_seq (re_var 5)) (blk_of rfl) (fun s0 H0 C0 cl0 fp0 => (rgo_tup (c.blk s0 H0 C0 cl0 fp0).calm (rgos_cons (rgo_name (c.blk s0 H0 C0 cl0 fp0).nd 12 rfl (.inl rfl) (.inr rfl) (by decide)) (rgos_cons (rgo_name (c.blk s0 H0 C0 cl0 fp0).nd 13 rfl (.inl rfl) (.inr rfl) (by decide)) rgos_nil rfl) rfl) rfl rfl)) (fun s0 H0 C0 cl0 fp0 => (rts_one (rt_cmp op_le ok_le (re_var 12) (re_var 8) rfl))) (fun s0 H0 C0 cl0 fp0 => (re_var 13))) ra_nil)) rfl) (rss_one (rs_ret re_bl)) rss_nil))))))))))
  (rss_one (rs_ret re_bl))))))))
theorem lawfd (S : Sys K mg) : ∃ fd, FunD K d_law.name d_law.qual d_law.params d_law.body d_law.scope (d_law.dvs K) (d_law.kws K) (He.fAd K d_law.at_) fd := S.says.def_ 26 (d := d_law) rfl
theorem law_b {fd : FuncData} (F : FunD K d_law.name d_law.qual d_law.params d_law.body d_law.scope (d_law.dvs K) (d_law.kws K) (He.fAd K d_law.at_) fd) (s : Shared) (v : Value) : BindsTo s fd ⟨[v], []⟩ [("_law_script", v)] := FunD.bindsA (ps := ["_law_script"]) F (fun _ _ _ _ _ _ us hl => match us, hl with | [_], _ => rfl) s [v] rfl
abbrev N_Store_disk : List PySem.Str := ["self"]
abbrev P_Store_disk : List PySem.Str := ["self"]
noncomputable def b_Store_disk : Sx :=
  (sRet (eF (cl F_disk_after []) (aCons (eF (fFld [1] 5) (aCons (eVar 0) aNil)) (aCons (eF mkTup aNil) (aCons (eC (.int 0)) aNil)))))
noncomputable def F_Store_disk : Fn := runDef 1 1 b_Store_disk
theorem sc_Store_disk : FnScope N_Store_disk P_Store_disk (defScope s_Store_disk) := ⟨rfl, rfl, rfl, by decide +kernel, rfl, by decide +kernel, by decide +kernel⟩
theorem ok_Store_disk_1 (S : Sys K mg) : ∃ ds, Vals ([] : List V) ds ∧ DefOk P w K mg base 5 (He.fAd K d_Store_disk.at_) P_Store_disk ds 1 F_Store_disk := by
  obtain ⟨ds_disk_after_3, hd_disk_after_3, G_disk_after_3⟩ := ok_disk_after_3 (P := P) (w := w) (base := base) S
  obtain ⟨fd, F⟩ := S.says.def_ 35 (d := d_Store_disk) rfl
  obtain ⟨ds, hd, hB⟩ : ∃ ds, Vals ([] : List V) ds ∧ Binds K fd P_Store_disk ds := ⟨[], .nil, F.bindsN fun _ _ _ _ _ _ us hl => match us, hl with | [_], _ => rfl⟩
  have S2 : FnScope N_Store_disk P_Store_disk d_Store_disk.scope := sc_Store_disk
  have q := def_ok (P := P) (w := w) (mg := mg) (base := base) (k := 4) (b := b_Store_disk) F S2 hB
  refine ⟨ds, hd, q fun cdv A outer s H E c => ?_⟩
  exact (rss_one (rs_ret (re_call (G_disk_after_3.mono (by decide : 4 ≤ 4)) c Asks.run (by rfl) (g_disk_after S) hd_disk_after_3 (fun _ _ _ => .nil) (ra_cons (re_fld (at_device S) (re_var 0)) (ra_cons (re_tup ra_nil) (ra_cons re_int ra_nil))))))
end
end Lw
set_option Elab.async false
set_option linter.all false
set_option maxRecDepth 100000
set_option maxHeartbeats 4000000
/-! What every law draws with (own work). -/
namespace Lw
open PySem DL
theorem atD_of {ds : List D} {i : Int} {d : D} (h0 : 0 ≤ i) (h : ds[i.toNat]? = some d) : atD ds i = some d := by
  have hl := (List.getElem?_eq_some_iff.mp h).1
  unfold atD ixD
  rw [if_pos h0, if_pos (by omega)]
  exact h
theorem number_sat {A : AH} {i : Nat} {ns : List Int} {x : Int} (hA : A[i]? = some (.rol (ns.map D.int))) (hx : 0 ≤ x) : (F_L_number [.ref i, .int x] A).sat fun d B => (∃ v, d = .int v) ∧ B = A := by
  have hi : i < A.length := (List.getElem?_eq_some_iff.mp hA).1
  refine sat_def rfl ?_
  have e0 : seqAt (A ++ [.lst []]) i = some (ns.map D.int) := by
    simp [List.getElem?_append_left hi, hA]
  have e1 : seqAt (A ++ [.lst []]) A.length = some [] := by simp
  have q : opEq [.ref i, .ref A.length] (A ++ [.lst []]) = .ok (.bl (eqDs (ns.map D.int) [])) (A ++ [.lst []]) := opEq_lst e0 e1 (purs_ints 58 ns) (by simp)
  have g : ∀ d : D, d.bd A.length = true → gc A d (A ++ [.lst []]) = .ok d A := fun d h => gc_app _ h
  have nd : isDicO (A ++ [O.lst []])[i]? = false := by rw [List.getElem?_append_left hi, hA]; rfl
  simp only [b_L_number, startE]
  simp [line, q, tooWide, nd]
  cases ns with
  | nil =>
    simp [eqDs, PyData.eqvAll, tooWide]
    rw [g _ (by simp)]
    simp
  | cons n ns =>
    have en : eqDs ((n :: ns).map D.int) [] = false := by simp [eqDs, PyData.eqvAll]
    have hlen : (((n :: ns).length : Nat) : Int) ≠ 0 := by simp; omega
    have h1 : (A ++ [O.lst []])[i]? = some (.rol ((n :: ns).map D.int)) := by rw [List.getElem?_append_left hi]; exact hA
    obtain ⟨c, hc⟩ : ∃ c, atD ((n :: ns).map D.int) (x.fmod ((n :: ns).length : Nat)) = some (.int c) := by
      have p1 : 0 ≤ x.fmod ((n :: ns).length : Nat) := Int.fmod_nonneg_of_pos x (by simp)
      have p2 : x.fmod ((n :: ns).length : Nat) < ((n :: ns).length : Nat) := Int.fmod_lt_of_pos x (by simp)
      obtain ⟨c, hc⟩ : ∃ c, (n :: ns)[(x.fmod ((n :: ns).length : Nat)).toNat]? = some c := ⟨_, List.getElem?_eq_getElem (by omega)⟩
      exact ⟨c, atD_of p1 (by rw [List.getElem?_map, hc]; rfl)⟩
    simp only [en]
    have z1 : ¬ ((ns.length : Int) + 1 = 0) := by omega
    have hc' : atD (D.int n :: ns.map D.int) (x.fmod ((ns.length : Int) + 1)) = some (.int c) := by simpa using hc
    simp [h1, z1, hc', tooWide]
    refine ⟨fun _ => ?_, fun _ => ?_⟩
    · rw [g _ (by simp)]
      simp
    · rw [g _ (by simp)]
      simp
structure Drw (ns : List Int) (A : AH) : Prop where
  s : A[0]? = some (.rol (ns.map D.int))
  d : ∃ n : Int, 0 ≤ n ∧ A[1]? = some (.lst [.ref 0, .int n])
/-- one more number was drawn -/
def Nx1 (A B : AH) : Prop := ∃ n : Int, 0 ≤ n ∧ B = A.set 1 (.lst [.ref 0, .int n])
theorem Drw.lt {ns : List Int} {A : AH} (h : Drw ns A) : 1 < A.length := by
  obtain ⟨n, _, e⟩ := h.d
  exact (List.getElem?_eq_some_iff.mp e).1
theorem Drw.nx {ns : List Int} {A B : AH} (h : Drw ns A) (x : Nx1 A B) : Drw ns B := by
  obtain ⟨n, h0, rfl⟩ := x
  exact ⟨by rw [List.getElem?_set_ne (by decide)]; exact h.s, n, h0, List.getElem?_set_self h.lt⟩
theorem Nx1.len {A B : AH} (x : Nx1 A B) : B.length = A.length := by
  obtain ⟨n, h0, rfl⟩ := x
  simp
theorem Nx1.get {A B : AH} (x : Nx1 A B) {j : Nat} (h : j ≠ 1) : B[j]? = A[j]? := by
  obtain ⟨n, h0, rfl⟩ := x
  exact List.getElem?_set_ne (Ne.symm h)
theorem Drw.app {ns : List Int} {A : AH} (h : Drw ns A) (G : AH) : Drw ns (A ++ G) := by
  have l := h.lt
  obtain ⟨n, h0, e⟩ := h.d
  exact ⟨by rw [List.getElem?_append_left (by omega)]; exact h.s, n, h0, by rw [List.getElem?_append_left l]; exact e⟩
theorem Drw.set {ns : List Int} {A : AH} (h : Drw ns A) {j : Nat} (o : O) (hj : 2 ≤ j) : Drw ns (A.set j o) := by
  obtain ⟨n, h0, e⟩ := h.d
  exact ⟨by rw [List.getElem?_set_ne (by omega)]; exact h.s, n, h0, by rw [List.getElem?_set_ne (by omega)]; exact e⟩
theorem take_sat {ns : List Int} {A : AH} {m : Int} (h : Drw ns A) (hm : 0 < m) : (F_L_take [.ref 1, .int m] A).sat fun d B => (∃ v, d = .int v ∧ 0 ≤ v ∧ v < m) ∧ Nx1 A B := by
  obtain ⟨n, h0, e⟩ := h.d
  have l := h.lt
  refine sat_def rfl ?_
  simp only [b_L_take, startE]
  have i1 : ixD 2 1 = some 1 := by decide
  have i0 : ixD 2 0 = some 0 := by decide
  have a1 : atD [D.ref 0, D.int n] 1 = some (.int n) := rfl
  have b1 : atD [D.ref 0, D.int (n + 1)] 1 = some (.int (n + 1)) := rfl
  have b0 : atD [D.ref 0, D.int (n + 1)] 0 = some (.ref 0) := rfl
  simp [e, a1, i1, List.getElem?_set_self l, b1, b0]
  have hs : (A.set 1 (.lst [.ref 0, .int (n + 1)]))[0]? = some (.rol (ns.map D.int)) := by rw [List.getElem?_set_ne (by decide)]; exact h.s
  refine (number_sat hs (by omega)).mono fun d B ⟨⟨v, hv⟩, hB⟩ => ?_
  subst hv hB
  have mz : m ≠ 0 := by omega
  simp [mz]
  rw [gc_set (by simp) l (by simp [O.bd]; omega)]
  exact ⟨⟨_, rfl, Int.fmod_nonneg_of_pos _ hm, Int.fmod_lt_of_pos _ hm⟩, n + 1, by omega, rfl⟩
/-- a drawn item of a list -/
theorem pick_sat {ns : List Int} {A : AH} {j : Nat} {ds : List D} (h : Drw ns A) (hj : A[j]? = some (.lst ds)) (h1 : j ≠ 1) (hd : ds ≠ []) (hb : bdAll A.length ds = true) : (F_L_pick [.ref 1, .ref j] A).sat fun d B => d ∈ ds ∧ Nx1 A B := by
  refine sat_def rfl ?_
  have l := h.lt
  simp only [b_L_pick, startE]
  simp [hj]
  refine (take_sat h (by have := List.length_pos_iff.mpr hd; omega)).mono fun d B ⟨⟨v, hv, v0, v1⟩, x⟩ => ?_
  subst hv
  have hj2 : B[j]? = some (.lst ds) := (x.get h1).trans hj
  obtain ⟨d, hd⟩ : ∃ d, ds[v.toNat]? = some d := ⟨_, List.getElem?_eq_getElem (by omega)⟩
  simp [hj2, atD_of v0 hd]
  have dm : d ∈ ds := List.mem_of_getElem? hd
  obtain ⟨n, h0, rfl⟩ := x
  rw [gc_set ((bdAll_iff _ _).mp hb d dm) l (by simp [O.bd]; omega)]
  exact ⟨dm, n, h0, rfl⟩
end Lw
set_option Elab.async false
set_option linter.all false
set_option maxRecDepth 100000
set_option maxHeartbeats 4000000
/-! Log plates (own work). -/
namespace Lw
open PySem DL
def isInt : D → Bool
  | .int _ => true
  | _ => false
/-- a value that is int, bool or text -/
def scal : D → Bool
  | .int _ => true
  | .bl _ => true
  | .str x => PyData.canLay0 (.str x)
  | _ => false
def iAt (ds : List D) (k : Nat) : Int := match ds[k]? with
  | some (.int i) => i
  | _ => 0
def isLog : D → Bool
  | .tup ds => decide (ds.length = 12) && ds.all isInt && (decide (0 ≤ iAt ds 1) && decide (iAt ds 1 < iAt ds 2) && decide (0 ≤ iAt ds 0) && decide (0 ≤ iAt ds 3))
  | _ => false
/-- what stands in a row -/
def PV (A : AH) (v : D) : Prop := v = .non ∨ (∃ ds, v = .tup ds ∧ ds.all scal = true ∧ ds.length ≤ 12) ∨ (∃ i ds, v = .ref i ∧ A[i]? = some (.lst ds) ∧ ds.all scal = true ∧ ds.length ≤ 12) ∨ ∃ x, v = .str x ∧ PyData.canLay0 (.str x) = true
theorem is_whole1 (d : D) (h : scal d = true) (B : AH) : F_is_whole [d, .non, .non] B = .ok (.bl (isInt d)) B := by
  refine sat_eq (sat_def rfl ?_)
  simp only [b_is_whole, startE]
  cases d <;> simp [scal] at h <;> simp [isInt, Ty.ofI, Ty.ofB, Ty.ofS]
theorem is_below_ok (i m : Int) (B : AH) : F_is_below [.int i, .int m] B = .ok (.bl (decide (0 ≤ i) && decide (i ≤ m - 1))) B := by
  refine sat_eq (sat_def rfl ?_)
  simp [b_is_below, startE, cl]
  have : F_is_whole [.int i, .int 0, .int (m - 1)] B = .ok (.bl (decide (0 ≤ i) && decide (i ≤ m - 1))) B := by
    refine sat_eq (sat_def rfl ?_)
    simp only [b_is_whole, startE]
    by_cases h : 0 ≤ i <;> simp [Ty.ofI, Ty.ofB, h]
  simp [this]
theorem slot_plate_ok (s i : Int) (h : s ≠ 0) (B : AH) : F_slot_plate [.int s, .int i] B = .ok (.int (2 + i.fmod s)) B := by
  refine sat_eq (sat_def rfl ?_)
  simp [b_slot_plate, startE, h]
theorem int_of {d : D} (h : isInt d = true) : ∃ i, d = .int i := by
  cases d <;> simp [isInt] at h
  exact ⟨_, rfl⟩
theorem ints12 {ds : List D} (hl : ds.length = 12) (h : ds.all isInt = true) : ∃ a b c d e f g i j k l m : Int, ds = [.int a, .int b, .int c, .int d, .int e, .int f, .int g, .int i, .int j, .int k, .int l, .int m] := by
  match ds, hl with
  | [a, b, c, d, e, f, g, i, j, k, l, m], _ =>
    simp at h
    obtain ⟨ha, hb, hc, hd, he, hf, hg, hi, hj, hk, hL, hm⟩ := h
    obtain ⟨_, rfl⟩ := int_of ha
    obtain ⟨_, rfl⟩ := int_of hb
    obtain ⟨_, rfl⟩ := int_of hc
    obtain ⟨_, rfl⟩ := int_of hd
    obtain ⟨_, rfl⟩ := int_of he
    obtain ⟨_, rfl⟩ := int_of hf
    obtain ⟨_, rfl⟩ := int_of hg
    obtain ⟨_, rfl⟩ := int_of hi
    obtain ⟨_, rfl⟩ := int_of hj
    obtain ⟨_, rfl⟩ := int_of hk
    obtain ⟨_, rfl⟩ := int_of hL
    obtain ⟨_, rfl⟩ := int_of hm
    exact ⟨_, _, _, _, _, _, _, _, _, _, _, _, rfl⟩
theorem bls_map (f : D → Bool) (ds : List D) : blsOf (ds.map fun d => .bl (f d)) = some (ds.map f) := by
  unfold blsOf
  rw [List.map_map, show (D.bl? ∘ fun d => D.bl (f d)) = fun d => some (f d) from rfl, show (ds.map fun d => some (f d)) = (ds.map f).map some by rw [List.map_map]; rfl, allSome_some]
theorem all_map (f : D → Bool) (ds : List D) : (ds.map f).all id = ds.all f := by rw [List.all_map]; rfl
theorem atD12 (a b c d e f g i j k l m : D) : atD [a, b, c, d, e, f, g, i, j, k, l, m] 0 = some a ∧ atD [a, b, c, d, e, f, g, i, j, k, l, m] 1 = some b ∧ atD [a, b, c, d, e, f, g, i, j, k, l, m] 2 = some c ∧ atD [a, b, c, d, e, f, g, i, j, k, l, m] 3 = some d := ⟨rfl, rfl, rfl, rfl⟩
theorem is_log_plate_ok {A : AH} {v : D} (h : PV A v) : F_is_log_plate [v] A = .ok (.bl (isLog v)) A := by
  refine sat_eq (sat_def rfl ?_)
  simp only [b_is_log_plate, startE]
  rcases h with rfl | ⟨ds, rfl, hs, hl⟩ | ⟨i, ds, rfl, hi, hs, hl⟩ | ⟨x, rfl, hx⟩
  · simp [isLog]
  · by_cases h12 : ds.length = 12
    · have q := lc_map (src := .seq ds) (g := gName 1) (e := eF (cl F_is_whole [.non, .non]) (aCons (eVar 1) aNil)) (E := [some (D.tup ds), none]) (A := A) (ds := ds) (fun d => [some (D.tup ds), some d]) (fun d => .bl (isInt d)) (by simp [line]; omega) rfl (fun _ _ => rfl) (fun d _ G => rfl)
        (fun d hd G => by simp [cl, is_whole1 d (List.all_eq_true.mp hs d hd)])
      simp [Ty.ofT, h12, q, bls_map, all_map]
      by_cases ha : ds.all isInt = true
      · obtain ⟨a, b, c, d, e, f, g, i, j, k, l, m, rfl⟩ := ints12 h12 ha
        obtain ⟨t0, t1, t2, t3⟩ := atD12 (.int a) (.int b) (.int c) (.int d) (.int e) (.int f) (.int g) (.int i) (.int j) (.int k) (.int l) (.int m)
        simp [isInt, t0, t1, t2, t3, gc_app, isLog, iAt]
        by_cases p1 : 0 ≤ b <;> by_cases p2 : b < c <;> by_cases p3 : 0 ≤ a <;> simp [p1, p2, p3, gc_app] <;> omega
      · have e2 : ds.all isInt = false := by simpa using ha
        have e3 : ¬ ∀ x ∈ ds, isInt x = true := by simpa using ha
        simp [e3, gc_app, isLog, h12, e2]
    · have e : ¬ ((ds.length : Int) = 12) := by omega
      simp [Ty.ofT, isLog, h12, e]
  · simp [isLog, hi, Ty.ofL]
  · simp [isLog, Ty.ofS]

def isCells : D → Bool
  | .tup ds => decide (ds.length = 8) && ds.all isInt
  | _ => false
theorem is_cells_ok {A : AH} {v : D} (h : PV A v) : F_is_cells [v] A = .ok (.bl (isCells v)) A := by
  refine sat_eq (sat_def rfl ?_)
  simp only [b_is_cells, startE]
  rcases h with rfl | ⟨ds, rfl, hs, hl⟩ | ⟨i, ds, rfl, hi, hs, hl⟩ | ⟨x, rfl, hx⟩
  · simp [isCells]
  · by_cases h8 : ds.length = 8
    · have q := lc_map (src := .seq ds) (g := gName 1) (e := eF (cl F_is_whole [.non, .non]) (aCons (eVar 1) aNil)) (E := [some (D.tup ds), none]) (A := A) (ds := ds) (fun d => [some (D.tup ds), some d]) (fun d => .bl (isInt d)) (by simp [line]; omega) rfl (fun _ _ => rfl) (fun d _ G => rfl)
        (fun d hd G => by simp [cl, is_whole1 d (List.all_eq_true.mp hs d hd)])
      simp [Ty.ofT, h8, q, bls_map, all_map, gc_app, isCells]
    · have e : ¬ ((ds.length : Int) = 8) := by omega
      simp [Ty.ofT, isCells, h8, e]
  · simp [isCells, hi, Ty.ofL]
  · simp [isCells, Ty.ofS]
theorem head_plate_ok (n : Int) (B : AH) : F_head_plate [.int n] B = .ok (.int (n.fmod 2)) B := by
  refine sat_eq (sat_def rfl ?_)
  simp [b_head_plate, startE]
theorem home_plate_ok (s p : Int) (B : AH) : F_home_plate [.int s, .int p] B = .ok (.int (2 + s + p)) B := by
  refine sat_eq (sat_def rfl ?_)
  simp [b_home_plate, startE]
def isHead (p : Int) : D → Bool
  | .tup ds => decide (ds.length = 3) && ds.all isInt && (decide (0 ≤ iAt ds 0) && decide (0 ≤ iAt ds 1) && decide (0 ≤ iAt ds 2) && decide ((iAt ds 0).fmod 2 = p))
  | _ => false
theorem ints3 {ds : List D} (hl : ds.length = 3) (h : ds.all isInt = true) : ∃ a b c : Int, ds = [.int a, .int b, .int c] := by
  match ds, hl with
  | [a, b, c], _ =>
    simp at h
    obtain ⟨ha, hb, hc⟩ := h
    obtain ⟨_, rfl⟩ := int_of ha
    obtain ⟨_, rfl⟩ := int_of hb
    obtain ⟨_, rfl⟩ := int_of hc
    exact ⟨_, _, _, rfl⟩
theorem is_head_ok {A : AH} {v : D} (p : Int) (h : PV A v) : F_is_head [.int p, v] A = .ok (.bl (isHead p v)) A := by
  refine sat_eq (sat_def rfl ?_)
  simp only [b_is_head, startE]
  rcases h with rfl | ⟨ds, rfl, hs, hl⟩ | ⟨i, ds, rfl, hi, hs, hl⟩ | ⟨x, rfl, hx⟩
  · simp [isHead]
  · by_cases h3 : ds.length = 3
    · have q := lc_map (src := .seq ds) (g := gName 2) (e := eF (cl F_is_whole [.non, .non]) (aCons (eVar 2) aNil)) (E := [some (D.int p), some (D.tup ds), none]) (A := A) (ds := ds) (fun d => [some (D.int p), some (D.tup ds), some d]) (fun d => .bl (isInt d)) (by simp [line]; omega) rfl (fun _ _ => rfl) (fun d _ G => rfl)
        (fun d hd G => by simp [cl, is_whole1 d (List.all_eq_true.mp hs d hd)])
      simp [Ty.ofT, h3, q, bls_map, all_map]
      by_cases ha : ds.all isInt = true
      · obtain ⟨a, b, c, rfl⟩ := ints3 h3 ha
        have t0 : atD [D.int a, .int b, .int c] 0 = some (.int a) := rfl
        have i3 : intsOf [D.int a, .int b, .int c] = some [a, b, c] := rfl
        have em : minI a [b, c] = min (min a b) c := rfl
        simp [isInt, t0, i3, em, gc_app, isHead, iAt, cl, head_plate_ok]
        by_cases p1 : 0 ≤ a <;> by_cases p2 : 0 ≤ b <;> by_cases p3 : 0 ≤ c <;> simp [p1, p2, p3, gc_app] <;> omega
      · have e2 : ds.all isInt = false := by simpa using ha
        have e3 : ¬ ∀ x ∈ ds, isInt x = true := by simpa using ha
        simp [e3, gc_app, isHead, h3, e2]
    · have e : ¬ ((ds.length : Int) = 3) := by omega
      simp [Ty.ofT, isHead, h3, e]
  · simp [isHead, hi, Ty.ofL]
  · simp [isHead, Ty.ofS]
end Lw
set_option Elab.async false
set_option linter.all false
set_option maxRecDepth 100000
set_option maxHeartbeats 4000000
/-! The disk (own work). -/
namespace Lw
open PySem DL
theorem scal_bd {n : Nat} {d : D} (h : scal d = true) : d.bd n = true := by cases d <;> simp [scal] at h <;> simp
theorem scals_bd {n : Nat} {ds : List D} (h : ds.all scal = true) : bdAll n ds = true := (bdAll_iff n ds).mpr fun d hd => scal_bd (List.all_eq_true.mp h d hd)
theorem scal_pur {n : Nat} {d : D} (h : scal d = true) : d.pur (n + 1) = true := by cases d <;> simp [scal] at h <;> simp [D.pur, h]
theorem scals_pur {n : Nat} {ds : List D} (h : ds.all scal = true) : purs (n + 1) ds = true := (purs_iff _ ds).mpr fun d hd => scal_pur (List.all_eq_true.mp h d hd)
theorem PV.bd {A : AH} {v : D} (h : PV A v) : v.bd A.length = true := by
  rcases h with rfl | ⟨ds, rfl, hs, _⟩ | ⟨i, ds, rfl, hi, _⟩ | ⟨x, rfl, _⟩
  · simp
  · simp [scals_bd hs]
  · simp [(List.getElem?_eq_some_iff.mp hi).1]
  · simp
theorem PV.py {A : AH} {v : D} (h : PV A v) : ∃ p, toPy A 59 v = some p := by
  rcases h with rfl | ⟨ds, rfl, hs, _⟩ | ⟨i, ds, rfl, hi, hs, _⟩ | ⟨x, rfl, hx⟩
  · exact ⟨_, toPy_pur (by simp)⟩
  · exact ⟨_, toPy_pur (by rw [pur_tup]; exact scals_pur hs)⟩
  · exact ⟨_, toPy_lst (by simp [hi]) (scals_pur hs)⟩
  · exact ⟨_, toPy_pur (by simp [D.pur, hx])⟩
theorem PV.app {A : AH} {v : D} (h : PV A v) (G : AH) : PV (A ++ G) v := by
  rcases h with rfl | h | ⟨i, ds, rfl, hi, hs⟩ | h
  · exact .inl rfl
  · exact .inr (.inl h)
  · exact .inr (.inr (.inl ⟨i, ds, rfl, get_left hi, hs⟩))
  · exact .inr (.inr (.inr h))
/-- no list is changed -/
def LstKeep (A B : AH) : Prop := ∀ (i : Nat) (ds : List D), A[i]? = some (O.lst ds) → B[i]? = some (O.lst ds)
theorem PV.keep {A B : AH} {v : D} (h : PV A v) (k : LstKeep A B) : PV B v := by
  rcases h with rfl | h | ⟨i, ds, rfl, hi, hs⟩ | h
  · exact .inl rfl
  · exact .inr (.inl h)
  · exact .inr (.inr (.inl ⟨i, ds, rfl, k i ds hi, hs⟩))
  · exact .inr (.inr (.inr h))
theorem LstKeep.set {A : AH} {d : Nat} {o o' : O} (h : A[d]? = some o) (ho : ∀ ds, o ≠ .lst ds) : LstKeep A (A.set d o') := fun i ds e => by
  have : d ≠ i := fun z => by
    subst z
    rw [h] at e
    cases e
    exact ho ds rfl
  rw [List.getElem?_set_ne this]
  exact e
theorem LstKeep.app (A G : AH) : LstKeep A (A ++ G) := fun i ds e => get_left e
theorem LstKeep.trans {A B C : AH} (h : LstKeep A B) (k : LstKeep B C) : LstKeep A C := fun i ds e => k i ds (h i ds e)
theorem LstKeep.refl (A : AH) : LstKeep A A := fun _ _ e => e
theorem allSome_ex {α β : Type} {f : α → Option β} : ∀ {l : List α}, (∀ a ∈ l, ∃ b, f a = some b) → ∃ r, allSome (l.map f) = some r ∧ (r = [] ↔ l = [])
  | [], _ => ⟨[], rfl, by simp⟩
  | a :: l, h => by
    obtain ⟨b, hb⟩ := h a (by simp)
    obtain ⟨r, hr, _⟩ := allSome_ex (f := f) (l := l) fun c hc => h c (List.mem_cons_of_mem _ hc)
    exact ⟨b :: r, by simp [allSome, hb, hr], by simp⟩
theorem opNe_nil {A : AH} {i j : Nat} {ds : List D} (e : seqAt A i = some ds) (f : seqAt A j = some []) (h : ∀ d ∈ ds, ∃ p, toPy A 59 d = some p) : opNe [.ref i, .ref j] A = .ok (.bl (!ds.isEmpty)) A := by
  obtain ⟨r, hr, hn⟩ := allSome_ex h
  show eqO A not (toPy A 60 _) (toPy A 60 _) = _
  have q1 : toPy A 60 (.ref i) = some (.list r) := by
    simp only [toPy, e, hr, Option.map_some]
  rw [q1, toPy_lst (ds := []) f (by simp)]
  cases ds with
  | nil => rw [hn.mpr rfl]; simp [eqO, PyData.eqv, PyData.eqvAll]
  | cons d ds => cases r with
    | nil => simp at hn
    | cons p r => simp [eqO, PyData.eqv, PyData.eqvAll]
theorem opEq_nil {A : AH} {i j : Nat} {ds : List D} (e : seqAt A i = some ds) (f : seqAt A j = some []) (h : ∀ d ∈ ds, ∃ p, toPy A 59 d = some p) : opEq [.ref i, .ref j] A = .ok (.bl ds.isEmpty) A := by
  obtain ⟨r, hr, hn⟩ := allSome_ex h
  show eqO A id (toPy A 60 _) (toPy A 60 _) = _
  have q1 : toPy A 60 (.ref i) = some (.list r) := by
    simp only [toPy, e, hr, Option.map_some]
  rw [q1, toPy_lst (ds := []) f (by simp)]
  cases ds with
  | nil => rw [hn.mpr rfl]; simp [eqO, PyData.eqv, PyData.eqvAll]
  | cons d ds => cases r with
    | nil => simp at hn
    | cons p r => simp [eqO, PyData.eqv, PyData.eqvAll]
/-! ### what a disk is -/
structure Dk where
  st : List D
  lo : List (Int × D)
def prD (p : Int × D) : D := .tup [.int p.1, p.2]
def dkO (k : Dk) : O := .ins 0 [(0, .tup k.st), (1, .tup (k.lo.map prD))]
structure DkG (A : AH) (k : Dk) : Prop where
  st : ∀ v ∈ k.st, PV A v
  lo : ∀ q ∈ k.lo, 0 ≤ q.1 ∧ q.1 < k.st.length ∧ PV A q.2
  few : k.lo.length ≤ 1000000
  len : k.st.length ≤ 1000
theorem DkG.keep {A B : AH} {k : Dk} (h : DkG A k) (e : LstKeep A B) : DkG B k := ⟨fun v hv => (h.st v hv).keep e, fun q hq => ⟨(h.lo q hq).1, (h.lo q hq).2.1, (h.lo q hq).2.2.keep e⟩, h.few, h.len⟩
theorem prs_bd {A : AH} {lo : List (Int × D)} (h : ∀ q ∈ lo, PV A q.2) : bdAll A.length (lo.map prD) = true := (bdAll_iff _ _).mpr fun d hd => by
  obtain ⟨q, hq, rfl⟩ := List.mem_map.mp hd
  simp [prD, (h q hq).bd]
theorem sts_bd {A : AH} {st : List D} (h : ∀ v ∈ st, PV A v) : bdAll A.length st = true := (bdAll_iff _ _).mpr fun d hd => (h d hd).bd
theorem DkG.bd {A : AH} {k : Dk} (h : DkG A k) : (dkO k).bd A.length = true := by
  have h1 := sts_bd h.st
  have h2 := prs_bd fun q hq => (h.lo q hq).2.2
  simp [dkO, O.bd, h1, h2]
def Dk.write (k : Dk) (p : Int) (v : D) : Dk := ⟨k.st, k.lo ++ [(p, v)]⟩
def setAll (st : List D) (lo : List (Int × D)) : List D := lo.foldl (fun st q => st.set q.1.toNat q.2) st
def Dk.barrier (k : Dk) : Dk := ⟨setAll k.st k.lo, []⟩
def loAt (lo : List (Int × D)) (p : Int) : List D := (lo.filter fun q => decide (q.1 = p)).map (·.2)
def stAt (st : List D) (p : Int) : D := (st[p.toNat]?).getD .non
def Dk.now (k : Dk) (p : Int) : D := ((loAt k.lo p).getLast?).getD (stAt k.st p)
theorem stAt_at {st : List D} {p : Int} (h0 : 0 ≤ p) (h1 : p < st.length) : atD st p = some (stAt st p) := by
  refine atD_of h0 ?_
  unfold stAt
  rw [List.getElem?_eq_getElem (by omega)]
  rfl
theorem stAt_mem {st : List D} {p : Int} (h0 : 0 ≤ p) (h1 : p < st.length) : stAt st p ∈ st := by
  unfold stAt
  rw [List.getElem?_eq_getElem (by omega)]
  exact List.getElem_mem _
theorem loAt_mem {lo : List (Int × D)} {p : Int} {v : D} (h : v ∈ loAt lo p) : ∃ q ∈ lo, q.2 = v ∧ q.1 = p := by
  obtain ⟨q, hq, rfl⟩ := List.mem_map.mp h
  obtain ⟨h1, h2⟩ := List.mem_filter.mp hq
  exact ⟨q, h1, rfl, by simpa using h2⟩
theorem loAt_len (lo : List (Int × D)) (p : Int) : (loAt lo p).length ≤ lo.length := by
  unfold loAt
  rw [List.length_map]
  exact List.length_filter_le _ _
def isP (pl : Int) : D → Bool
  | .tup [.int x, _] => decide (x = pl)
  | _ => false
def snd : D → D
  | .tup [_, y] => y
  | _ => .non
theorem fm_prs (pl : Int) : ∀ prs : List (Int × D), ((prs.map prD).filter (isP pl)).map snd = loAt prs pl
  | [] => rfl
  | p :: prs => by
    unfold loAt
    rw [List.map_cons, List.filter_cons, List.filter_cons]
    have e : isP pl (prD p) = decide (p.1 = pl) := rfl
    rw [e]
    have ih := fm_prs pl prs
    unfold loAt at ih
    by_cases h : p.1 = pl
    · simp [h, ih]
      rfl
    · simp [h, ih]
theorem getLast_at {vs : List D} (h : vs ≠ []) : atD vs (-1) = vs.getLast? := by
  have hl := List.length_pos_iff.mpr h
  unfold atD ixD
  rw [if_neg (by decide), if_pos (by omega)]
  show vs[((-1 : Int) + vs.length).toNat]? = _
  rw [List.getLast?_eq_getElem?]
  congr 1
  omega
def edN (a b : D) : D → DL.Env
  | .tup [x, y] => [some a, some b, none, some x, some y]
  | _ => []
theorem now_ok {A : AH} {d : Nat} {k : Dk} (h : A[d]? = some (dkO k)) (g : DkG A k) {pl : Int} (h0 : 0 ≤ pl) (h1 : pl < k.st.length) : F_Disk_now [.ref d, .int pl] A = .ok (k.now pl) A := by
  refine sat_eq (sat_def rfl ?_)
  simp only [b_Disk_now, startE]
  have q := lc_fm (src := .seq (k.lo.map prD)) (g := gTup 2 (gCons (gName 3) (gCons (gName 4) gNil))) (t := tB (eF opEqX (aCons (eVar 3) (aCons (eVar 1) aNil)))) (e := eVar 4) (E := [some (D.ref d), some (D.int pl), none, none, none]) (A := A) (ds := k.lo.map prD) (edN (.ref d) (.int pl)) (isP pl) snd
    (by have := g.few; simp [line]; omega) rfl (fun _ _ => rfl)
    (fun d hd G => by
      obtain ⟨p, _, rfl⟩ := List.mem_map.mp hd
      rfl)
    (fun d hd G => by
      obtain ⟨p, _, rfl⟩ := List.mem_map.mp hd
      simp [prD, edN, isP])
    (fun d hd _ G => by
      obtain ⟨p, _, rfl⟩ := List.mem_map.mp hd
      rfl)
  rw [fm_prs] at q
  have h' : A[d]? = some (.ins 0 [(0, .tup k.st), (1, .tup (k.lo.map prD))]) := h
  have ib : (decide (0 ≤ pl) && decide (pl ≤ (k.st.length : Int) - 1)) = true := by simp; omega
  have pv : ∀ v ∈ loAt k.lo pl, PV A v := fun v hv => by
    obtain ⟨q, hq, rfl, _⟩ := loAt_mem hv
    exact (g.lo q hq).2.2
  have c : opNe [.ref A.length, .ref (A.length + 1)] (A ++ [.lst (loAt k.lo pl), .lst []]) = .ok (.bl (!(loAt k.lo pl).isEmpty)) (A ++ [.lst (loAt k.lo pl), .lst []]) :=
    opNe_nil (ds := loAt k.lo pl) (by simp) (by simp) fun v hv => ((pv v hv).app _).py
  have hd0 : (A ++ [O.lst (loAt k.lo pl), O.lst []])[d]? = some (.ins 0 [(0, .tup k.st), (1, .tup (k.lo.map prD))]) := get_left h'
  simp [h', cl, is_below_ok, ib, q, c, line]
  cases hv : loAt k.lo pl with
  | nil =>
    rw [hv] at hd0
    have e : k.now pl = stAt k.st pl := by unfold Dk.now; rw [hv]; rfl
    have bd := (g.st _ (stAt_mem h0 h1)).bd
    rw [e]
    simp [hd0, stAt_at h0 h1]
    rw [gc_app _ bd]
    simp
  | cons a b =>
    obtain ⟨v, hl⟩ : ∃ v, (a :: b).getLast? = some v := ⟨_, List.getLast?_eq_some_getLast (by simp)⟩
    have e : k.now pl = v := by unfold Dk.now; rw [hv, hl]; rfl
    have bd := (pv v (by rw [hv]; exact List.mem_of_getLast? hl)).bd
    rw [e]
    simp [getLast_at (show (a :: b) ≠ [] by simp), hl]
    rw [gc_app _ bd]
    simp
theorem set_bd {A : AH} {d : Nat} {o : O} (h : d < A.length) (ho : o.bd A.length = true) : gc A .non (A.set d o) = .ok .non (A.set d o) := gc_set (by simp) h ho
theorem DkG.wr {A : AH} {k : Dk} (g : DkG A k) {p : Int} {v : D} (h0 : 0 ≤ p) (h1 : p < k.st.length) (hv : PV A v) (hf : k.lo.length < 1000000) : DkG A (k.write p v) :=
  ⟨g.st, fun q hq => by
    rcases List.mem_append.mp hq with hq | hq
    · exact g.lo q hq
    · simp at hq
      subst hq
      exact ⟨h0, h1, hv⟩, by show (k.lo ++ [(p, v)]).length ≤ _; simp; omega, g.len⟩
theorem write_ok {A : AH} {d : Nat} {k : Dk} (h : A[d]? = some (dkO k)) (g : DkG A k) {p : Int} {v : D} (h0 : 0 ≤ p) (h1 : p < k.st.length) (hv : PV A v) (hf : k.lo.length < 1000000) : F_Disk_write [.ref d, .int p, v] A = .ok .non (A.set d (dkO (k.write p v))) := by
  refine sat_eq (sat_def rfl ?_)
  simp only [b_Disk_write, startE]
  have h' : A[d]? = some (.ins 0 [(0, .tup k.st), (1, .tup (k.lo.map prD))]) := h
  have hl := (List.getElem?_eq_some_iff.mp h).1
  have ib : (decide (0 ≤ p) && decide (p ≤ (k.st.length : Int) - 1)) = true := by simp; omega
  have bd := (g.wr h0 h1 hv hf).bd
  have e : (O.ins 0 [(0, D.tup k.st), (1, D.tup (List.map prD k.lo ++ [D.tup [D.int p, v]]))]) = dkO (k.write p v) := by simp [dkO, Dk.write, prD]
  simp [h', cl, is_below_ok, ib, line]
  refine ⟨?_, by omega⟩
  intro _
  rw [e, set_bd hl bd]
  simp
/-- list.set by pairs -/
theorem setAll_len (lo : List (Int × D)) : ∀ st : List D, (setAll st lo).length = st.length := by
  unfold setAll
  induction lo with
  | nil => intro st; rfl
  | cons q lo ih => intro st; rw [List.foldl_cons, ih, List.length_set]
theorem setAll_snoc (st : List D) (lo : List (Int × D)) (q : Int × D) : setAll st (lo ++ [q]) = (setAll st lo).set q.1.toNat q.2 := by
  unfold setAll
  rw [List.foldl_append]
  rfl
theorem setAll_mem {P : D → Prop} (lo : List (Int × D)) : ∀ {st : List D}, (∀ v ∈ st, P v) → (∀ q ∈ lo, P q.2) → ∀ v ∈ setAll st lo, P v := by
  unfold setAll
  induction lo with
  | nil => intro st h _; exact h
  | cons q lo ih =>
    intro st h hq
    refine ih (fun v hv => ?_) fun r hr => hq r (List.mem_cons_of_mem _ hr)
    rcases List.mem_or_eq_of_mem_set hv with e | e
    · exact h v e
    · rw [e]; exact hq q List.mem_cons_self
theorem ixD_of {n : Nat} {p : Int} (h0 : 0 ≤ p) (h1 : p < n) : ixD n p = some p.toNat := by
  unfold ixD
  rw [if_pos h0, if_pos h1]
theorem seq_at {ds : List D} {k : Nat} {d : D} (h : ds[k]? = some d) (A : AH) : (Src.seq ds).at A k = .item d := by
  rw [at_seq, h]
  rfl
theorem seq_end (ds : List D) (A : AH) : (Src.seq ds).at A ds.length = .stop := by
  rw [at_seq, List.getElem?_eq_none (Nat.le_refl _)]
  rfl
theorem take_snoc {α : Type} {l : List α} {k : Nat} {a : α} (h : l[k]? = some a) : l.take (k + 1) = l.take k ++ [a] := by
  rw [List.take_add_one, h]
  rfl
theorem after_barrier_ok {A : AH} {st : List D} {lo : List (Int × D)} (hst : ∀ v ∈ st, PV A v) (hlo : ∀ q ∈ lo, 0 ≤ q.1 ∧ q.1 < st.length ∧ PV A q.2) : F_after_barrier [.tup st, .tup (lo.map prD)] A = .ok (.tup (setAll st lo)) A := by
  refine sat_eq (sat_def rfl ?_)
  simp only [b_after_barrier, startE]
  have bd : bdAll A.length (setAll st lo) = true := sts_bd (setAll_mem lo hst fun q hq => (hlo q hq).2.2)
  simp [line]
  refine for_sat lo.length (fun j E B => ∃ e3 e4, E = [some (.tup st), some (.tup (lo.map prD)), some (.ref A.length), e3, e4] ∧ B = A ++ [.lst (setAll st (lo.take j))]) (by simp [Src.size]) ⟨none, none, rfl, by simp [setAll]⟩ ?_ ?_
  · rintro j E B hj ⟨e3, e4, rfl, rfl⟩
    obtain ⟨q, hq⟩ : ∃ q, lo[j]? = some q := ⟨_, List.getElem?_eq_getElem hj⟩
    obtain ⟨q0, q1, q2⟩ := hlo q (List.mem_of_getElem? hq)
    refine ⟨prD q, seq_at (by rw [List.getElem?_map, hq]; rfl) _, tsat_of ?_⟩
    simp [prD, ixD_of q0 (show q.1 < (setAll st (lo.take j)).length by rw [setAll_len]; exact q1), take_snoc hq, setAll_snoc]
  · rintro E B ⟨e3, e4, rfl, rfl⟩
    refine ⟨by rw [← List.length_map (f := prD)]; exact seq_end _ _, ?_⟩
    simp [gc_app _ (show D.bd A.length (.tup (setAll st lo)) = true by simpa using bd)]
theorem DkG.bar {A : AH} {k : Dk} (g : DkG A k) : DkG A k.barrier :=
  ⟨setAll_mem _ g.st fun q hq => (g.lo q hq).2.2, fun q hq => (by cases hq), by simp [Dk.barrier], by show (setAll _ _).length ≤ _; rw [setAll_len]; exact g.len⟩
theorem barrier_ok {A : AH} {d : Nat} {k : Dk} (h : A[d]? = some (dkO k)) (g : DkG A k) : F_Disk_barrier [.ref d] A = .ok .non (A.set d (dkO k.barrier)) := by
  refine sat_eq (sat_def rfl ?_)
  simp only [b_Disk_barrier, startE]
  have h' : A[d]? = some (.ins 0 [(0, .tup k.st), (1, .tup (k.lo.map prD))]) := h
  have hl := (List.getElem?_eq_some_iff.mp h).1
  have e : (O.ins 0 [(0, D.tup (setAll k.st k.lo)), (1, D.tup [])]) = dkO k.barrier := by simp [dkO, Dk.barrier]
  have hs : ∀ o : O, (A.set d o)[d]? = some o := fun o => List.getElem?_set_self hl
  simp [h', cl, after_barrier_ok g.st g.lo, line, hs, List.set_set]
  rw [e, set_bd hl g.bar.bd]
  simp
end Lw
set_option Elab.async false
set_option linter.all false
set_option maxRecDepth 100000
set_option maxHeartbeats 4000000
/-! Disks behind events, versions, falls, the head that is read (own work). -/
namespace Lw
open PySem DL
theorem is_below_t {i m : Int} (h0 : 0 ≤ i) (h1 : i < m) (B : AH) : F_is_below [.int i, .int m] B = .ok (.bl true) B := by
  rw [is_below_ok]
  simp [h0]
  omega
inductive Ev where
  | w (p : Int) (v : D) | b
def evD : Ev → D
  | .w p v => .tup [.str "write", .int p, v]
  | .b => .tup [.str "barrier"]
def Dk.ev (k : Dk) : Ev → Dk
  | .w p v => k.write p v
  | .b => k.barrier
def Dk.evs (k : Dk) (es : List Ev) : Dk := es.foldl Dk.ev k
def EvG (A : AH) (n : Nat) : Ev → Prop
  | .w p v => 0 ≤ p ∧ p < n ∧ PV A v
  | .b => True
theorem EvG.keep {A B : AH} {n : Nat} {e : Ev} (h : EvG A n e) (k : LstKeep A B) : EvG B n e := by
  cases e with
  | w p v => exact ⟨h.1, h.2.1, h.2.2.keep k⟩
  | b => trivial
theorem evs_snoc (k : Dk) (es : List Ev) (e : Ev) : k.evs (es ++ [e]) = (k.evs es).ev e := by
  unfold Dk.evs
  rw [List.foldl_append]
  rfl
theorem ev_st (k : Dk) (e : Ev) : (k.ev e).st.length = k.st.length := by
  cases e with
  | w p v => rfl
  | b => exact setAll_len _ _
theorem evs_st (es : List Ev) : ∀ k : Dk, (k.evs es).st.length = k.st.length := by
  unfold Dk.evs
  induction es with
  | nil => intro k; rfl
  | cons e es ih => intro k; rw [List.foldl_cons, ih, ev_st]
theorem ev_lo (k : Dk) (e : Ev) : (k.ev e).lo.length ≤ k.lo.length + 1 := by
  cases e with
  | w p v => simp [Dk.ev, Dk.write]
  | b => simp [Dk.ev, Dk.barrier]
theorem evs_lo (es : List Ev) : ∀ k : Dk, (k.evs es).lo.length ≤ k.lo.length + es.length := by
  unfold Dk.evs
  induction es with
  | nil => intro k; simp
  | cons e es ih =>
    intro k
    have h1 := ih (k.ev e)
    have h2 := ev_lo k e
    rw [List.foldl_cons, List.length_cons]
    omega
theorem DkG.ev {A : AH} {k : Dk} (g : DkG A k) {e : Ev} (h : EvG A k.st.length e) (hf : k.lo.length < 1000000) : DkG A (k.ev e) := by
  cases e with
  | w p v => exact g.wr h.1 h.2.1 h.2.2 hf
  | b => exact g.bar
theorem DkG.evs {A : AH} : ∀ {es : List Ev} {k : Dk}, DkG A k → (∀ e ∈ es, EvG A k.st.length e) → k.lo.length + es.length ≤ 1000000 → DkG A (k.evs es)
  | [], k, g, _, _ => g
  | e :: es, k, g, h, hf => by
    have hf' : k.lo.length + (es.length + 1) ≤ 1000000 := by simpa using hf
    have h1 := ev_lo k e
    exact DkG.evs (k := k.ev e) (es := es) (g.ev (h e List.mem_cons_self) (by omega)) (fun x hx => by rw [ev_st]; exact h x (List.mem_cons_of_mem _ hx)) (by omega)
theorem cutD_take (xs : List D) {m : Int} (h0 : 0 ≤ m) (h1 : m ≤ xs.length) : cutD xs none (some m) = xs.take m.toNat := by
  show (xs.drop 0).take ((if m < 0 then (m + (xs.length : Int)).toNat else min m.toNat xs.length) - 0) = _
  rw [if_neg (by omega), List.drop_zero, Nat.sub_zero, Nat.min_eq_left (by omega)]
theorem gc_last {A : AH} {d : D} {o o' : O} (h : d.bd (A.length + 1) = true) (ho : o'.bd (A.length + 1) = true) : gc (A ++ [o]) d (A ++ [o']) = .ok d (A ++ [o']) := by
  have q := gc_set (A := A ++ [o]) (d := d) (i := A.length) (o := o') (by simpa using h) (by simp) (by simpa using ho)
  rwa [set_last] at q
theorem rep_tup (n : Nat) : rep (n : Int) [D.tup []] = List.replicate n (D.tup []) := by
  unfold rep
  rw [Int.toNat_natCast]
  induction n with
  | zero => rfl
  | succ n ih => rw [List.replicate_succ, List.replicate_succ, List.flatten_cons, ih]; rfl
theorem gc_new0 {A : AH} {o : O} (m : o.mut = true) (h : o.bd A.length = true) : gc A (.ref A.length) (A ++ [o]) = .ok (.ref A.length) (A ++ [o]) :=
  gc_new (G := [o]) (j := 0) rfl m h
theorem disk_init_ok {A : AH} {n : Nat} (h2 : 2 ≤ n) (h3 : n ≤ 1000) : F_Disk_init [.ref A.length, .int n] (A ++ [.ins 0 []]) = .ok .non (A ++ [dkO ⟨List.replicate n (.tup []), []⟩]) := by
  refine sat_eq (sat_def rfl ?_)
  simp only [b_Disk_init, startE]
  have hb : ∀ m : Nat, bdAll m (List.replicate n (D.tup [])) = true := fun m => (bdAll_iff _ _).mpr fun d hd => by rw [List.eq_of_mem_replicate hd]; simp
  have c1 : (2 : Int) ≤ n := by omega
  have c2 : (n : Int) ≤ 1000 := by omega
  simp [line, ev_mulT, c1, c2, rep_tup]
  rw [gc_last (by simp) (by simp [O.bd, hb])]
  simp [dkO]
theorem new_disk_ok {A : AH} {n : Nat} (h2 : 2 ≤ n) (h3 : n ≤ 1000) : mkIns 0 (cl F_Disk_init []) [.int n] A = .ok (.ref A.length) (A ++ [dkO ⟨List.replicate n (.tup []), []⟩]) := by
  simp [cl, disk_init_ok h2 h3]
theorem dk_eq (k : Dk) : (O.ins 0 [(0, D.tup k.st), (1, D.tup (k.lo.map prD))]) = dkO k := rfl
theorem disk_after_ok {A : AH} {d : Nat} {k : Dk} (h : A[d]? = some (dkO k)) (g : DkG A k) (h2 : 2 ≤ k.st.length) {es : List Ev} (he : ∀ e ∈ es, EvG A k.st.length e) (hf : k.lo.length + es.length ≤ 1000000) {m : Int} (m0 : 0 ≤ m) (m1 : m ≤ es.length) :
    F_disk_after [.ref d, .tup (es.map evD), .int m] A = .ok (.ref A.length) (A ++ [dkO (k.evs (es.take m.toNat))]) := by
  refine sat_eq (sat_def rfl ?_)
  simp only [b_disk_after, startE]
  have h' : A[d]? = some (.ins 0 [(0, .tup k.st), (1, .tup (k.lo.map prD))]) := h
  have hd : ∀ G : AH, (A ++ G)[d]? = some (.ins 0 [(0, .tup k.st), (1, .tup (k.lo.map prD))]) := fun G => get_left h'
  have ib : ∀ B, F_is_below [.int m, .int ((es.length : Int) + 1)] B = .ok (.bl true) B := fun B => is_below_t m0 (by omega) B
  have nd := new_disk_ok (A := A) h2 g.len
  have hlen := g.len
  have hl := (List.getElem?_eq_some_iff.mp h).1
  have nd' : F_Disk_init [.ref A.length, .int k.st.length] (A ++ [.ins 0 []]) = .ok .non (A ++ [.ins 0 [(0, .tup (List.replicate k.st.length (.tup []))), (1, .tup [])]]) := disk_init_ok h2 g.len
  simp [h', hd, cl, ib, nd']
  have c : cutD (es.map evD) none (some m) = (es.take m.toNat).map evD := by rw [cutD_take _ m0 (by simpa using m1), List.map_take]
  rw [c]
  have gall : ∀ j, DkG A (k.evs ((es.take m.toNat).take j)) := fun j => by
    rw [List.take_take]
    have hlt : (es.take (min j m.toNat)).length ≤ es.length := by rw [List.length_take]; omega
    exact g.evs (fun e hx => he e (List.mem_of_mem_take hx)) (by omega)
  have hlo : ∀ j, j < (es.take m.toNat).length → (k.evs ((es.take m.toNat).take j)).lo.length < 1000000 := fun j hj => by
    have h1 := evs_lo ((es.take m.toNat).take j) k
    have h3 : (es.take m.toNat).length ≤ es.length := by rw [List.length_take]; omega
    have h4 : ((es.take m.toNat).take j).length = j := by rw [List.length_take]; omega
    omega
  refine for_sat (es.take m.toNat).length (fun j E B => ∃ e4, E = [some (.ref d), some (.tup (es.map evD)), some (.int m), some (.ref A.length), e4] ∧ B = A ++ [dkO (k.evs ((es.take m.toNat).take j))]) (by simp [Src.size]) ⟨none, rfl, by simp [Dk.evs, dkO]⟩ ?_ ?_
  · rintro j E B hj ⟨e4, rfl, rfl⟩
    obtain ⟨e, hq⟩ : ∃ e, (es.take m.toNat)[j]? = some e := ⟨_, List.getElem?_eq_getElem hj⟩
    have hev := he e (List.mem_of_mem_take (List.mem_of_getElem? hq))
    refine ⟨evD e, seq_at (by rw [List.getElem?_map, hq]; rfl) _, tsat_of ?_⟩
    have gk : LstKeep A (A ++ [dkO (k.evs ((es.take m.toNat).take j))]) := LstKeep.app _ _
    have hi : isIns 0 (A ++ [dkO (k.evs ((es.take m.toNat).take j))]) (.ref A.length) = true := by simp [isIns, dkO]
    have hg : (A ++ [dkO (k.evs ((es.take m.toNat).take j))])[A.length]? = some (dkO (k.evs ((es.take m.toNat).take j))) := by simp
    rw [take_snoc hq, evs_snoc]
    cases e with
    | b =>
      have q1 := barrier_ok hg ((gall j).keep gk)
      have ns : eqD (.str "barrier") (.str "barrier") = true := by simp
      have t0 : atD [D.str "barrier"] 0 = some (.str "barrier") := rfl
      have qe : ∀ B : AH, opEq [.str "barrier", .str "barrier"] B = .ok (.bl true) B := fun B => by rw [opEq_pur (by decide +kernel) (by decide +kernel), ns]
      simp [evD, t0, qe, hi, cl, q1, Dk.ev]
    | w p v =>
      have q1 := write_ok hg ((gall j).keep gk) (p := p) (v := v) hev.1 (by rw [evs_st]; exact hev.2.1) (hev.2.2.keep gk) (hlo j hj)
      have ns : eqD (.str "write") (.str "barrier") = false := by decide
      have t0 : atD [D.str "write", .int p, v] 0 = some (.str "write") := rfl
      have t1 : atD [D.str "write", .int p, v] 1 = some (.int p) := rfl
      have t2 : atD [D.str "write", .int p, v] 2 = some v := rfl
      have qe : ∀ B : AH, opEq [.str "write", .str "barrier"] B = .ok (.bl false) B := fun B => by rw [opEq_pur (by decide +kernel) (by decide +kernel), ns]
      simp [evD, t0, t1, t2, qe, hi, cl, q1, Dk.ev]
  · rintro E B ⟨e4, rfl, rfl⟩
    refine ⟨by rw [← List.length_map (f := evD)]; exact seq_end _ _, ?_⟩
    have gd := gall (es.take m.toNat).length
    rw [List.take_length] at gd
    have bd := gd.bd
    rw [List.take_length]
    simp
    rw [gc_new0 rfl bd]
    simp
end Lw
set_option Elab.async false
set_option linter.all false
set_option maxRecDepth 100000
set_option maxHeartbeats 4000000
/-! Versions, falls, the head that is read (own work). -/
namespace Lw
open PySem DL
def versL (st : List D) (lo : List (Int × D)) (p : Int) : List D := stAt st p :: (loAt lo p ++ if (loAt lo p).isEmpty then [] else [.non])
def Dk.vers (k : Dk) (p : Int) : List D := versL k.st k.lo p
def edV (a b c : D) : D → DL.Env
  | .tup [x, y] => [some a, some b, some c, none, some x, some y]
  | _ => []
theorem versions_of_ok {A : AH} {st : List D} {lo : List (Int × D)} (hst : ∀ v ∈ st, PV A v) (hlo : ∀ q ∈ lo, PV A q.2) (hf : lo.length ≤ 1000000) {p : Int} (h0 : 0 ≤ p) (h1 : p < st.length) : F_versions_of [.tup st, .tup (lo.map prD), .int p] A = .ok (.tup (versL st lo p)) A := by
  refine sat_eq (sat_def rfl ?_)
  simp only [b_versions_of, startE]
  have q := lc_fm (src := .seq (lo.map prD)) (g := gTup 2 (gCons (gName 4) (gCons (gName 5) gNil))) (t := tB (eF opEqX (aCons (eVar 4) (aCons (eVar 2) aNil)))) (e := eVar 5) (E := [some (D.tup st), some (D.tup (lo.map prD)), some (D.int p), none, none, none]) (A := A ++ [.lst [stAt st p]]) (ds := lo.map prD) (edV (.tup st) (.tup (lo.map prD)) (.int p)) (isP p) snd
    (by simp [line]; omega) rfl (fun _ _ => rfl)
    (fun d hd G => by
      obtain ⟨p, _, rfl⟩ := List.mem_map.mp hd
      rfl)
    (fun d hd G => by
      obtain ⟨p, _, rfl⟩ := List.mem_map.mp hd
      simp [prD, edV, isP])
    (fun d hd _ G => by
      obtain ⟨p, _, rfl⟩ := List.mem_map.mp hd
      rfl)
  rw [fm_prs] at q
  have e0 := stAt_at h0 h1
  have hll := loAt_len lo p
  have bd0 := (hst _ (stAt_mem h0 h1)).bd
  have bd : bdAll A.length (loAt lo p) = true := (bdAll_iff _ _).mpr fun v hv => by
    obtain ⟨q, hq, rfl, _⟩ := loAt_mem hv
    exact (hlo q hq).bd
  simp [e0, line, q]
  cases hv : loAt lo p with
  | nil =>
    simp [hv, versL, line]
    rw [gc_app _ (by simp [bd0])]
    simp
  | cons a b =>
    have : ¬ ((b.length : Int) + 1 + 1 = 1) := by omega
    rw [hv] at bd hll
    simp at bd hll
    simp [hv, versL, line, this]
    refine ⟨fun _ => ⟨fun _ => ?_, by omega⟩, by omega⟩
    rw [gc_app _ (by simp [bd0, bd, (bdAll_iff _ _), List.mem_append]; intro d hd; rcases hd with hd | hd; exact (bdAll_iff _ _).mp bd.2 d hd; rw [hd]; simp)]
    simp
theorem versions_ok {A : AH} {d : Nat} {k : Dk} (h : A[d]? = some (dkO k)) (g : DkG A k) {p : Int} (h0 : 0 ≤ p) (h1 : p < k.st.length) : F_Disk_versions [.ref d, .int p] A = .ok (.tup (k.vers p)) A := by
  refine sat_eq (sat_def rfl ?_)
  simp only [b_Disk_versions, startE]
  have h' : A[d]? = some (.ins 0 [(0, .tup k.st), (1, .tup (k.lo.map prD))]) := h
  have q := versions_of_ok g.st (fun q hq => (g.lo q hq).2.2) g.few h0 h1
  have bd : bdAll A.length (versL k.st k.lo p) = true := (bdAll_iff _ _).mpr fun v hv => by
    rcases List.mem_cons.mp hv with e | e
    · rw [e]; exact (g.st _ (stAt_mem h0 h1)).bd
    · rcases List.mem_append.mp e with e | e
      · obtain ⟨q, hq, rfl, _⟩ := loAt_mem e
        exact (g.lo q hq).2.2.bd
      · split at e
        · cases e
        · simp at e; rw [e]; simp
  simp [h', cl, is_below_t h0 h1, q, bd, Dk.vers]
/-- what a number chooses -/
def chOk (k : Dk) (q : Int × Int) : Prop := 0 ≤ q.1 ∧ q.1 < k.st.length ∧ ((q.2 = -1 ∧ loAt k.lo q.1 ≠ []) ∨ (0 ≤ q.2 ∧ q.2 ≤ (loAt k.lo q.1).length))
def Dk.ch (k : Dk) (p n : Int) : D := if n = -1 then .non else ((stAt k.st p :: loAt k.lo p)[n.toNat]?).getD .non
theorem ch_PV {A : AH} {k : Dk} (g : DkG A k) {q : Int × Int} (c : chOk k q) : PV A (k.ch q.1 q.2) := by
  unfold Dk.ch
  split
  · exact .inl rfl
  · obtain ⟨h0, h1, h2⟩ := c
    rcases h2 with ⟨h2, _⟩ | ⟨h2, h3⟩
    · contradiction
    · obtain ⟨x, hx⟩ : ∃ x, (stAt k.st q.1 :: loAt k.lo q.1)[q.2.toNat]? = some x := ⟨_, List.getElem?_eq_getElem (by simp; omega)⟩
      rw [hx]
      show PV A x
      rcases List.mem_cons.mp (List.mem_of_getElem? hx) with e | e
      · rw [e]; exact g.st _ (stAt_mem h0 h1)
      · obtain ⟨r, hr, e2, _⟩ := loAt_mem e
        rw [← e2]; exact (g.lo r hr).2.2
theorem chosen_ok {A : AH} {d : Nat} {k : Dk} (h : A[d]? = some (dkO k)) (g : DkG A k) {p n : Int} (c : chOk k (p, n)) : F_Disk_chosen [.ref d, .int p, .int n] A = .ok (k.ch p n) A := by
  have bd := (ch_PV g c).bd
  obtain ⟨h0, h1, h2⟩ := c
  replace h0 : 0 ≤ p := h0
  replace h1 : p < k.st.length := h1
  replace h2 : (n = -1 ∧ loAt k.lo p ≠ []) ∨ (0 ≤ n ∧ n ≤ (loAt k.lo p).length) := h2
  refine sat_eq (sat_def rfl ?_)
  simp only [b_Disk_chosen, startE]
  have h' : A[d]? = some (.ins 0 [(0, .tup k.st), (1, .tup (k.lo.map prD))]) := h
  have q := versions_of_ok g.st (fun q hq => (g.lo q hq).2.2) g.few h0 h1
  have wh : ∀ B, F_is_whole [.int n, .non, .non] B = .ok (.bl true) B := fun B => is_whole1 (.int n) rfl B
  simp [h', cl, is_below_t h0 h1, wh, q]
  rcases h2 with ⟨rfl, hne⟩ | ⟨hn0, hn1⟩
  · have e : (loAt k.lo p).isEmpty = false := by cases hv : loAt k.lo p <;> simp_all
    have hl : 0 < (loAt k.lo p).length := List.length_pos_iff.mpr hne
    simp [versL, e, hl, Dk.ch]
    omega
  · have hn : ¬ n = -1 := by omega
    have hl : (if ((versL k.st k.lo p).length : Int) - 1 > 1 then ((versL k.st k.lo p).length : Int) - 1 else 1) = (loAt k.lo p).length + 1 := by
      unfold versL
      cases hv : loAt k.lo p with
      | nil => simp
      | cons a b => simp; omega
    have hget : atD (versL k.st k.lo p) n = some (k.ch p n) := by
      refine atD_of hn0 ?_
      unfold Dk.ch versL
      rw [if_neg hn, ← List.cons_append, List.getElem?_append_left (by simp; omega), List.getElem?_eq_getElem (by simp; omega)]
      rfl
    simp only [gt_iff_lt] at hl
    simp [hn, hn0, hl, show n < (loAt k.lo p).length + 1 by omega, hget]
    rw [gc_self bd]
    simp
end Lw
set_option Elab.async false
set_option linter.all false
set_option maxRecDepth 100000
set_option maxHeartbeats 4000000
/-! Falls, the head that is read (own work). -/
namespace Lw
open PySem DL
theorem set_back {A : AH} {c : Nat} {o o' : O} (h : A[c]? = some o) : (A.set c o').set c o = A := by
  rw [List.set_set]
  apply List.ext_getElem?
  intro j
  by_cases z : c = j
  · subst z
    rw [List.getElem?_set_self (List.getElem?_eq_some_iff.mp h).1, h]
  · rw [List.getElem?_set_ne z]
/-- the pairs of a choice -/
def chD (q : Int × Int) : D × D := (.int q.1, .int q.2)
def Dk.fall (k : Dk) (cs : List (Int × Int)) : Dk := ⟨cs.foldl (fun st q => st.set q.1.toNat (k.ch q.1 q.2)) k.st, []⟩
theorem fall_eq (k : Dk) (cs : List (Int × Int)) : (k.fall cs).st = setAll k.st (cs.map fun q => (q.1, k.ch q.1 q.2)) := by
  unfold Dk.fall setAll
  rw [List.foldl_map]
theorem DkG.fall {A : AH} {k : Dk} (g : DkG A k) {cs : List (Int × Int)} (c : ∀ q ∈ cs, chOk k q) : DkG A (k.fall cs) :=
  ⟨by
    rw [fall_eq]
    refine setAll_mem _ g.st fun q hq => ?_
    obtain ⟨r, hr, rfl⟩ := List.mem_map.mp hq
    exact ch_PV g (c r hr), fun q hq => (by cases hq), by simp [Dk.fall], by rw [fall_eq, setAll_len]; exact g.len⟩
theorem fallen_ok {A : AH} {d c : Nat} {k : Dk} {cs : List (Int × Int)} (h : A[d]? = some (dkO k)) (g : DkG A k) (hc : A[c]? = some (.dic (cs.map chD))) (h2 : 2 ≤ k.st.length) (ok : ∀ q ∈ cs, chOk k q) : F_Disk_fallen [.ref d, .ref c] A = .ok (.ref A.length) (A ++ [dkO (k.fall cs)]) := by
  refine sat_eq (sat_def rfl ?_)
  simp only [b_Disk_fallen, startE]
  have h' : A[d]? = some (.ins 0 [(0, .tup k.st), (1, .tup (k.lo.map prD))]) := h
  have hd : ∀ G : AH, (A ++ G)[d]? = some (.ins 0 [(0, .tup k.st), (1, .tup (k.lo.map prD))]) := fun G => get_left h'
  have hc' : ∀ G : AH, (A ++ G)[c]? = some (.dic (cs.map chD)) := fun G => get_left hc
  have hcl := (List.getElem?_eq_some_iff.mp hc).1
  have ne : c ≠ d := fun z => by subst z; rw [h] at hc; cases hc
  have nd' : F_Disk_init [.ref A.length, .int k.st.length] (A ++ [.ins 0 []]) = .ok .non (A ++ [O.ins 0 [(0, .tup (List.replicate k.st.length (.tup []))), (1, .tup [])]]) := disk_init_ok h2 g.len
  simp [h', hd, cl, nd', hc']
  refine forD_sat (hc' _) (by simp [pairsOf]) ?_
  refine for_sat cs.length (fun j E B => ∃ e4 e5 e6, E = [some (.ref d), some (.ref c), some (.ref A.length), some (.ref (A.length + 1)), e4, e5, e6] ∧ B = (A.set c (.fro (cs.map chD))) ++ [O.ins 0 [(0, .tup (List.replicate k.st.length (.tup []))), (1, .tup [])], O.lst (k.fall (cs.take j)).st]) (by simp [Src.size, pairsOf]) ⟨none, none, none, rfl, by
    simp [Dk.fall, List.set_append_left _ _ hcl]⟩ ?_ ?_
  · rintro j E B hj ⟨e4, e5, e6, rfl, rfl⟩
    obtain ⟨q, hq⟩ : ∃ q, cs[j]? = some q := ⟨_, List.getElem?_eq_getElem hj⟩
    have okq := ok q (List.mem_of_getElem? hq)
    refine ⟨.tup [.int q.1, .int q.2], seq_at (by unfold pairsOf; rw [List.map_map, List.getElem?_map, hq]; rfl) _, tsat_of ?_⟩
    have lk : LstKeep A (A.set c (.fro (cs.map chD)) ++ [O.ins 0 [(0, .tup (List.replicate k.st.length (.tup []))), (1, .tup [])], O.lst (k.fall (cs.take j)).st]) := (LstKeep.set hc (by intro _ z; cases z)).trans (LstKeep.app _ _)
    have hdB : (A.set c (.fro (cs.map chD)) ++ [O.ins 0 [(0, .tup (List.replicate k.st.length (.tup []))), (1, .tup [])], O.lst (k.fall (cs.take j)).st])[d]? = some (dkO k) := get_left (by rw [List.getElem?_set_ne ne]; exact h)
    have q1 := chosen_ok hdB (g.keep lk) okq
    have hi : isIns 0 (A.set c (.fro (cs.map chD)) ++ [O.ins 0 [(0, .tup (List.replicate k.st.length (.tup []))), (1, .tup [])], O.lst (k.fall (cs.take j)).st]) (.ref d) = true := isIns_of hdB
    have hL : (A.set c (.fro (cs.map chD)) ++ [O.ins 0 [(0, .tup (List.replicate k.st.length (.tup []))), (1, .tup [])], O.lst (k.fall (cs.take j)).st])[A.length + 1]? = some (.lst (k.fall (cs.take j)).st) := by
      rw [List.getElem?_append_right (by simp), List.length_set, show A.length + 1 - A.length = 1 by omega]
      rfl
    have hlen : (k.fall (cs.take j)).st.length = k.st.length := by rw [fall_eq, setAll_len]
    have e1 : (k.fall (cs.take (j + 1))).st = (k.fall (cs.take j)).st.set q.1.toNat (k.ch q.1 q.2) := by
      rw [take_snoc hq]
      unfold Dk.fall
      rw [List.foldl_append]
      rfl
    have hs : ∀ o : O, (A.set c (.fro (cs.map chD)) ++ [O.ins 0 [(0, .tup (List.replicate k.st.length (.tup []))), (1, .tup [])], O.lst (k.fall (cs.take j)).st]).set (A.length + 1) o = A.set c (.fro (cs.map chD)) ++ [O.ins 0 [(0, .tup (List.replicate k.st.length (.tup []))), (1, .tup [])], o] := fun o => by
      rw [List.set_append_right _ _ (by simp), List.length_set, show A.length + 1 - A.length = 1 by omega]
      rfl
    simp [cl, hi, q1, hL, ixD_of okq.1 (show q.1 < (k.fall (cs.take j)).st.length by rw [hlen]; exact okq.2.1), hs, e1]
  · rintro E B ⟨e4, e5, e6, rfl, rfl⟩
    refine ⟨by rw [← List.length_map (f := fun q : Int × Int => D.tup [D.int q.1, D.int q.2])]; exact (by unfold pairsOf; rw [List.map_map]; exact seq_end _ _), cs.map chD, get_left (by rw [List.getElem?_set_self hcl]), ?_⟩
    have bd := (g.fall ok).bd
    have e : (O.ins 0 [(0, D.tup (k.fall cs).st), (1, D.tup [])]) = dkO (k.fall cs) := rfl
    rw [List.set_append_left _ _ (by simpa using hcl), set_back hc, List.take_length]
    simp
    have e2 : A ++ [O.ins 0 [(0, D.tup (k.fall cs).st), (1, D.tup [])], O.lst (k.fall cs).st] = A ++ ([dkO (k.fall cs)] ++ [O.lst (k.fall cs).st]) := by rw [e]; rfl
    have q := gc_new (A := A) (G := [dkO (k.fall cs)] ++ [O.lst (k.fall cs).st]) (j := 0) rfl rfl bd
    rw [e2]
    simp only [Nat.add_zero] at q
    rw [q]
    simp
end Lw
set_option Elab.async false
set_option linter.all false
set_option maxRecDepth 100000
set_option maxHeartbeats 4000000
/-! Groups of the log (own work). -/
namespace Lw
open PySem DL
def grpL (f : Int → D) (slot group m : Int) : Nat → Nat → List D → D
  | _, 0, found => .tup found
  | at_, n + 1, found => match f (slot + at_) with
    | .tup ds => if (isLog (.tup ds) && (decide (iAt ds 0 = group) && decide (iAt ds 1 = at_) && decide (iAt ds 2 = m))) = true then grpL f slot group m (at_ + 1) n (found ++ [.tup [.int (iAt ds 3), .tup (ds.drop 4)]]) else .non
    | _ => .non
def grpD (f : Int → D) (s slot group : Int) : D := match f slot with
  | .tup ds => if (isLog (.tup ds) && (decide (iAt ds 0 = group) && decide (iAt ds 1 = 0) && decide (iAt ds 2 ≤ s))) = true then grpL f slot group (iAt ds 2) 0 (iAt ds 2).toNat [] else .non
  | _ => .non
/-- a change -/
def chg (d : D) : Prop := ∃ (i : Int) (js : List Int), d = .tup [.int i, .tup (js.map D.int)]
theorem chg_bd {n : Nat} {d : D} (h : chg d) : d.bd n = true := by
  obtain ⟨i, js, rfl⟩ := h
  simp [(bdAll_iff n _).mpr]
theorem chg_pur {n : Nat} {d : D} (h : chg d) : d.pur (n + 3) = true := by
  obtain ⟨i, js, rfl⟩ := h
  simp [purs_ints]
theorem chg_nob {d : D} (h : chg d) : d.nob = true := by
  obtain ⟨i, js, rfl⟩ := h
  simp [nobs_ints]
theorem isLog_form {v : D} (h : isLog v = true) : ∃ a b c d e f g i j k l m : Int, v = .tup [.int a, .int b, .int c, .int d, .int e, .int f, .int g, .int i, .int j, .int k, .int l, .int m] ∧ 0 ≤ b ∧ b < c := by
  cases v with
  | tup ds =>
    simp only [isLog, Bool.and_eq_true, decide_eq_true_eq] at h
    obtain ⟨⟨h1, h2⟩, ⟨⟨h3, h4⟩, h5⟩, h6⟩ := h
    obtain ⟨a, b, c, d, e, f, g, i, j, k, l, m, rfl⟩ := ints12 h1 h2
    exact ⟨a, b, c, d, e, f, g, i, j, k, l, m, rfl, h3, h4⟩
  | _ => simp [isLog] at h
/-- what a group is: none, or changes -/
def grpR (d : D) : Prop := d = .non ∨ ∃ fs, d = .tup fs ∧ (∀ x ∈ fs, chg x) ∧ 1 ≤ fs.length ∧ fs.length ≤ 1000
theorem grpL_R {f : Int → D} {slot group m : Int} : ∀ (n at_ : Nat) (found : List D), (∀ x ∈ found, chg x) → grpL f slot group m at_ n found = .non ∨ ∃ fs, grpL f slot group m at_ n found = .tup fs ∧ (∀ x ∈ fs, chg x) ∧ fs.length = found.length + n
  | 0, at_, found, h => .inr ⟨found, rfl, h, rfl⟩
  | n + 1, at_, found, h => by
    unfold grpL
    cases e : f (slot + at_) with
    | tup ds =>
      simp only []
      split
      · rename_i z
        simp only [Bool.and_eq_true] at z
        obtain ⟨a, b, c, d, e', f', g, i, j, k, l, m', q, _, _⟩ := isLog_form z.1
        cases q
        rcases grpL_R (f := f) (slot := slot) (group := group) (m := m) n (at_ + 1) (found ++ [.tup [.int d, .tup [.int e', .int f', .int g, .int i, .int j, .int k, .int l, .int m']]]) (fun x hx => by
          rcases List.mem_append.mp hx with hx | hx
          · exact h x hx
          · simp at hx; subst hx; exact ⟨d, [e', f', g, i, j, k, l, m'], rfl⟩) with q | ⟨fs, q1, q2, q3⟩
        · exact .inl q
        · exact .inr ⟨fs, q1, q2, by simp at q3; omega⟩
      · exact .inl rfl
    | _ => exact .inl rfl
theorem grpD_R {f : Int → D} {s slot group : Int} (hs : s ≤ 1000) : grpR (grpD f s slot group) := by
  unfold grpD
  cases e : f slot with
  | tup ds =>
    simp only []
    split
    · rename_i z
      simp only [Bool.and_eq_true, decide_eq_true_eq] at z
      obtain ⟨a, b, c, d, e', f', g, i, j, k, l, m', q, h1, h2⟩ := isLog_form z.1
      cases q
      have hc : c ≤ s := z.2.2
      rcases grpL_R (f := f) (slot := slot) (group := group) (m := c) c.toNat 0 [] (by simp) with q | ⟨fs, q1, q2, q3⟩
      · exact .inl q
      · exact .inr ⟨fs, q1, q2, by simp at q3; omega, by simp at q3; omega⟩
    · exact .inl rfl
  | _ => exact .inl rfl
theorem grpR_bd {n : Nat} {d : D} (h : grpR d) : d.bd n = true := by
  rcases h with rfl | ⟨fs, rfl, h, _⟩
  · simp
  · simp [(bdAll_iff n fs).mpr fun x hx => chg_bd (h x hx)]
theorem grpR_pur {n : Nat} {d : D} (h : grpR d) : d.pur (n + 4) = true := by
  rcases h with rfl | ⟨fs, rfl, h, _⟩
  · simp
  · simp [(purs_iff _ fs).mpr fun x hx => chg_pur (n := n) (h x hx)]
theorem grpR_nob {d : D} (h : grpR d) : d.nob = true := by
  rcases h with rfl | ⟨fs, rfl, h, _⟩
  · simp
  · simp [(nobs_iff fs).mpr fun x hx => chg_nob (h x hx)]
theorem upto_at {n k : Nat} (h : k < n) (A : AH) : (Src.seq (upto 0 n)).at A k = .item (.int k) := by
  rw [at_seq, upto_get, if_pos h]
  simp [stepO]
theorem upto_end {n : Nat} (A : AH) : (Src.seq (upto 0 n)).at A n = .stop := by
  rw [at_seq, upto_get, if_neg (Nat.lt_irrefl n)]
  rfl
theorem upto_size {n : Nat} (A : AH) : (Src.seq (upto 0 n)).size A = n := upto_len 0 n
theorem small_of {i : Int} (h0 : 0 ≤ i) (h : i ≤ 1000000) : small62 i = true := by
  unfold small62
  simp
  omega
theorem atd12 (a b c d e f g i j k l m : Int) : cutD [D.int a, .int b, .int c, .int d, .int e, .int f, .int g, .int i, .int j, .int k, .int l, .int m] none (some 3) = [.int a, .int b, .int c] ∧ cutD [D.int a, .int b, .int c, .int d, .int e, .int f, .int g, .int i, .int j, .int k, .int l, .int m] (some 4) none = [.int e, .int f, .int g, .int i, .int j, .int k, .int l, .int m] := ⟨rfl, rfl⟩
theorem eq3 (a b c x y z : Int) : eqD (.tup [.int a, .int b, .int c]) (.tup [.int x, .int y, .int z]) = (decide (a = x) && (decide (b = y) && decide (c = z))) := by
  simp [eqD, PyData.eqv, PyData.eqvAll]
  rfl
theorem whole_group_ok {A : AH} {dk : Nat} {s : Int} {f : Int → D} (hs0 : 0 < s) (hs : s ≤ 1000) (hins : ∀ G, isIns 0 (A ++ G) (.ref dk) = true) (hnow : ∀ G (x : Int), F_Disk_now [.ref dk, .int (2 + x.fmod s)] (A ++ G) = .ok (f x) (A ++ G))
    (hpv : ∀ x, PV A (f x)) (slot group : Int) : F_whole_group [.ref dk, .int s, .int slot, .int group] A = .ok (grpD f s slot group) A := by
  have hsz : s ≠ 0 := by omega
  have hins0 : isIns 0 A (.ref dk) = true := by simpa using hins []
  have hnow0 : ∀ x : Int, F_Disk_now [.ref dk, .int (2 + x.fmod s)] A = .ok (f x) A := fun x => by simpa using hnow [] x
  have RR := grpD_R (f := f) (slot := slot) (group := group) hs
  refine sat_eq (sat_def rfl ?_)
  simp only [b_whole_group, startE]
  simp [cl, hins0, slot_plate_ok, hsz, hnow0, is_log_plate_ok (hpv slot)]
  refine ⟨fun hL => ?_, fun hL => ?_⟩
  · have e : grpD f s slot group = .non := by
      unfold grpD
      cases q : f slot <;> simp only []
      rw [q] at hL
      rw [if_neg (by simp [hL])]
    simp [e]
  · obtain ⟨a, b, c, d, e, f', g, i, j, k', l, m, q, hb, hbc⟩ := isLog_form hL
    obtain ⟨t0, t1, t2, t3⟩ := atD12 (.int a) (.int b) (.int c) (.int d) (.int e) (.int f') (.int g) (.int i) (.int j) (.int k') (.int l) (.int m)
    have eR : grpD f s slot group = if (decide (a = group) && decide (b = 0) && decide (c ≤ s)) = true then grpL f slot group c 0 c.toNat [] else .non := by
      unfold grpD
      rw [q] at hL ⊢
      simp [hL, iAt]
    simp [q, t0, t1, t2]
    by_cases p1 : a = group
    · by_cases p2 : b = 0
      · by_cases p3 : s < c
        · simp [p1, p2, p3, eR, show ¬ c ≤ s by omega]
        · simp [p1, p2, p3, eR, show c ≤ s by omega, line, small_of (show 0 ≤ c by omega) (by omega)]
          refine for_sat c.toNat (fun k E B => ∃ (found : List D) (G : AH) (e6 e7 : Option D), E = [some (.ref dk), some (.int s), some (.int slot), some (.int group), some (.tup [.int group, .int 0, .int c, .int d, .int e, .int f', .int g, .int i, .int j, .int k', .int l, .int m]), some (.ref A.length), e6, e7] ∧ B = A ++ (.lst found :: G) ∧
            grpL f slot group c k (c.toNat - k) found = grpL f slot group c 0 c.toNat [] ∧ (∀ x ∈ found, chg x) ∧ found.length = k) (by rw [upto_size]; exact Nat.le_refl _) ⟨[], [], none, none, rfl, rfl, rfl, by simp, rfl⟩ ?_ ?_
          · rintro k E B hk ⟨found, G, e6, e7, rfl, rfl, hR, hg, hl⟩
            refine ⟨_, upto_at hk _, tsat_of ?_⟩
            have hk1 : c.toNat - k = (c.toNat - (k + 1)) + 1 := by omega
            rw [hk1] at hR
            simp [cl, hins, slot_plate_ok, hsz, hnow, is_log_plate_ok ((hpv (slot + k)).app _)]
            refine ⟨fun hL => ?_, fun hL => ?_⟩
            · have z : grpL f slot group c k ((c.toNat - (k + 1)) + 1) found = .non := by
                unfold grpL
                cases y : f (slot + k) <;> simp only []
                rw [y] at hL
                rw [if_neg (by simp [hL])]
              rw [z] at hR
              simp [gc_app]
              exact hR
            · obtain ⟨a2, b2, c2, d2, e2, f2, g2, i2, j2, k2, l2, m2, q2, hb2, hbc2⟩ := isLog_form hL
              obtain ⟨u0, u1, u2, u3⟩ := atD12 (.int a2) (.int b2) (.int c2) (.int d2) (.int e2) (.int f2) (.int g2) (.int i2) (.int j2) (.int k2) (.int l2) (.int m2)
              obtain ⟨w1, w2⟩ := atd12 a2 b2 c2 d2 e2 f2 g2 i2 j2 k2 l2 m2
              have hL2 : isLog (.tup [.int a2, .int b2, .int c2, .int d2, .int e2, .int f2, .int g2, .int i2, .int j2, .int k2, .int l2, .int m2]) = true := by rw [← q2]; exact hL
              have z : grpL f slot group c k ((c.toNat - (k + 1)) + 1) found = if (decide (a2 = group) && (decide (b2 = k) && decide (c2 = c))) = true then grpL f slot group c (k + 1) (c.toNat - (k + 1)) (found ++ [.tup [.int d2, .tup [.int e2, .int f2, .int g2, .int i2, .int j2, .int k2, .int l2, .int m2]]]) else .non := by
                rw [grpL, q2]
                simp [hL2, iAt, and_assoc]
              have hne : opNe [.tup [.int a2, .int b2, .int c2], .tup [.int group, .int k, .int c]] (A ++ .lst found :: G) = .ok (.bl (!(decide (a2 = group) && (decide (b2 = k) && decide (c2 = c))))) (A ++ .lst found :: G) := by
                rw [opNe_pur (by simp) (by simp), eq3]
              have t2' : atD [.int group, .int 0, .int c, .int d, .int e, .int f', .int g, .int i, .int j, .int k', .int l, .int m] 2 = some (.int c) := rfl
              rw [z] at hR
              simp [q2, w1, w2, u3, line, t2', hne, get_last]
              have hlen : found.length < 16777216 := by omega
              refine ⟨fun x => ?_, fun x y w => ?_⟩
              · rw [if_neg (by simp; intro x1 x2 x3; rcases x with x | x | x <;> contradiction)] at hR
                simp [gc_app]
                exact hR
              · rw [if_pos (by simp [x, y, w])] at hR
                refine ⟨fun _ => ⟨hR, fun x hx => ?_, hl⟩, hlen⟩
                rcases hx with hx | rfl
                · exact hg x hx
                · exact ⟨d2, [e2, f2, g2, i2, j2, k2, l2, m2], rfl⟩
          · rintro E B ⟨found, G, e6, e7, rfl, rfl, hR, hg, hl⟩
            refine ⟨upto_end _, ?_⟩
            rw [Nat.sub_self] at hR
            have hb : (D.tup found).bd A.length = true := by rw [bd_tup, bdAll_iff]; exact fun x hx => chg_bd (hg x hx)
            simp [gc_app (A := A) (.lst found :: G) hb]
            exact hR
      · simp [p1, p2, eR]
    · simp [p1, eR]
structure DkS (A : AH) (dk : Nat) (s : Int) (f : Int → D) : Prop where
  ins : ∀ G, isIns 0 (A ++ G) (.ref dk) = true
  now : ∀ G (x : Int), F_Disk_now [.ref dk, .int (2 + x.fmod s)] (A ++ G) = .ok (f x) (A ++ G)
  pv : ∀ x, PV A (f x)
theorem DkS.app {A : AH} {dk : Nat} {s : Int} {f : Int → D} (h : DkS A dk s f) (G : AH) : DkS (A ++ G) dk s f :=
  ⟨fun G' => by rw [List.append_assoc]; exact h.ins _, fun G' x => by rw [List.append_assoc]; exact h.now _ x, fun x => (h.pv x).app G⟩
def grps (f : Int → D) (s : Int) : Nat → Int → Int → Int → List D → D
  | 0, _, _, _, _ => .non
  | n + 1, group, slot, used, found => match grpD f s slot group with
    | .tup fs => if used + fs.length ≤ s then grps f s n (group + 1) (slot + fs.length) (used + fs.length) (found ++ [.tup [.int group, .int slot, .tup fs]]) else .tup found
    | _ => .tup found
def gch (d : D) : Prop := ∃ (g sl : Int) (fs : List D), d = .tup [.int g, .int sl, .tup fs] ∧ ∀ x ∈ fs, chg x
theorem gch_bd {n : Nat} {d : D} (h : gch d) : d.bd n = true := by
  obtain ⟨i, j, fs, rfl, h⟩ := h
  simp [(bdAll_iff n fs).mpr fun x hx => chg_bd (h x hx)]
theorem gch_pur {n : Nat} {d : D} (h : gch d) : d.pur (n + 5) = true := by
  obtain ⟨i, j, fs, rfl, h⟩ := h
  simp [(purs_iff _ fs).mpr fun x hx => chg_pur (n := n) (h x hx)]
theorem grps_G {f : Int → D} {s : Int} (hs : s ≤ 1000) : ∀ (n : Nat) (group slot used : Int) (found : List D), (∀ x ∈ found, gch x) → grps f s n group slot used found = .non ∨ ∃ fs, grps f s n group slot used found = .tup fs ∧ ∀ x ∈ fs, gch x
  | 0, _, _, _, _, _ => .inl rfl
  | n + 1, group, slot, used, found, h => by
    unfold grps
    rcases grpD_R (f := f) (slot := slot) (group := group) hs with e | ⟨fs, e, h1, _⟩
    · rw [e]
      exact .inr ⟨found, rfl, h⟩
    · rw [e]
      simp only []
      split
      · exact grps_G hs n _ _ _ _ fun x hx => by
          rcases List.mem_append.mp hx with hx | hx
          · exact h x hx
          · simp at hx
            subst hx
            exact ⟨group, slot, fs, rfl, h1⟩
      · exact .inr ⟨found, rfl, h⟩
theorem read_groups_ok {A : AH} {dk : Nat} {s : Int} {f : Int → D} (hs0 : 0 < s) (hs : s ≤ 1000) (K : DkS A dk s f) (n0 group0 slot0 : Int) : F_read_groups [.ref dk, .int s, .tup [.int n0, .int group0, .int slot0]] A = .ok (grps f s (s.toNat + 1) group0 slot0 0 []) A := by
  have wg : ∀ (G : AH) (slot group : Int), F_whole_group [.ref dk, .int s, .int slot, .int group] (A ++ G) = .ok (grpD f s slot group) (A ++ G) := fun G slot group =>
    whole_group_ok hs0 hs (K.app G).ins (K.app G).now (K.app G).pv slot group
  refine sat_eq (sat_def rfl ?_)
  simp only [b_read_groups, startE]
  simp [cl, line, wg]
  refine while_sat (s.toNat + 1) (fun m E B => ∃ (found : List D) (G : AH) (group slot used : Int), E = [some (.ref dk), some (.int s), some (.tup [.int n0, .int group0, .int slot0]), some (.int n0), some (.int group), some (.int slot), some (.ref A.length), some (.int used), some (grpD f s slot group)] ∧ B = A ++ (.lst found :: G) ∧
    grps f s m group slot used found = grps f s (s.toNat + 1) group0 slot0 0 [] ∧ (∀ x ∈ found, gch x) ∧ 0 ≤ used ∧ used ≤ s ∧ s < used + m ∧ found.length ≤ used) (by simp [fuel]; omega) ⟨[], [], group0, slot0, 0, rfl, rfl, rfl, by simp, by omega, by omega, by omega, by simp⟩ ?_
  rintro m E B ⟨found, G, group, slot, used, rfl, rfl, hR, hg, h0, h1, h2, h3⟩
  obtain ⟨j, rfl⟩ : ∃ j, m = j + 1 := ⟨m - 1, by omega⟩
  have hb : (D.tup found).bd A.length = true := by rw [bd_tup, bdAll_iff]; exact fun x hx => gch_bd (hg x hx)
  rcases grpD_R (f := f) (slot := slot) (group := group) hs with e | ⟨fs, e, k1, k2, k3⟩
  · rw [grps, e] at hR
    simp [e, get_last, gc_app (A := A) (.lst found :: G) hb]
    exact hR
  · rw [grps, e] at hR
    simp only [] at hR
    by_cases x : used + fs.length ≤ s
    · rw [if_pos x] at hR
      have hlen : found.length < 16777216 := by omega
      simp [e, get_last, x]
      refine tsat_of ?_
      simp [e, get_last, line, hlen, set_last, cl, wg]
      refine ⟨_, G, _, _, _, ⟨rfl, rfl, rfl, rfl⟩, ⟨rfl, rfl⟩, hR, fun y hy => ?_, by omega, x, by omega, by simp; omega⟩
      rcases List.mem_append.mp hy with hy | hy
      · exact hg y hy
      · simp at hy
        subst hy
        exact ⟨group, slot, fs, rfl, k1⟩
    · rw [if_neg x] at hR
      simp [e, get_last, x, gc_app (A := A) (.lst found :: G) hb]
      exact hR
end Lw
set_option Elab.async false
set_option linter.all false
set_option maxRecDepth 100000
set_option maxHeartbeats 4000000
/-! Groups of the log (own work). -/
namespace Lw
open PySem DL
/-- a row's value -/
def rowAt (row : List D) (x : Int) : D := (row[(x.fmod row.length).toNat]?).getD .non
theorem rowAt_at {row : List D} (h : row ≠ []) (x : Int) : atD row (x.fmod row.length) = some (rowAt row x) := by
  have hl : 0 < row.length := List.length_pos_iff.mpr h
  have p1 : 0 ≤ x.fmod row.length := Int.fmod_nonneg_of_pos x (by omega)
  have p2 : x.fmod row.length < row.length := Int.fmod_lt_of_pos x (by omega)
  refine atD_of p1 ?_
  unfold rowAt
  rw [List.getElem?_eq_getElem (by omega)]
  rfl
def i0D : D → Int
  | .tup ds => iAt ds 0
  | _ => 0
def seenI (row : List D) : List Int := (row.filter isLog).map i0D
theorem maxI_eq {a b : Int} {xs ys : List Int} (h1 : ∀ z, (z = a ∨ z ∈ xs) ↔ (z = b ∨ z ∈ ys)) : maxI a xs = maxI b ys := by
  have p := maxI_ge a xs
  have q := maxI_ge b ys
  have r1 : maxI a xs ≤ maxI b ys := by
    rcases (h1 _).mp (maxI_mem a xs) with e | e
    · rw [e]; exact q.1
    · exact q.2 _ e
  have r2 : maxI b ys ≤ maxI a xs := by
    rcases (h1 _).mpr (maxI_mem b ys) with e | e
    · rw [e]; exact p.1
    · exact p.2 _ e
  omega
theorem ints_map (f : D → Int) (ds : List D) : intsOf (ds.map fun d => .int (f d)) = some (ds.map f) := by
  unfold intsOf
  rw [List.map_map, show (D.int? ∘ fun d => D.int (f d)) = fun d => some (f d) from rfl, show (ds.map fun d => some (f d)) = (ds.map f).map some by rw [List.map_map]; rfl, allSome_some]
theorem log_ix {v : D} (h : isLog v = true) (A : AH) : opIx [v, .int 0] A = .ok (.int (i0D v)) A := by
  obtain ⟨a, b, c, d, e, f', g, i, j, k', l, m, rfl, _, _⟩ := isLog_form h
  rfl
def valI (f : Int → D) : D → D
  | .int x => f x
  | _ => .non
theorem upto_row2 {row : List D} : (upto 0 row.length).map (valI (rowAt row)) = row := by
  apply List.ext_getElem?
  intro i
  rw [List.getElem?_map, upto_get]
  by_cases h : i < row.length
  · rw [if_pos h]
    have hl : (0 : Int) < row.length := by omega
    have e : ((0 + (i : Int)).fmod row.length).toNat = i := by
      rw [Int.zero_add, Int.fmod_eq_of_lt (by omega) (by omega)]
      omega
    show some (rowAt row (0 + i)) = row[i]?
    unfold rowAt
    rw [e, List.getElem?_eq_getElem h]
    rfl
  · rw [if_neg h, List.getElem?_eq_none (by omega)]
    rfl
theorem mem_upto {n : Nat} {d : D} (h : d ∈ upto 0 n) : ∃ x : Int, d = .int x := by
  unfold upto at h
  obtain ⟨i, _, rfl⟩ := List.mem_map.mp h
  exact ⟨_, rfl⟩
theorem last_seen_ok {A : AH} {dk : Nat} {row : List D} (s : Int) (es : s = row.length) (hs0 : row ≠ []) (hs : row.length ≤ 1000) (K : DkS A dk s (rowAt row)) (hpv : ∀ v ∈ row, PV A v) : F_last_seen [.ref dk, .int s] A = .ok (.int (maxI (-1) (seenI row))) A := by
  have hl0 : 0 < row.length := List.length_pos_iff.mpr hs0
  have hsz : ¬ (s = 0) := by omega
  generalize hR : D.int (maxI (-1) (seenI row)) = R
  refine sat_eq (sat_def rfl ?_)
  simp only [b_last_seen, startE]
  have hsn : s.toNat = row.length := by omega
  have q1 := lc_map (src := .seq (upto 0 s.toNat)) (g := gName 3) (e := eM 0 (cl F_Disk_now []) (eVar 0) (aCons (eF (cl F_slot_plate []) (aCons (eVar 1) (aCons (eVar 3) aNil))) aNil)) (E := [some (D.ref dk), some (D.int s), none, none, none]) (A := A) (ds := upto 0 s.toNat)
    (fun d => [some (D.ref dk), some (D.int s), none, some d, none]) (valI (rowAt row)) (by rw [upto_len]; simp [line]; omega) rfl (fun _ _ => rfl) (fun d _ G => rfl)
    (fun d hd G => by
      obtain ⟨x, rfl⟩ := mem_upto hd
      simp [cl, K.ins, slot_plate_ok, hsz, K.now, valI])
  rw [show (upto 0 s.toNat).map (valI (rowAt row)) = row by rw [hsn, upto_row2]] at q1
  have h2 : (A ++ [O.lst row])[A.length]? = some (.lst row) := by simp
  have q2 := lc_fm (src := .lst A.length) (g := gName 4) (t := tB (eF (cl F_is_log_plate []) (aCons (eVar 4) aNil))) (e := eF opIx (aCons (eVar 4) (aCons (eC (.int 0)) aNil))) (E := [some (D.ref dk), some (D.int s), some (D.ref A.length), none, none]) (A := A ++ [O.lst row]) (ds := row)
    (fun d => [some (D.ref dk), some (D.int s), some (D.ref A.length), none, some d]) isLog (fun d => .int (i0D d)) (by simp [line]; omega) (by rw [size_lst (ds := row)]; simp) (fun G k => by rw [at_lst (ds := row)]; simp) (fun d _ G => rfl)
    (fun d hd G => by simp [cl, is_log_plate_ok ((hpv d hd).app (O.lst row :: G))])
    (fun d hd hp G => by simp [log_ix hp])
  have i3 : intsOf (.int (-1) :: (row.filter isLog).map fun d => .int (i0D d)) = some (-1 :: seenI row) := by
    have := ints_map i0D (row.filter isLog)
    unfold intsOf at this ⊢
    rw [List.map_cons]
    show allSome (some (-1) :: _) = _
    simp only [allSome]
    rw [this]
    rfl
  have hfl : (row.filter isLog).length ≤ row.length := List.length_filter_le _ _
  simp [hsz, small_of (show (0 : Int) ≤ s by omega) (by omega), q1, q2, line, i3]
  refine ⟨?_, by omega⟩
  intro _
  subst hR
  rw [gc_app _ (by simp)]
  simp
end Lw
set_option Elab.async false
set_option linter.all false
set_option maxRecDepth 100000
set_option maxHeartbeats 4000000
/-! Changes, dicts of them (own work). -/
namespace Lw
open PySem DL
abbrev Chg := List (Int × List Int)
def cgD (q : Int × List Int) : D := .tup [.int q.1, .tup (q.2.map D.int)]
def grD (g : Int × Int × Chg) : D := .tup [.int g.1, .int g.2.1, .tup (g.2.2.map cgD)]
def lpD (g at_ m : Int) (q : Int × List Int) : D := .tup (.int g :: .int at_ :: .int m :: .int q.1 :: q.2.map D.int)
def rowsFrom (g m : Int) : Nat → Chg → List D
  | _, [] => []
  | k, q :: r => lpD g k m q :: rowsFrom g m (k + 1) r
/-! ### dicts from ints to rows of ints -/
def dicA (kvs : Chg) : List (D × D) := kvs.map fun q => (.int q.1, .tup (q.2.map D.int))
def putA (kvs : Chg) (k : Int) (v : List Int) : Chg := if (kvs.any fun q => decide (q.1 = k)) = true then kvs.map (fun q => if q.1 = k then (q.1, v) else q) else kvs ++ [(k, v)]
def getA (kvs : Chg) (k : Int) : List Int := ((kvs.find? fun q => decide (q.1 = k)).map (·.2)).getD []
theorem putF_dicA (kvs : Chg) (k : Int) (v : List Int) : putF' keyD (dicA kvs) (.int k) (.tup (v.map D.int)) = dicA (putA kvs k v) := by
  have h1 : ((dicA kvs).any fun p => keqF keyD p.1 (.int k)) = kvs.any fun q => decide (q.1 = k) := by
    unfold dicA
    rw [List.any_map]
    congr 1
    funext q
    simp
  unfold putF' putA
  rw [h1]
  split
  · unfold dicA
    rw [List.map_map, List.map_map]
    congr 1
    funext q
    simp only [Function.comp, keqF_int, decide_eq_true_eq]
    by_cases z : q.1 = k <;> simp [z]
  · unfold dicA
    rw [List.map_append]
    rfl
theorem valF_dicA (k : Int) : ∀ kvs : Chg, k ∈ kvs.map (·.1) → valF keyD (dicA kvs) (.int k) = some (.tup ((getA kvs k).map D.int))
  | [], h => by cases h
  | q :: kvs, h => by
    unfold dicA
    rw [List.map_cons, valF_cons]
    by_cases z : q.1 = k
    · simp [z, getA]
    · have h' : k ∈ kvs.map (·.1) := by
        rcases List.mem_cons.mp h with e | e
        · exact absurd e.symm z
        · exact e
      have ih := valF_dicA k kvs h'
      unfold dicA at ih
      have e2 : getA (q :: kvs) k = getA kvs k := by unfold getA; rw [List.find?_cons]; simp [z]
      simp [z, ih, e2]
theorem dicA_keys (kvs : Chg) : (dicA kvs).map (·.1) = (kvs.map (·.1)).map D.int := by
  unfold dicA
  rw [List.map_map, List.map_map]
  rfl
theorem dicA_len (kvs : Chg) : (dicA kvs).length = kvs.length := by unfold dicA; rw [List.length_map]
theorem ints_some (ns : List Int) : intsOf (ns.map D.int) = some ns := by
  unfold intsOf
  rw [List.map_map, show (D.int? ∘ D.int) = some from rfl, allSome_some]
theorem dicA_bd (n : Nat) (kvs : Chg) : (O.dic (dicA kvs)).bd n = true := by
  unfold dicA O.bd
  simp
  intro a b _
  exact (bdAll_iff n _).mpr fun d hd => by
    obtain ⟨i, _, rfl⟩ := List.mem_map.mp hd
    simp
theorem putA_len (kvs : Chg) (k : Int) (v : List Int) : (putA kvs k v).length ≤ kvs.length + 1 := by
  unfold putA
  split
  · simp
  · simp
theorem putA_keys {kvs : Chg} {k : Int} {v : List Int} {x : Int} : x ∈ (putA kvs k v).map (·.1) ↔ x ∈ kvs.map (·.1) ∨ x = k := by
  unfold putA
  by_cases z : (kvs.any fun q => decide (q.1 = k)) = true
  · rw [if_pos z, List.map_map]
    have e : ((fun q : Int × List Int => q.1) ∘ fun q => if q.1 = k then (q.1, v) else q) = fun q => q.1 := by
      funext q
      simp only [Function.comp]
      split <;> rfl
    rw [e]
    refine ⟨.inl, fun h => ?_⟩
    rcases h with h | h
    · exact h
    · rw [h]
      obtain ⟨q, hq, e⟩ := List.any_eq_true.mp z
      exact List.mem_map.mpr ⟨q, hq, by simpa using e⟩
  · rw [if_neg z, List.map_append, List.mem_append]
    simp
theorem putA_nd {kvs : Chg} {k : Int} {v : List Int} (h : (kvs.map (·.1)).Nodup) : ((putA kvs k v).map (·.1)).Nodup := by
  unfold putA
  by_cases z : (kvs.any fun q => decide (q.1 = k)) = true
  · rw [if_pos z, List.map_map]
    have e : ((fun q : Int × List Int => q.1) ∘ fun q => if q.1 = k then (q.1, v) else q) = fun q => q.1 := by
      funext q
      simp only [Function.comp]
      split <;> rfl
    rw [e]
    exact h
  · rw [if_neg z, List.map_append, List.nodup_append]
    refine ⟨h, by simp, fun a ha b hb e => ?_⟩
    simp at hb
    obtain ⟨q, hq, e2⟩ := List.mem_map.mp ha
    exact z (List.any_eq_true.mpr ⟨q, hq, by simp [e2, e, hb]⟩)
theorem nd_len : ∀ (n : Nat) (l : List Int), l.Nodup → (∀ x ∈ l, 0 ≤ x ∧ x < n) → l.length ≤ n
  | 0, l, _, h => by
    cases l with
    | nil => simp
    | cons x l => have := h x List.mem_cons_self; omega
  | n + 1, l, nd, h => by
    have h1 := nd_len n (l.erase (n : Int)) (nd.erase _) fun x hx => by
      have h2 := h x (List.mem_of_mem_erase hx)
      have h3 : x ≠ (n : Int) := fun z => by
        rw [z] at hx
        exact (List.Nodup.not_mem_erase nd) hx
      omega
    have := List.length_erase (a := (n : Int)) (l := l)
    split at this
    · omega
    · omega
def mergeA (kvs : Chg) (ch : Chg) : Chg := ch.foldl (fun acc q => putA acc q.1 q.2) kvs
theorem mergeA_nd : ∀ (ch kvs : Chg), (kvs.map (·.1)).Nodup → ((mergeA kvs ch).map (·.1)).Nodup
  | [], _, h => h
  | q :: ch, kvs, h => mergeA_nd ch (putA kvs q.1 q.2) (putA_nd h)
theorem mergeA_len : ∀ (ch kvs : Chg), (mergeA kvs ch).length ≤ kvs.length + ch.length
  | [], kvs => by simp [mergeA]
  | q :: ch, kvs => by
    have h1 := mergeA_len ch (putA kvs q.1 q.2)
    have h2 := putA_len kvs q.1 q.2
    show (mergeA (putA kvs q.1 q.2) ch).length ≤ _
    rw [List.length_cons]
    omega
def mergedG (grs : List (Int × Int × Chg)) : Chg := grs.foldl (fun acc g => mergeA acc g.2.2) []
def chSum (grs : List (Int × Int × Chg)) : Nat := (grs.map fun g => g.2.2.length).sum
theorem mergedG_snoc (grs : List (Int × Int × Chg)) (g : Int × Int × Chg) : mergedG (grs ++ [g]) = mergeA (mergedG grs) g.2.2 := by
  unfold mergedG
  rw [List.foldl_append]
  rfl
theorem mergeA_snoc (kvs ch : Chg) (q : Int × List Int) : mergeA kvs (ch ++ [q]) = putA (mergeA kvs ch) q.1 q.2 := by
  unfold mergeA
  rw [List.foldl_append]
  rfl
theorem chSum_snoc (grs : List (Int × Int × Chg)) (g : Int × Int × Chg) : chSum (grs ++ [g]) = chSum grs + g.2.2.length := by
  unfold chSum
  rw [List.map_append, List.sum_append]
  simp
theorem mergedG_len (grs : List (Int × Int × Chg)) : (mergedG grs).length ≤ chSum grs := by
  have main : ∀ (l : List (Int × Int × Chg)) (acc : Chg), (l.foldl (fun acc g => mergeA acc g.2.2) acc).length ≤ acc.length + chSum l := by
    intro l
    induction l with
    | nil => intro acc; simp [chSum]
    | cons g l ih =>
      intro acc
      have h1 := ih (mergeA acc g.2.2)
      have h2 := mergeA_len g.2.2 acc
      have e : chSum (g :: l) = g.2.2.length + chSum l := by simp [chSum]
      rw [List.foldl_cons]
      omega
  have := main grs []
  unfold mergedG
  simpa using this
theorem chSum_take (grs : List (Int × Int × Chg)) (k : Nat) : chSum (grs.take k) ≤ chSum grs := by
  unfold chSum
  conv => rhs; rw [← List.take_append_drop k grs]
  rw [List.map_append, List.sum_append]
  omega
theorem chSum_mem {grs : List (Int × Int × Chg)} {k : Nat} {g : Int × Int × Chg} (h : grs[k]? = some g) : chSum (grs.take k) + g.2.2.length ≤ chSum grs := by
  have := chSum_take grs (k + 1)
  rwa [take_snoc h, chSum_snoc] at this
theorem cg_bd (n : Nat) (ch : Chg) : bdAll n (ch.map cgD) = true := (bdAll_iff n _).mpr fun d hd => by
  obtain ⟨q, _, rfl⟩ := List.mem_map.mp hd
  simp [cgD]
  exact (bdAll_iff n _).mpr fun d hd => by
    obtain ⟨i, _, rfl⟩ := List.mem_map.mp hd
    simp
theorem merged_ok {A : AH} {grs : List (Int × Int × Chg)} (hs : chSum grs ≤ 1000000) : F_merged [.tup (grs.map grD)] A = .ok (.ref A.length) (A ++ [.dic (dicA (mergedG grs))]) := by
  refine sat_eq (sat_def rfl ?_)
  simp only [b_merged, startE]
  simp
  refine for_sat grs.length (fun j E B => ∃ e2 e3 e4 e5 e6, E = [some (.tup (grs.map grD)), some (.ref A.length), e2, e3, e4, e5, e6] ∧ B = A ++ [.dic (dicA (mergedG (grs.take j)))]) (by simp [Src.size]) ⟨none, none, none, none, none, rfl, by simp [mergedG, dicA]⟩ ?_ ?_
  · rintro j E B hj ⟨e2, e3, e4, e5, e6, rfl, rfl⟩
    obtain ⟨g, hg⟩ : ∃ g, grs[j]? = some g := ⟨_, List.getElem?_eq_getElem hj⟩
    have hb := chSum_mem hg
    have hl := mergedG_len (grs.take j)
    refine ⟨grD g, seq_at (by rw [List.getElem?_map, hg]; rfl) _, tsat_of ?_⟩
    simp [grD]
    refine for_sat g.2.2.length (fun i E B => ∃ e5 e6, E = [some (.tup (grs.map grD)), some (.ref A.length), some (.int g.1), some (.int g.2.1), some (.tup (g.2.2.map cgD)), e5, e6] ∧ B = A ++ [.dic (dicA (mergeA (mergedG (grs.take j)) (g.2.2.take i)))]) (by simp [Src.size]) ⟨e5, e6, rfl, by simp [mergeA]⟩ ?_ ?_
    · rintro i E B hi ⟨e5, e6, rfl, rfl⟩
      obtain ⟨q, hq⟩ : ∃ q, g.2.2[i]? = some q := ⟨_, List.getElem?_eq_getElem hi⟩
      refine ⟨cgD q, seq_at (by rw [List.getElem?_map, hq]; rfl) _, tsat_of ?_⟩
      have h1 := mergeA_len (g.2.2.take i) (mergedG (grs.take j))
      have h2 : (g.2.2.take i).length ≤ g.2.2.length := by rw [List.length_take]; omega
      simp [cgD, dicA_len, line, show (mergeA (mergedG (grs.take j)) (g.2.2.take i)).length < 16777216 by omega, putF_dicA, take_snoc hq, mergeA_snoc]
    · rintro E B ⟨e5, e6, rfl, rfl⟩
      refine ⟨by rw [← List.length_map (f := cgD)]; exact seq_end _ _, ?_⟩
      simp [take_snoc hg, mergedG_snoc]
  · rintro E B ⟨e2, e3, e4, e5, e6, rfl, rfl⟩
    refine ⟨by rw [← List.length_map (f := grD)]; exact seq_end _ _, ?_⟩
    rw [List.take_length]
    simp
    rw [gc_new0 rfl (dicA_bd _ _)]
    simp
/-! ### what a deed changes -/
def sortK (ch : Chg) : List Int := sortI (ch.map (·.1))
def srtA (ch : Chg) : Chg := (sortK ch).map fun k => (k, getA ch k)
theorem sortI_mem {ns : List Int} {x : Int} : x ∈ sortI ns ↔ x ∈ ns := (List.mergeSort_perm ns _).mem_iff
theorem sortI_len (ns : List Int) : (sortI ns).length = ns.length := (List.mergeSort_perm ns _).length_eq
theorem srtA_len (ch : Chg) : (srtA ch).length = ch.length := by unfold srtA sortK; rw [List.length_map, sortI_len, List.length_map]
/-- deeds as they are told -/
structure ChgG (P : Int) (ch : Chg) : Prop where
  key : ∀ q ∈ ch, 0 ≤ q.1 ∧ q.1 < P ∧ q.2.length = 8
  few : ch.length ≤ 1000
  nd : (ch.map (·.1)).Nodup
theorem getA_mem : ∀ {ch : Chg} {k : Int}, k ∈ ch.map (·.1) → (k, getA ch k) ∈ ch
  | q :: ch, k, h => by
    unfold getA
    rw [List.find?_cons]
    by_cases z : q.1 = k
    · simp [z]
      left
      rw [← z]
    · have h' : k ∈ ch.map (·.1) := by
        rcases List.mem_cons.mp h with e | e
        · exact absurd e.symm z
        · exact e
      have ih := getA_mem h'
      unfold getA at ih
      simp only [z, decide_false]
      exact List.mem_cons_of_mem _ ih
theorem is_cells_row {A : AH} (ns : List Int) (h : ns.length = 8) : F_is_cells [.tup (ns.map D.int)] A = .ok (.bl true) A := by
  have hs : (ns.map D.int).all scal = true := by rw [List.all_map]; exact List.all_eq_true.mpr fun _ _ => rfl
  rw [is_cells_ok (.inr (.inl ⟨_, rfl, hs, by simp [h]⟩))]
  have : isCells (.tup (ns.map D.int)) = true := by
    show (decide ((ns.map D.int).length = 8) && (ns.map D.int).all isInt) = true
    rw [List.all_map]
    simp [h, Function.comp_def, isInt]
  rw [this]
theorem fro_get {A : AH} {c : Nat} {o : O} (h : c < A.length) (G : AH) : (A.set c o ++ G)[c]? = some o := get_left (List.getElem?_set_self h)
theorem checked_changes_ok {A : AH} {c : Nat} {ch : Chg} {P : Int} (hc : A[c]? = some (.dic (dicA ch))) (g : ChgG P ch) : F_checked_changes [.int P, .ref c] A = .ok (.tup ((srtA ch).map cgD)) A := by
  refine sat_eq (sat_def rfl ?_)
  simp only [b_checked_changes, startE]
  have hcl := (List.getElem?_eq_some_iff.mp hc).1
  have hfew := g.few
  simp
  refine forD_sat hc (by simp [keysOf]) ?_
  refine for_sat ch.length (fun j E B => ∃ e2, E = [some (.int P), some (.ref c), e2, none] ∧ B = A.set c (.fro (dicA ch))) (by simp [Src.size, keysOf, dicA]) ⟨none, rfl, rfl⟩ ?_ ?_
  · rintro j E B hj ⟨e2, rfl, rfl⟩
    obtain ⟨q, hq⟩ : ∃ q, ch[j]? = some q := ⟨_, List.getElem?_eq_getElem hj⟩
    obtain ⟨k0, k1, k2⟩ := g.key q (List.mem_of_getElem? hq)
    refine ⟨.int q.1, seq_at (by unfold keysOf; rw [dicA_keys, List.getElem?_map, List.getElem?_map, hq]; rfl) _, tsat_of ?_⟩
    simp [cl, is_below_t k0 k1]
  · rintro E B ⟨e2, rfl, rfl⟩
    refine ⟨by rw [show ch.length = (keysOf (dicA ch)).length by unfold keysOf; rw [List.length_map, dicA_len]]; exact seq_end _ _, dicA ch, List.getElem?_set_self hcl, ?_⟩
    rw [set_back hc]
    have i1 : intsOf ((dicA ch).map (·.1)) = some (ch.map (·.1)) := by rw [dicA_keys, ints_some]
    have hc' : ∀ G : AH, (A ++ G)[c]? = some (.dic (dicA ch)) := fun G => get_left hc
    have hk : (O.lst ((dicA ch).map (·.1))) = O.lst ((dicA ch).map fun p => p.1) := rfl
    simp [hc, hc', line, i1]
    have hsl : (sortI (ch.map (·.1))).length = ch.length := by rw [sortI_len, List.length_map]
    refine for_sat ch.length (fun j E B => ∃ e2, E = [some (.int P), some (.ref c), e2, some (.ref A.length)] ∧ B = A ++ [.lst ((srtA ch).take j |>.map cgD), .lst ((dicA ch).map (·.1)), .lst ((sortI (ch.map (·.1))).map D.int)]) (by rw [size_lst (ds := (sortI (ch.map (·.1))).map D.int) (by simp)]; simp [hsl]) ⟨_, rfl, by simp⟩ ?_ ?_
    · rintro j E B hj ⟨e2, rfl, rfl⟩
      obtain ⟨k, hk⟩ : ∃ k, (sortI (ch.map (·.1)))[j]? = some k := ⟨_, List.getElem?_eq_getElem (by omega)⟩
      have hkm : k ∈ ch.map (·.1) := sortI_mem.mp (List.mem_of_getElem? hk)
      have hge := getA_mem hkm
      obtain ⟨k0, k1, k2⟩ := g.key _ hge
      refine ⟨.int k, by rw [at_lst (ds := (sortI (ch.map (·.1))).map D.int) (by simp), List.getElem?_map, hk]; rfl, tsat_of ?_⟩
      have hsr : (srtA ch)[j]? = some (k, getA ch k) := by unfold srtA sortK; rw [List.getElem?_map, hk]; rfl
      simp [hc', valF_dicA k ch hkm, cl, is_cells_row _ k2, line, take_snoc hsr, cgD]
      omega
    · rintro E B ⟨e2, rfl, rfl⟩
      refine ⟨by rw [at_lst (ds := (sortI (ch.map (·.1))).map D.int) (by simp), List.getElem?_eq_none (by simp [hsl])]; rfl, ?_⟩
      rw [List.take_of_length_le (by rw [srtA_len]; exact Nat.le_refl _)]
      simp
      rw [gc_app _ (by simpa using cg_bd A.length (srtA ch))]
      simp
end Lw
set_option Elab.async false
set_option linter.all false
set_option maxRecDepth 100000
set_option maxHeartbeats 4000000
/-! Rows of the log, homes, the head that is read (own work). -/
namespace Lw
open PySem DL
def edR (a b c : D) : D → DL.Env
  | .tup [x, .tup [y, z]] => [some a, some b, some c, some x, some y, some z]
  | _ => []
def rowOf (g m : Int) : D → D
  | .tup [x, .tup [y, .tup cs]] => .tup (.int g :: x :: .int m :: y :: cs)
  | _ => .non
theorem rowsFrom_map (g m : Int) : ∀ (ch : Chg) (k : Nat), (enumD k (ch.map cgD)).map (rowOf g m) = rowsFrom g m k ch
  | [], _ => rfl
  | q :: ch, k => by
    rw [List.map_cons, enumD, List.map_cons, rowsFrom_map g m ch (k + 1)]
    rfl
theorem rowsFrom_len (g m : Int) : ∀ (ch : Chg) (k : Nat), (rowsFrom g m k ch).length = ch.length
  | [], _ => rfl
  | q :: ch, k => by rw [rowsFrom, List.length_cons, List.length_cons, rowsFrom_len g m ch (k + 1)]
theorem rowsFrom_get (g m : Int) : ∀ (ch : Chg) (k i : Nat) (q : Int × List Int), ch[i]? = some q → (rowsFrom g m k ch)[i]? = some (lpD g (k + i : Nat) m q)
  | [], _, _, _, h => by simp at h
  | q :: ch, k, 0, r, h => by simp at h; subst h; simp [rowsFrom]
  | q :: ch, k, i + 1, r, h => by
    have := rowsFrom_get g m ch (k + 1) i r (by simpa using h)
    rw [rowsFrom, List.getElem?_cons_succ, this]
    congr 2
    omega
theorem enum_form {ch : Chg} : ∀ {k : Nat} {d : D}, d ∈ enumD k (ch.map cgD) → ∃ (i : Nat) (q : Int × List Int), q ∈ ch ∧ d = .tup [.int i, cgD q] := by
  induction ch with
  | nil => intro k d h; cases h
  | cons q ch ih =>
    intro k d h
    rw [List.map_cons, enumD] at h
    rcases List.mem_cons.mp h with e | e
    · exact ⟨k, q, List.mem_cons_self, e⟩
    · obtain ⟨i, r, hr, e2⟩ := ih e
      exact ⟨i, r, List.mem_cons_of_mem _ hr, e2⟩
theorem lp_bd (n : Nat) (g a m : Int) (q : Int × List Int) : (lpD g a m q).bd n = true := by
  unfold lpD
  simp
  exact (bdAll_iff n _).mpr fun d hd => by
    obtain ⟨i, _, rfl⟩ := List.mem_map.mp hd
    simp
theorem rows_bd (n : Nat) (g m : Int) : ∀ (ch : Chg) (k : Nat), bdAll n (rowsFrom g m k ch) = true
  | [], _ => by simp [rowsFrom]
  | q :: ch, k => by simp [rowsFrom, lp_bd, rows_bd n g m ch (k + 1)]
theorem log_rows_ok {A : AH} (g : Int) {ch : Chg} (hf : ch.length ≤ 1000) (h8 : ∀ q ∈ ch, q.2.length = 8) : F_log_rows [.int g, .tup (ch.map cgD)] A = .ok (.ref A.length) (A ++ [.lst (rowsFrom g ch.length 0 ch)]) := by
  refine sat_eq (sat_def rfl ?_)
  simp only [b_log_rows, startE]
  have q := lc_map (src := .seq (enumD 0 (ch.map cgD))) (g := gTup 2 (gCons (gName 3) (gCons (gTup 2 (gCons (gName 4) (gCons (gName 5) gNil))) gNil))) (e := eF mkTup (aCons (eVar 0) (aCons (eVar 3) (aCons (eVar 2) (aCons (eVar 4) (aStar (eVar 5) aNil)))))) (E := [some (D.int g), some (D.tup (ch.map cgD)), some (D.int ch.length), none, none, none]) (A := A) (ds := enumD 0 (ch.map cgD)) (edR (.int g) (.tup (ch.map cgD)) (.int ch.length)) (rowOf g ch.length)
    (by rw [enumD_len]; simp [line]; omega) rfl (fun _ _ => rfl)
    (fun d hd G => by
      obtain ⟨i, q, hq, rfl⟩ := enum_form hd
      rfl)
    (fun d hd G => by
      obtain ⟨i, q, hq, rfl⟩ := enum_form hd
      have := h8 q hq
      simp [cgD, edR, rowOf, line]
      omega)
  rw [rowsFrom_map] at q
  simp [q]
  rw [gc_new0 rfl (by simpa [O.bd] using rows_bd A.length g ch.length ch 0)]
  simp
/-! ### homes -/
def cellsA : Nat → List (List Int) → Chg
  | _, [] => []
  | k, c :: cs => ((k : Nat), c) :: cellsA (k + 1) cs
theorem cellsA_len : ∀ (cs : List (List Int)) (k : Nat), (cellsA k cs).length = cs.length
  | [], _ => rfl
  | c :: cs, k => by rw [cellsA, List.length_cons, List.length_cons, cellsA_len cs (k + 1)]
theorem cellsA_snoc : ∀ (cs : List (List Int)) (k : Nat) (c : List Int), cellsA k (cs ++ [c]) = cellsA k cs ++ [(((k + cs.length : Nat) : Int), c)]
  | [], k, c => by simp [cellsA]
  | x :: cs, k, c => by
    have e : k + 1 + cs.length = k + (x :: cs).length := by rw [List.length_cons]; omega
    rw [List.cons_append, cellsA, cellsA_snoc cs (k + 1) c, cellsA, List.cons_append, e]
theorem cellsA_keys : ∀ (cs : List (List Int)) (k : Nat) (x : Int), x ∈ (cellsA k cs).map (·.1) ↔ (k : Int) ≤ x ∧ x < k + cs.length
  | [], k, x => by simp [cellsA]
  | c :: cs, k, x => by
    rw [cellsA, List.map_cons, List.mem_cons, cellsA_keys cs (k + 1) x, List.length_cons]
    constructor
    · rintro (h | h) <;> omega
    · intro h
      by_cases z : x = k
      · exact .inl z
      · exact .inr (by omega)
theorem cellsA_set : ∀ (cs : List (List Int)) (k : Nat) (i : Nat) (c : List Int), ((cellsA k cs).map fun q => if q.1 = ((k + i : Nat) : Int) then (q.1, c) else q) = cellsA k (cs.set i c)
  | [], _, _, _ => rfl
  | x :: cs, k, 0, c => by
    have h := cellsA_set cs (k + 1)
    rw [cellsA, List.map_cons, List.set_cons_zero, cellsA]
    have e : ((cellsA (k + 1) cs).map fun q => if q.1 = ((k + 0 : Nat) : Int) then (q.1, c) else q) = cellsA (k + 1) cs := by
      conv => rhs; rw [← List.map_id (cellsA (k + 1) cs)]
      refine List.map_congr_left fun q hq => ?_
      have := (cellsA_keys cs (k + 1) q.1).mp (List.mem_map.mpr ⟨q, hq, rfl⟩)
      rw [if_neg (by omega)]
      rfl
    rw [e]
    simp
  | x :: cs, k, i + 1, c => by
    have h := cellsA_set cs (k + 1) i c
    rw [cellsA, List.map_cons, List.set_cons_succ, cellsA]
    rw [if_neg (by simp; omega), ← h]
    congr 1
    refine List.map_congr_left fun q _ => ?_
    rw [show k + (i + 1) = k + 1 + i by omega]
theorem putA_cells {cs : List (List Int)} {p : Int} {c : List Int} (h0 : 0 ≤ p) (h1 : p < cs.length) : putA (cellsA 0 cs) p c = cellsA 0 (cs.set p.toNat c) := by
  have hm : p ∈ (cellsA 0 cs).map (·.1) := (cellsA_keys cs 0 p).mpr ⟨by omega, by omega⟩
  obtain ⟨q, hq, e⟩ := List.mem_map.mp hm
  unfold putA
  rw [if_pos (List.any_eq_true.mpr ⟨q, hq, by simp [e]⟩)]
  have := cellsA_set cs 0 p.toNat c
  rw [← this]
  refine List.map_congr_left fun q _ => ?_
  rw [show ((0 + p.toNat : Nat) : Int) = p by omega]
theorem putA_next (cs : List (List Int)) (c : List Int) : putA (cellsA 0 cs) (cs.length : Int) c = cellsA 0 (cs ++ [c]) := by
  unfold putA
  rw [if_neg, cellsA_snoc]
  · simp
  · intro z
    obtain ⟨q, hq, e⟩ := List.any_eq_true.mp z
    have := (cellsA_keys cs 0 q.1).mp (List.mem_map.mpr ⟨q, hq, rfl⟩)
    simp at e
    omega
def zero8 : List Int := [0, 0, 0, 0, 0, 0, 0, 0]
def intsD : D → List Int
  | .tup ds => ds.map fun d => match d with | .int i => i | _ => 0
  | _ => []
def cellsOf (v : D) : List Int := if isCells v = true then intsD v else zero8
theorem ints_back : ∀ {ds : List D}, ds.all isInt = true → (intsD (.tup ds)).map D.int = ds
  | [], _ => rfl
  | d :: ds, h => by
    rw [List.all_cons, Bool.and_eq_true] at h
    have ih := ints_back h.2
    obtain ⟨i, rfl⟩ := int_of h.1
    show D.int i :: _ = _
    rw [show ((ds.map fun d => match d with | .int i => i | _ => (0 : Int)).map D.int) = ds from ih]
theorem cells_back {v : D} (h : isCells v = true) : .tup ((intsD v).map D.int) = v ∧ (intsD v).length = 8 := by
  cases v with
  | tup ds =>
    have h' : (decide (ds.length = 8) && ds.all isInt) = true := h
    rw [Bool.and_eq_true] at h'
    refine ⟨by rw [ints_back h'.2], ?_⟩
    unfold intsD
    rw [List.length_map]
    exact of_decide_eq_true h'.1
  | _ => cases h
theorem cellsOf_len (v : D) : (cellsOf v).length = 8 := by
  unfold cellsOf
  split
  · exact (cells_back (by assumption)).2
  · rfl
def homeOf (k : Dk) (P S : Int) : List (List Int) := (List.range P.toNat).map fun i => cellsOf (k.now (2 + S + (i : Nat)))
/-- some changes laid over homes -/
def layS (cs : List (List Int)) (q : Int × List Int) : List (List Int) := if q.1 < (cs.length : Int) then cs.set q.1.toNat q.2 else cs
def layC (cs : List (List Int)) (ch : Chg) : List (List Int) := List.foldl layS cs ch
theorem layC_nil (cs : List (List Int)) : layC cs [] = cs := rfl
theorem layC_cons (cs : List (List Int)) (q : Int × List Int) (ch : Chg) : layC cs (q :: ch) = layC (layS cs q) ch := rfl
theorem layC_app (cs : List (List Int)) (ch ch' : Chg) : layC cs (ch ++ ch') = layC (layC cs ch) ch' := List.foldl_append
theorem layC_snoc (cs : List (List Int)) (ch : Chg) (q : Int × List Int) : layC cs (ch ++ [q]) = if q.1 < ((layC cs ch).length : Int) then (layC cs ch).set q.1.toNat q.2 else layC cs ch := layC_app cs ch [q]
theorem layS_len (cs : List (List Int)) (q : Int × List Int) : (layS cs q).length = cs.length := by
  unfold layS
  split
  · rw [List.length_set]
  · rfl
theorem layC_len : ∀ (ch : Chg) (cs : List (List Int)), (layC cs ch).length = cs.length
  | [], cs => rfl
  | q :: ch, cs => by rw [layC_cons, layC_len ch, layS_len]
theorem homeOf_len (k : Dk) (P S : Int) : (homeOf k P S).length = P.toNat := by unfold homeOf; simp
theorem homeOf_take (k : Dk) (P S : Int) {j : Nat} (h : j < P.toNat) : (homeOf k P S).take (j + 1) = (homeOf k P S).take j ++ [cellsOf (k.now (2 + S + j))] := by
  refine take_snoc ?_
  unfold homeOf
  rw [List.getElem?_map, List.getElem?_range h]
  rfl
theorem read_home_ok {A : AH} {d : Nat} {k : Dk} (h : A[d]? = some (dkO k)) (g : DkG A k) {P S : Int} (hP : 0 ≤ P) (hS : 0 ≤ S) (hl : (k.st.length : Int) = 2 + S + P) {grs : List (Int × Int × Chg)} (hs : chSum grs ≤ 1000000) (hk : ∀ q ∈ mergedG grs, 0 ≤ q.1) :
    F_read_home [.ref d, .int P, .int S, .tup (grs.map grD)] A = .ok (.ref A.length) (A ++ [.dic (dicA (cellsA 0 (layC (homeOf k P S) (mergedG grs))))]) := by
  refine sat_eq (sat_def rfl ?_)
  simp only [b_read_home, startE]
  have hlen := g.len
  have hd : ∀ G : AH, (A ++ G)[d]? = some (dkO k) := fun G => get_left h
  have hi : ∀ G : AH, isIns 0 (A ++ G) (.ref d) = true := fun G => isIns_of (hd G)
  simp [small_of hP (by omega)]
  have r8 : rep 8 [D.int 0] = zero8.map D.int := rfl
  have hPn : (P.toNat : Int) = P := Int.toNat_of_nonneg hP
  have hN : ∀ cs : List (List Int), cs.length ≤ 1000 → (dicA (cellsA 0 cs)).length < line := fun cs h => by rw [dicA_len, cellsA_len]; simp [line]; omega
  refine for_sat P.toNat (fun j E B => ∃ e5 e6, E = [some (.ref d), some (.int P), some (.int S), some (.tup (grs.map grD)), some (.ref A.length), e5, e6, none] ∧ B = A ++ [.dic (dicA (cellsA 0 ((homeOf k P S).take j)))]) (by rw [upto_size]; exact Nat.le_refl _) ⟨none, none, rfl, by simp [cellsA, dicA]⟩ ?_ ?_
  · rintro j E B hj ⟨e5, e6, rfl, rfl⟩
    refine ⟨_, upto_at hj _, tsat_of ?_⟩
    have q1 := now_ok (hd [.dic (dicA (cellsA 0 ((homeOf k P S).take j)))]) (g.keep (LstKeep.app _ _)) (pl := 2 + S + j) (by omega) (by omega)
    have pv : PV A (k.now (2 + S + j)) := by
      unfold Dk.now
      cases z : (loAt k.lo (2 + S + j)).getLast? with
      | none => exact g.st _ (stAt_mem (by omega) (by omega))
      | some v =>
        obtain ⟨q, hq, e, _⟩ := loAt_mem (List.mem_of_getLast? z)
        show PV A v
        rw [← e]
        exact (g.lo q hq).2.2
    have ic := is_cells_ok (pv.app [.dic (dicA (cellsA 0 ((homeOf k P S).take j)))])
    have hlj : ((homeOf k P S).take j).length = j := by rw [List.length_take, homeOf_len]; omega
    have hn := hN ((homeOf k P S).take j) (by omega)
    have e2 : putF' keyD (dicA (cellsA 0 ((homeOf k P S).take j))) (.int j) (.tup ((cellsOf (k.now (2 + S + j))).map D.int)) = dicA (cellsA 0 ((homeOf k P S).take (j + 1))) := by
      rw [putF_dicA, homeOf_take _ _ _ hj, ← putA_next, hlj]
    simp [cl, hi, home_plate_ok, q1, ic]
    by_cases z : isCells (k.now (2 + S + j)) = true
    · have e3 : cellsOf (k.now (2 + S + j)) = intsD (k.now (2 + S + j)) := if_pos z
      rw [e3, (cells_back z).1] at e2
      simp [z, hn, e2]
    · have e3 : cellsOf (k.now (2 + S + j)) = zero8 := if_neg z
      rw [e3] at e2
      have hn2 : (dicA (cellsA 0 ((homeOf k P S).take j))).length < 16777216 := hn
      simp [z, hn2, ev_mulT, r8, e2, line]
  · rintro E B ⟨e5, e6, rfl, rfl⟩
    refine ⟨upto_end _, ?_⟩
    rw [List.take_of_length_le (by rw [homeOf_len]; exact Nat.le_refl _)]
    have qm := merged_ok (A := A ++ [.dic (dicA (cellsA 0 (homeOf k P S)))]) hs
    simp [cl] at qm
    simp [cl, qm]
    have hdc : ∀ cs : List (List Int), (A ++ [O.dic (dicA (cellsA 0 cs)), O.dic (dicA (mergedG grs))])[A.length + 1]? = some (.dic (dicA (mergedG grs))) := fun cs => by
      rw [List.getElem?_append_right (by omega), show A.length + 1 - A.length = 1 by omega]
      rfl
    refine forD_sat (hdc _) (by simp [pairsOf]) ?_
    have hset : ∀ (cs : List (List Int)) (o o' : O), (A ++ [O.dic (dicA (cellsA 0 cs)), o]).set (A.length + 1) o' = A ++ [O.dic (dicA (cellsA 0 cs)), o'] := fun cs o o' => by
      rw [List.set_append_right _ _ (by omega), show A.length + 1 - A.length = 1 by omega]
      rfl
    rw [hset]
    refine for_sat (mergedG grs).length (fun j E B => ∃ e5 e7, E = [some (.ref d), some (.int P), some (.int S), some (.tup (grs.map grD)), some (.ref A.length), e5, e6, e7] ∧ B = A ++ [O.dic (dicA (cellsA 0 (layC (homeOf k P S) ((mergedG grs).take j)))), O.fro (dicA (mergedG grs))]) (by simp [Src.size, pairsOf, dicA_len]) ⟨e5, none, rfl, by rw [List.take_zero, layC_nil]⟩ ?_ ?_
    · rintro j E B hj ⟨e5, e7, rfl, rfl⟩
      obtain ⟨q, hq⟩ : ∃ q, (mergedG grs)[j]? = some q := ⟨_, List.getElem?_eq_getElem hj⟩
      have hq0 := hk q (List.mem_of_getElem? hq)
      refine ⟨.tup [.int q.1, .tup (q.2.map D.int)], seq_at (by unfold pairsOf dicA; rw [List.map_map, List.getElem?_map, hq]; rfl) _, tsat_of ?_⟩
      have hll : (layC (homeOf k P S) ((mergedG grs).take j)).length = P.toNat := by rw [layC_len, homeOf_len]
      have hn := hN (layC (homeOf k P S) ((mergedG grs).take j)) (by omega)
      have hs0 : ∀ (o o' : O), (A ++ [o, O.fro (dicA (mergedG grs))]).set A.length o' = A ++ [o', O.fro (dicA (mergedG grs))] := fun o o' => by
        rw [List.set_append_right _ _ (Nat.le_refl _), Nat.sub_self]
        rfl
      rw [take_snoc hq, layC_snoc, hll]
      by_cases z : q.1 < P
      · have e2 : putF' keyD (dicA (cellsA 0 (layC (homeOf k P S) ((mergedG grs).take j)))) (.int q.1) (.tup (q.2.map D.int)) = dicA (cellsA 0 ((layC (homeOf k P S) ((mergedG grs).take j)).set q.1.toNat q.2)) := by
          rw [putF_dicA, putA_cells hq0 (by omega)]
        rw [if_pos (show q.1 < (P.toNat : Int) by omega)]
        simp [z, hn, e2, hs0]
      · rw [if_neg (show ¬ q.1 < (P.toNat : Int) by omega)]
        simp [z]
    · rintro E B ⟨e5, e7, rfl, rfl⟩
      refine ⟨by rw [show (mergedG grs).length = (pairsOf (dicA (mergedG grs))).length by unfold pairsOf; rw [List.length_map, dicA_len]]; exact seq_end _ _, dicA (mergedG grs), ?_, ?_⟩
      · rw [List.getElem?_append_right (by omega), show A.length + 1 - A.length = 1 by omega]
        rfl
      · rw [hset, List.take_length]
        simp
        have qg := gc_new (A := A) (G := [O.dic (dicA (cellsA 0 (layC (homeOf k P S) (mergedG grs)))), O.dic (dicA (mergedG grs))]) (j := 0) rfl rfl (dicA_bd _ _)
        simp only [Nat.add_zero] at qg
        rw [qg]
        simp
end Lw
set_option Elab.async false
set_option linter.all false
set_option maxRecDepth 100000
set_option maxHeartbeats 4000000
/-! The store: what it is, how it writes (own work). -/
namespace Lw
open PySem DL
structure Sto where
  P : Int
  S : Int
  beg : Dk
  dev : Dk
  tr : List Ev
  hn : Int
  hf : Int
  hs : Int
  grs : List (Int × Int × Chg)
  cells : List (List Int)
  ng : Int
  ns : Int
  run : Chg
  rd : Int
  pu : List (Int × Int × Int)
  de : Int
  sd : Int
structure SX where
  s : Nat
  b : Nat
  d : Nat
  c : Nat
  r : Nat
def puD (q : Int × Int × Int) : D := .tup [.int q.1, .int q.2.1, .int q.2.2]
def hdD (n f s : Int) : D := .tup [.int n, .int f, .int s]
def stoO (x : SX) (S : Sto) : O := .ins 1 [(2, .int S.P), (3, .int S.S), (4, .ref x.b), (5, .ref x.d), (6, .tup (S.tr.map evD)), (7, hdD S.hn S.hf S.hs), (8, .tup (S.grs.map grD)), (9, .ref x.c), (10, .int S.ng), (11, .int S.ns), (12, .ref x.r), (13, .int S.rd), (14, .tup (S.pu.map puD)), (15, .int S.de), (16, .int S.sd)]
structure StoAt (A : AH) (x : SX) (S : Sto) : Prop where
  s : A[x.s]? = some (stoO x S)
  b : A[x.b]? = some (dkO S.beg)
  d : A[x.d]? = some (dkO S.dev)
  c : A[x.c]? = some (.dic (dicA (cellsA 0 S.cells)))
  r : A[x.r]? = some (.dic (dicA S.run))
  ne : x.d ≠ x.b ∧ x.c ≠ x.r
theorem StoAt.nes {A : AH} {x : SX} {S : Sto} (h : StoAt A x S) : x.s ≠ x.b ∧ x.s ≠ x.d ∧ x.s ≠ x.c ∧ x.s ≠ x.r ∧ x.d ≠ x.c ∧ x.d ≠ x.r ∧ x.b ≠ x.c ∧ x.b ≠ x.r := by
  refine ⟨fun z => ?_, fun z => ?_, fun z => ?_, fun z => ?_, fun z => ?_, fun z => ?_, fun z => ?_, fun z => ?_⟩
  · have := h.s; rw [z, h.b] at this; cases this
  · have := h.s; rw [z, h.d] at this; cases this
  · have := h.s; rw [z, h.c] at this; cases this
  · have := h.s; rw [z, h.r] at this; cases this
  · have := h.d; rw [z, h.c] at this; cases this
  · have := h.d; rw [z, h.r] at this; cases this
  · have := h.b; rw [z, h.c] at this; cases this
  · have := h.b; rw [z, h.r] at this; cases this
theorem lt_of {A : AH} {i : Nat} {o : O} (h : A[i]? = some o) : i < A.length := (List.getElem?_eq_some_iff.mp h).1
theorem ev_bd {A : AH} {n : Nat} {es : List Ev} (h : ∀ e ∈ es, EvG A n e) : bdAll A.length (es.map evD) = true := (bdAll_iff _ _).mpr fun d hd => by
  obtain ⟨e, he, rfl⟩ := List.mem_map.mp hd
  have := h e he
  cases e with
  | w p v => simp [evD, this.2.2.bd]
  | b => simp [evD]
theorem gr_bd (n : Nat) (grs : List (Int × Int × Chg)) : bdAll n (grs.map grD) = true := (bdAll_iff n _).mpr fun d hd => by
  obtain ⟨g, _, rfl⟩ := List.mem_map.mp hd
  simp [grD, cg_bd]
theorem pu_bd (n : Nat) (pu : List (Int × Int × Int)) : bdAll n (pu.map puD) = true := (bdAll_iff n _).mpr fun d hd => by
  obtain ⟨g, _, rfl⟩ := List.mem_map.mp hd
  simp [puD]
/-- what holds of the values -/
structure SG (A : AH) (N : Nat) (S : Sto) : Prop where
  P0 : 0 < S.P
  P1 : S.P ≤ 100
  S0 : 0 < S.S
  S1 : S.S ≤ 100
  dev : DkG A S.dev
  beg : DkG A S.beg
  len : (S.dev.st.length : Int) = 2 + S.S + S.P
  blen : (S.beg.st.length : Int) = 2 + S.S + S.P
  few : S.dev.lo.length ≤ N
  tr : ∀ e ∈ S.tr, EvG A S.dev.st.length e
  trl : S.tr.length ≤ N
  grl : S.grs.length ≤ N
  pul : S.pu.length ≤ N
  sum : chSum S.grs ≤ 1000
  grk : ∀ g ∈ S.grs, ∀ q ∈ g.2.2, 0 ≤ q.1 ∧ q.2.length = 8
  cel : S.cells.length = S.P.toNat
  cel8 : ∀ c ∈ S.cells, c.length = 8
  run : ChgG S.P S.run
  hn0 : 0 ≤ S.hn
theorem SG.keep {A B : AH} {N : Nat} {S : Sto} (g : SG A N S) (k : LstKeep A B) : SG B N S :=
  { g with dev := g.dev.keep k, beg := g.beg.keep k, tr := fun e he => (g.tr e he).keep k }
theorem SG.mono {A : AH} {N M : Nat} {S : Sto} (g : SG A N S) (h : N ≤ M) : SG A M S :=
  { g with few := Nat.le_trans g.few h, trl := Nat.le_trans g.trl h, grl := Nat.le_trans g.grl h, pul := Nat.le_trans g.pul h }
theorem sto_bd {A : AH} {N : Nat} {x : SX} {S : Sto} (g : SG A N S) (hb : x.b < A.length) (hd : x.d < A.length) (hc : x.c < A.length) (hr : x.r < A.length) : (stoO x S).bd A.length = true := by
  simp [stoO, O.bd, hb, hd, hc, hr, ev_bd g.tr, gr_bd, pu_bd, hdD]
/-- all but the store's own things stays -/
structure Fr (A B : AH) (x : SX) (r : Nat) : Prop where
  le : A.length ≤ B.length
  keep : ∀ (j : Nat) (o : O), A[j]? = some o → j ≠ x.s → j ≠ x.d → j ≠ x.c → j ≠ x.r → B[j]? = some o
  new : r = x.r ∨ A.length ≤ r
theorem Fr.refl (A : AH) (x : SX) : Fr A A x x.r := ⟨Nat.le_refl _, fun _ _ h _ _ _ _ => h, .inl rfl⟩
theorem Fr.trans {A B C : AH} {x : SX} {r r' : Nat} (h : Fr A B x r) (k : Fr B C { x with r := r } r') : Fr A C x r' := by
  refine ⟨Nat.le_trans h.le k.le, fun j o e h1 h2 h3 h4 => k.keep j o (h.keep j o e h1 h2 h3 h4) h1 h2 h3 ?_, ?_⟩
  · rcases h.new with z | z
    · show j ≠ r; rw [z]; exact h4
    · have := lt_of e
      show j ≠ r
      omega
  · rcases k.new with z | z
    · have z' : r' = r := z
      rw [z']
      exact h.new
    · exact .inr (Nat.le_trans h.le z)
theorem Fr.lists {A B : AH} {x : SX} {r : Nat} {S : Sto} (f : Fr A B x r) (h : StoAt A x S) : LstKeep A B := fun i ds e => by
  refine f.keep i _ e (fun z => ?_) (fun z => ?_) (fun z => ?_) fun z => ?_
  · rw [z, h.s] at e; cases e
  · rw [z, h.d] at e; cases e
  · rw [z, h.c] at e; cases e
  · rw [z, h.r] at e; cases e
/-- a method's end -/
theorem gc_sto {A B : AH} {x y : SX} {S S' : Sto} {P : D → AH → Prop} (hA : StoAt A x S) (hs : y.s = x.s) (hB : StoAt B y S')
    (k : ∀ C, (C = B ∨ (C = B.take A.length ∧ y.r < A.length)) → StoAt C y S' → P .non C) (hle : A.length ≤ B.length) : (gc A .non B).sat P := by
  unfold gc
  split
  · rename_i z
    obtain ⟨_, pl, po⟩ := z
    have hsl : y.s < A.length := by rw [hs]; exact lt_of hA.s
    have tk : ∀ (j : Nat) (o : O), j < A.length → B[j]? = some o → (B.take A.length)[j]? = some o := fun j o hj e => by
      rw [List.getElem?_take, if_pos hj]; exact e
    have refs : y.b < A.length ∧ y.d < A.length ∧ y.c < A.length ∧ y.r < A.length := by
      rcases po y.s _ (tk _ _ hsl hB.s) with e | e
      · rw [hs, hA.s] at e
        have e2 : stoO x S = stoO y S' := Option.some.inj e
        unfold stoO at e2
        injection e2 with _ e3
        simp at e3
        obtain ⟨_, _, e4, e5, _, _, _, e6, _, _, e7, _⟩ := e3
        exact ⟨by rw [← e4]; exact lt_of hA.b, by rw [← e5]; exact lt_of hA.d, by rw [← e6]; exact lt_of hA.c, by rw [← e7]; exact lt_of hA.r⟩
      · simp [stoO, O.bd] at e
        exact ⟨e.1, e.2.1, e.2.2.2.2.2.1, e.2.2.2.2.2.2.1⟩
    refine k _ (.inr ⟨rfl, refs.2.2.2⟩) ⟨tk _ _ hsl hB.s, tk _ _ refs.1 hB.b, tk _ _ refs.2.1 hB.d, tk _ _ refs.2.2.1 hB.c, tk _ _ refs.2.2.2 hB.r, hB.ne⟩
  · show (gcO A .non B (refO A B .non)).sat P
    exact k B (.inl rfl) hB
theorem Fr.cut {A B C : AH} {x : SX} {r : Nat} (f : Fr A B x r) (h : C = B ∨ (C = B.take A.length ∧ r < A.length)) : Fr A C x r := by
  rcases h with rfl | ⟨rfl, hr⟩
  · exact f
  · refine ⟨by rw [List.length_take]; have := f.le; omega, fun j o e h1 h2 h3 h4 => ?_, ?_⟩
    · rw [List.getElem?_take, if_pos (lt_of e)]
      exact f.keep j o e h1 h2 h3 h4
    · rcases f.new with z | z
      · exact .inl z
      · omega
/-- what a method of the store does -/
def Stp (A : AH) (x : SX) (M : Nat) (S' : Sto) : D → AH → Prop := fun d B => d = .non ∧ ∃ r, StoAt B { x with r := r } S' ∧ Fr A B x r ∧ SG B M S'
theorem gc_stp {A B : AH} {x : SX} {r : Nat} {S S' : Sto} {M : Nat} (hA : StoAt A x S) (hB : StoAt B { x with r := r } S') (f : Fr A B x r) (g : SG A M S') : (gc A .non B).sat (Stp A x M S') :=
  gc_sto (y := { x with r := r }) hA rfl hB (fun C hC hCs => ⟨rfl, r, hCs, f.cut hC, g.keep ((f.cut hC).lists hA)⟩) f.le
def Sto.wr (S : Sto) (p : Int) (v : D) : Sto := { S with dev := S.dev.write p v, tr := S.tr ++ [.w p v] }
def Sto.bar (S : Sto) : Sto := { S with dev := S.dev.barrier, tr := S.tr ++ [.b] }
theorem SG.wr {A : AH} {N : Nat} {S : Sto} (g : SG A N S) {p : Int} {v : D} (h0 : 0 ≤ p) (h1 : p < S.dev.st.length) (hv : PV A v) (hN : N < 1000000) : SG A (N + 1) (S.wr p v) :=
  { g.mono (Nat.le_succ N) with
    dev := g.dev.wr h0 h1 hv (Nat.lt_of_le_of_lt g.few hN)
    few := by show (S.dev.lo ++ [(p, v)]).length ≤ _; have := g.few; simp; omega
    tr := fun e he => by
      rcases List.mem_append.mp he with he | he
      · exact g.tr e he
      · simp at he; subst he; exact ⟨h0, h1, hv⟩
    trl := by show (S.tr ++ [_]).length ≤ _; have := g.trl; simp; omega }
theorem SG.bar {A : AH} {N : Nat} {S : Sto} (g : SG A N S) : SG A (N + 1) S.bar :=
  { g.mono (Nat.le_succ N) with
    dev := g.dev.bar
    len := by show (((setAll S.dev.st S.dev.lo).length : Nat) : Int) = _; rw [setAll_len]; exact g.len
    few := by show ([] : List (Int × D)).length ≤ _; simp
    tr := fun e he => by
      show EvG A (setAll S.dev.st S.dev.lo).length e
      rw [setAll_len]
      rcases List.mem_append.mp he with he | he
      · exact g.tr e he
      · simp at he; subst he; trivial
    trl := by show (S.tr ++ [_]).length ≤ _; have := g.trl; simp; omega }
theorem Fr.of_set2 {A : AH} {x : SX} (o1 o2 : O) : Fr A ((A.set x.d o1).set x.s o2) x x.r := ⟨by simp, fun j o e h1 h2 _ _ => by rw [List.getElem?_set_ne (Ne.symm h1), List.getElem?_set_ne (Ne.symm h2)]; exact e, .inl rfl⟩
theorem StoAt.set2 {A : AH} {x : SX} {S S' : Sto} (h : StoAt A x S) (hb : S'.beg = S.beg) (hc : S'.cells = S.cells) (hr : S'.run = S.run) : StoAt ((A.set x.d (dkO S'.dev)).set x.s (stoO x S')) x S' := by
  obtain ⟨n1, n2, n3, n4, n5, n6, n7, n8⟩ := h.nes
  refine ⟨?_, ?_, ?_, ?_, ?_, h.ne⟩
  · rw [List.getElem?_set_self (by rw [List.length_set]; exact lt_of h.s)]
  · rw [List.getElem?_set_ne n1, List.getElem?_set_ne h.ne.1, h.b, hb]
  · rw [List.getElem?_set_ne n2, List.getElem?_set_self (lt_of h.d)]
  · rw [List.getElem?_set_ne n3, List.getElem?_set_ne n5, h.c, hc]
  · rw [List.getElem?_set_ne n4, List.getElem?_set_ne n6, h.r, hr]
theorem store_write_sat {A : AH} {N : Nat} {x : SX} {S : Sto} (h : StoAt A x S) (g : SG A N S) (hN : N < 1000000) {p : Int} {v : D} (h0 : 0 ≤ p) (h1 : p < S.dev.st.length) (hv : PV A v) : (F_Store_write [.ref x.s, .int p, v] A).sat (Stp A x (N + 1) (S.wr p v)) := by
  refine sat_def rfl ?_
  simp only [b_Store_write, startE]
  obtain ⟨n1, n2, n3, n4, n5, n6, n7, n8⟩ := h.nes
  have hs' : A[x.s]? = some (.ins 1 [(2, .int S.P), (3, .int S.S), (4, .ref x.b), (5, .ref x.d), (6, .tup (S.tr.map evD)), (7, hdD S.hn S.hf S.hs), (8, .tup (S.grs.map grD)), (9, .ref x.c), (10, .int S.ng), (11, .int S.ns), (12, .ref x.r), (13, .int S.rd), (14, .tup (S.pu.map puD)), (15, .int S.de), (16, .int S.sd)]) := h.s
  have hi : isIns 0 A (.ref x.d) = true := isIns_of h.d
  have q := write_ok h.d g.dev h0 h1 hv (Nat.lt_of_le_of_lt g.few hN)
  have hs2 : ∀ o : O, (A.set x.d o)[x.s]? = A[x.s]? := fun o => List.getElem?_set_ne (Ne.symm n2)
  have htl := g.trl
  simp [hs', hi, cl, q, hs2, line]
  refine ⟨fun _ => ?_, by omega⟩
  have e : (O.ins 1 [(2, D.int S.P), (3, D.int S.S), (4, D.ref x.b), (5, D.ref x.d), (6, D.tup (S.tr.map evD ++ [D.tup [D.str "write", D.int p, v]])), (7, hdD S.hn S.hf S.hs), (8, D.tup (S.grs.map grD)), (9, D.ref x.c), (10, D.int S.ng), (11, D.int S.ns), (12, D.ref x.r), (13, D.int S.rd), (14, D.tup (S.pu.map puD)), (15, D.int S.de), (16, D.int S.sd)]) = stoO x (S.wr p v) := by
    simp [stoO, Sto.wr, evD]
  rw [e]
  have hB : StoAt ((A.set x.d (dkO (S.dev.write p v))).set x.s (stoO x (S.wr p v))) x (S.wr p v) := h.set2 (S' := S.wr p v) rfl rfl rfl
  exact gc_stp h hB (Fr.of_set2 _ _) (g.wr h0 h1 hv hN)
theorem store_barrier_sat {A : AH} {N : Nat} {x : SX} {S : Sto} (h : StoAt A x S) (g : SG A N S) (hN : N < 1000000) : (F_Store_barrier [.ref x.s] A).sat (Stp A x (N + 1) S.bar) := by
  refine sat_def rfl ?_
  simp only [b_Store_barrier, startE]
  obtain ⟨n1, n2, n3, n4, n5, n6, n7, n8⟩ := h.nes
  have hs' : A[x.s]? = some (.ins 1 [(2, .int S.P), (3, .int S.S), (4, .ref x.b), (5, .ref x.d), (6, .tup (S.tr.map evD)), (7, hdD S.hn S.hf S.hs), (8, .tup (S.grs.map grD)), (9, .ref x.c), (10, .int S.ng), (11, .int S.ns), (12, .ref x.r), (13, .int S.rd), (14, .tup (S.pu.map puD)), (15, .int S.de), (16, .int S.sd)]) := h.s
  have hi : isIns 0 A (.ref x.d) = true := isIns_of h.d
  have q := barrier_ok h.d g.dev
  have hs2 : ∀ o : O, (A.set x.d o)[x.s]? = A[x.s]? := fun o => List.getElem?_set_ne (Ne.symm n2)
  have htl := g.trl
  simp [hs', hi, cl, q, hs2, line]
  refine ⟨fun _ => ?_, by omega⟩
  have e : (O.ins 1 [(2, D.int S.P), (3, D.int S.S), (4, D.ref x.b), (5, D.ref x.d), (6, D.tup (S.tr.map evD ++ [D.tup [D.str "barrier"]])), (7, hdD S.hn S.hf S.hs), (8, D.tup (S.grs.map grD)), (9, D.ref x.c), (10, D.int S.ng), (11, D.int S.ns), (12, D.ref x.r), (13, D.int S.rd), (14, D.tup (S.pu.map puD)), (15, D.int S.de), (16, D.int S.sd)]) = stoO x S.bar := by
    simp [stoO, Sto.bar, evD]
  rw [e]
  have hB : StoAt ((A.set x.d (dkO S.dev.barrier)).set x.s (stoO x S.bar)) x S.bar := h.set2 (S' := S.bar) rfl rfl rfl
  exact gc_stp h hB (Fr.of_set2 _ _) g.bar
end Lw
set_option Elab.async false
set_option linter.all false
set_option maxRecDepth 100000
set_option maxHeartbeats 4000000
/-! The store lays home (own work). -/
namespace Lw
open PySem DL
theorem Stp.imp {A : AH} {x : SX} {N M : Nat} {S : Sto} (h : N ≤ M) : ∀ d B, Stp A x N S d B → Stp A x M S d B := fun d B ⟨h1, r, h2, h3, h4⟩ => ⟨h1, r, h2, h3, h4.mono h⟩
def edU (s : Nat) : D → DL.Env
  | .tup [x, y, z] => [some (.ref s), some x, some y, some z]
  | _ => []
def lenD : D → Int
  | .tup [_, _, .tup z] => z.length
  | _ => 0
theorem sum_len (grs : List (Int × Int × Chg)) : ((grs.map grD).map lenD).sum = (chSum grs : Nat) := by
  unfold chSum
  induction grs with
  | nil => rfl
  | cons g grs ih =>
    have e : lenD (grD g) = (g.2.2.length : Nat) := by simp [lenD, grD]
    rw [List.map_cons, List.map_cons, List.sum_cons, List.map_cons, List.sum_cons, ih, e]
    omega
theorem used_ok {A : AH} {N : Nat} {x : SX} {S : Sto} (h : StoAt A x S) (g : SG A N S) (hN : N ≤ 1000000) : F_Store_used [.ref x.s] A = .ok (.int (chSum S.grs : Nat)) A := by
  refine sat_eq (sat_def rfl ?_)
  simp only [b_Store_used, startE]
  have hs' : A[x.s]? = some (.ins 1 [(2, .int S.P), (3, .int S.S), (4, .ref x.b), (5, .ref x.d), (6, .tup (S.tr.map evD)), (7, hdD S.hn S.hf S.hs), (8, .tup (S.grs.map grD)), (9, .ref x.c), (10, .int S.ng), (11, .int S.ns), (12, .ref x.r), (13, .int S.rd), (14, .tup (S.pu.map puD)), (15, .int S.de), (16, .int S.sd)]) := h.s
  have hgl := g.grl
  have q := lc_map (src := .seq (S.grs.map grD)) (g := gTup 3 (gCons (gName 1) (gCons (gName 2) (gCons (gName 3) gNil)))) (e := eF biLen (aCons (eVar 3) aNil)) (E := [some (D.ref x.s), none, none, none]) (A := A) (ds := S.grs.map grD) (edU x.s) (fun d => .int (lenD d))
    (by simp [line]; omega) rfl (fun _ _ => rfl)
    (fun d hd G => by
      obtain ⟨p, _, rfl⟩ := List.mem_map.mp hd
      rfl)
    (fun d hd G => by
      obtain ⟨p, _, rfl⟩ := List.mem_map.mp hd
      simp [grD, edU, lenD])
  have i1 : intsOf ((S.grs.map grD).map fun d => D.int (lenD d)) = some ((S.grs.map grD).map lenD) := by
    have := ints_some ((S.grs.map grD).map lenD)
    rwa [List.map_map] at this
  rw [List.map_map] at i1 q
  simp [hs', q, i1]
  rw [← List.map_map, sum_len, gc_app _ (by simp)]
  simp
/-- the store's own object is changed alone -/
theorem StoAt.set1 {A : AH} {x : SX} {S S' : Sto} (h : StoAt A x S) (hb : S'.beg = S.beg) (hd : S'.dev = S.dev) (hc : S'.cells = S.cells) (hr : S'.run = S.run) : StoAt (A.set x.s (stoO x S')) x S' := by
  obtain ⟨n1, n2, n3, n4, n5, n6, n7, n8⟩ := h.nes
  refine ⟨List.getElem?_set_self (lt_of h.s), ?_, ?_, ?_, ?_, h.ne⟩
  · rw [List.getElem?_set_ne n1, h.b, hb]
  · rw [List.getElem?_set_ne n2, h.d, hd]
  · rw [List.getElem?_set_ne n3, h.c, hc]
  · rw [List.getElem?_set_ne n4, h.r, hr]
theorem Fr.of_set1 {A : AH} {x : SX} (o : O) : Fr A (A.set x.s o) x x.r := ⟨by simp, fun j u e h1 _ _ _ => by rw [List.getElem?_set_ne (Ne.symm h1)]; exact e, .inl rfl⟩
def Sto.settle (S : Sto) : Sto := { S.bar with sd := S.de - S.rd }
theorem SG.settle {A : AH} {N : Nat} {S : Sto} (g : SG A N S) : SG A (N + 1) S.settle := { g.bar with }
theorem settle_sat {A : AH} {N : Nat} {x : SX} {S : Sto} (h : StoAt A x S) (g : SG A N S) (hN : N < 1000000) : (F_Store_settle [.ref x.s] A).sat (Stp A x (N + 1) S.settle) := by
  refine sat_def rfl ?_
  simp only [b_Store_settle, startE]
  have hi : isIns 1 A (.ref x.s) = true := isIns_of h.s
  simp [hi, cl]
  refine (store_barrier_sat h g hN).mono ?_
  rintro d B ⟨rfl, r, hB, f, gB⟩
  have hs' : B[x.s]? = some (.ins 1 [(2, .int S.P), (3, .int S.S), (4, .ref x.b), (5, .ref x.d), (6, .tup (S.bar.tr.map evD)), (7, hdD S.hn S.hf S.hs), (8, .tup (S.grs.map grD)), (9, .ref x.c), (10, .int S.ng), (11, .int S.ns), (12, .ref r), (13, .int S.rd), (14, .tup (S.pu.map puD)), (15, .int S.de), (16, .int S.sd)]) := hB.s
  simp [hs']
  have e : (O.ins 1 [(2, .int S.P), (3, .int S.S), (4, .ref x.b), (5, .ref x.d), (6, .tup (S.bar.tr.map evD)), (7, hdD S.hn S.hf S.hs), (8, .tup (S.grs.map grD)), (9, .ref x.c), (10, .int S.ng), (11, .int S.ns), (12, .ref r), (13, .int S.rd), (14, .tup (S.pu.map puD)), (15, .int S.de), (16, .int (S.de - S.rd))]) = stoO { x with r := r } S.settle := rfl
  rw [e]
  have hC := hB.set1 (S' := S.settle) rfl rfl rfl rfl
  have fC : Fr A (B.set x.s (stoO { x with r := r } S.settle)) x r := f.trans (Fr.of_set1 (x := { x with r := r }) _)
  exact gc_stp h hC fC g.settle
/-! ### the head turns -/
def Sto.hd1 (S : Sto) : Sto := { S with hn := S.hn + 1, hf := S.ng, hs := S.ns }
def Sto.turn (S : Sto) : Sto := { (S.hd1.wr ((S.hn + 1).fmod 2) (hdD (S.hn + 1) S.ng S.ns)).bar with grs := [] }
theorem SG.hd1 {A : AH} {N : Nat} {S : Sto} (g : SG A N S) : SG A N S.hd1 := { g with hn0 := by show 0 ≤ S.hn + 1; have := g.hn0; omega }
theorem fmod2 (n : Int) : 0 ≤ n.fmod 2 ∧ n.fmod 2 < 2 := ⟨Int.fmod_nonneg_of_pos n (by decide), Int.fmod_lt_of_pos n (by decide)⟩
theorem hd_PV (A : AH) (n f s : Int) : PV A (hdD n f s) := .inr (.inl ⟨_, rfl, rfl, by simp⟩)
theorem SG.turn {A : AH} {N : Nat} {S : Sto} (g : SG A N S) (hN : N < 1000000) : SG A (N + 2) S.turn :=
  { (g.hd1.wr (fmod2 (S.hn + 1)).1 (by have := fmod2 (S.hn + 1); have e : S.hd1.dev = S.dev := rfl; rw [e]; have := g.len; have := g.P0; have := g.S0; omega) (hd_PV A (S.hn + 1) S.ng S.ns) hN).bar with
    grl := by show ([] : List (Int × Int × Chg)).length ≤ _; simp
    sum := by show chSum [] ≤ 1000; simp [chSum]
    grk := fun _ h => by cases h }
theorem turn_sat {A : AH} {N : Nat} {x : SX} {S : Sto} (h : StoAt A x S) (g : SG A N S) (hN : N < 999999) : (F_Store_turn_head [.ref x.s] A).sat (Stp A x (N + 2) S.turn) := by
  refine sat_def rfl ?_
  simp only [b_Store_turn_head, startE]
  have hs' : A[x.s]? = some (.ins 1 [(2, .int S.P), (3, .int S.S), (4, .ref x.b), (5, .ref x.d), (6, .tup (S.tr.map evD)), (7, .tup [.int S.hn, .int S.hf, .int S.hs]), (8, .tup (S.grs.map grD)), (9, .ref x.c), (10, .int S.ng), (11, .int S.ns), (12, .ref x.r), (13, .int S.rd), (14, .tup (S.pu.map puD)), (15, .int S.de), (16, .int S.sd)]) := h.s
  have t0 : ∀ n f s : Int, atD [D.int n, .int f, .int s] 0 = some (.int n) := fun _ _ _ => rfl
  have hss : ∀ o : O, (A.set x.s o)[x.s]? = some o := fun o => List.getElem?_set_self (lt_of h.s)
  simp [hs', t0, line, hss, cl, head_plate_ok]
  have e : (O.ins 1 [(2, .int S.P), (3, .int S.S), (4, .ref x.b), (5, .ref x.d), (6, .tup (S.tr.map evD)), (7, .tup [.int (S.hn + 1), .int S.ng, .int S.ns]), (8, .tup (S.grs.map grD)), (9, .ref x.c), (10, .int S.ng), (11, .int S.ns), (12, .ref x.r), (13, .int S.rd), (14, .tup (S.pu.map puD)), (15, .int S.de), (16, .int S.sd)]) = stoO x S.hd1 := rfl
  rw [e]
  have h1 : StoAt (A.set x.s (stoO x S.hd1)) x S.hd1 := h.set1 rfl rfl rfl rfl
  have f1 : Fr A (A.set x.s (stoO x S.hd1)) x x.r := Fr.of_set1 _
  have g1 : SG (A.set x.s (stoO x S.hd1)) N S.hd1 := g.hd1.keep (f1.lists h)
  have hi : isIns 1 (A.set x.s (stoO x S.hd1)) (.ref x.s) = true := isIns_of h1.s
  have f2 := fmod2 (S.hn + 1)
  have pl : (S.hn + 1).fmod 2 < S.hd1.dev.st.length := by
    have e : S.hd1.dev = S.dev := rfl
    rw [e]
    have := g.len; have := g.P0; have := g.S0; omega
  simp [hi]
  have w := store_write_sat h1 g1 (by omega) f2.1 pl (hd_PV _ (S.hn + 1) S.ng S.ns)
  refine w.mono ?_
  rintro d B ⟨rfl, r, hB, fB, gB⟩
  have hi2 : isIns 1 B (.ref x.s) = true := isIns_of hB.s
  simp [hi2]
  refine (store_barrier_sat hB gB (by omega)).mono ?_
  rintro d C ⟨rfl, r2, hC, fC, gC⟩
  have hs3 := hC.s
  have fAC : Fr A C x r2 := (f1.trans fB).trans fC
  have hs3 : C[x.s]? = some (.ins 1 [(2, .int S.P), (3, .int S.S), (4, .ref x.b), (5, .ref x.d), (6, .tup ((S.hd1.wr ((S.hn + 1).fmod 2) (hdD (S.hn + 1) S.ng S.ns)).bar.tr.map evD)), (7, .tup [.int (S.hn + 1), .int S.ng, .int S.ns]), (8, .tup (S.grs.map grD)), (9, .ref x.c), (10, .int S.ng), (11, .int S.ns), (12, .ref r2), (13, .int S.rd), (14, .tup (S.pu.map puD)), (15, .int S.de), (16, .int S.sd)]) := hC.s
  simp [hs3]
  have e2 : (O.ins 1 [(2, .int S.P), (3, .int S.S), (4, .ref x.b), (5, .ref x.d), (6, .tup ((S.hd1.wr ((S.hn + 1).fmod 2) (hdD (S.hn + 1) S.ng S.ns)).bar.tr.map evD)), (7, .tup [.int (S.hn + 1), .int S.ng, .int S.ns]), (8, .tup []), (9, .ref x.c), (10, .int S.ng), (11, .int S.ns), (12, .ref r2), (13, .int S.rd), (14, .tup (S.pu.map puD)), (15, .int S.de), (16, .int S.sd)]) = stoO { x with r := r2 } S.turn := rfl
  rw [e2]
  have hD := hC.set1 (S' := S.turn) rfl rfl rfl rfl
  have fD : Fr A (C.set x.s (stoO { x with r := r2 } S.turn)) x r2 := fAC.trans (Fr.of_set1 (x := { x with r := r2 }) _)
  exact gc_stp h hD fD (g.turn (by omega))
end Lw
set_option Elab.async false
set_option linter.all false
set_option maxRecDepth 100000
set_option maxHeartbeats 4000000
/-! The store writes home, lays (own work). -/
namespace Lw
open PySem DL
def rowD (c : List Int) : D := .tup (c.map D.int)
def wh1 (mg : Chg) (S : Sto) (p : Int) : Sto := if p < S.P then S.wr (2 + S.S + p) (rowD (getA mg p)) else S
def whs (mg : Chg) (S : Sto) (ks : List Int) : Sto := ks.foldl (wh1 mg) S
theorem whs_snoc (mg : Chg) (S : Sto) (ks : List Int) (p : Int) : whs mg S (ks ++ [p]) = wh1 mg (whs mg S ks) p := List.foldl_append
theorem wh1_same (mg : Chg) (S : Sto) (p : Int) : (wh1 mg S p).P = S.P ∧ (wh1 mg S p).S = S.S ∧ (wh1 mg S p).grs = S.grs ∧ (wh1 mg S p).dev.st.length = S.dev.st.length := by
  unfold wh1
  split <;> exact ⟨rfl, rfl, rfl, rfl⟩
theorem whs_same (mg : Chg) : ∀ (ks : List Int) (S : Sto), (whs mg S ks).P = S.P ∧ (whs mg S ks).S = S.S ∧ (whs mg S ks).grs = S.grs ∧ (whs mg S ks).dev.st.length = S.dev.st.length
  | [], S => ⟨rfl, rfl, rfl, rfl⟩
  | p :: ks, S => by
    obtain ⟨a, b, c, d⟩ := whs_same mg ks (wh1 mg S p)
    obtain ⟨a2, b2, c2, d2⟩ := wh1_same mg S p
    exact ⟨a.trans a2, b.trans b2, c.trans c2, d.trans d2⟩
def Sto.whome (S : Sto) : Sto := (whs (mergedG S.grs) S (sortK (mergedG S.grs))).bar
theorem row_PV (A : AH) {c : List Int} (h : c.length ≤ 12) : PV A (rowD c) := .inr (.inl ⟨_, rfl, by rw [List.all_map]; exact List.all_eq_true.mpr fun _ _ => rfl, by simpa using h⟩)
theorem putA_mem {kvs : Chg} {k : Int} {v : List Int} {q : Int × List Int} (h : q ∈ putA kvs k v) : q ∈ kvs ∨ q = (k, v) := by
  unfold putA at h
  split at h
  · obtain ⟨r, hr, e⟩ := List.mem_map.mp h
    split at e
    · rename_i z
      rw [← e, z]; exact .inr rfl
    · rw [← e]; exact .inl hr
  · rcases List.mem_append.mp h with h | h
    · exact .inl h
    · exact .inr (by simpa using h)
theorem mergeA_mem : ∀ {ch kvs : Chg} {q : Int × List Int}, q ∈ mergeA kvs ch → q ∈ kvs ∨ q ∈ ch
  | [], _, _, h => .inl h
  | c :: ch, kvs, q, h => by
    rcases mergeA_mem (ch := ch) (kvs := putA kvs c.1 c.2) h with e | e
    · rcases putA_mem e with e | e
      · exact .inl e
      · exact .inr (by rw [e]; exact List.mem_cons_self)
    · exact .inr (List.mem_cons_of_mem _ e)
theorem mergedG_mem {q : Int × List Int} : ∀ {grs : List (Int × Int × Chg)}, q ∈ mergedG grs → ∃ g ∈ grs, q ∈ g.2.2 := by
  have main : ∀ (grs : List (Int × Int × Chg)) (acc : Chg), q ∈ grs.foldl (fun acc g => mergeA acc g.2.2) acc → q ∈ acc ∨ ∃ g ∈ grs, q ∈ g.2.2 := by
    intro grs
    induction grs with
    | nil => intro acc h; exact .inl h
    | cons g grs ih =>
      intro acc h
      rcases ih _ h with e | ⟨g', h1, h2⟩
      · rcases mergeA_mem e with e | e
        · exact .inl e
        · exact .inr ⟨g, List.mem_cons_self, e⟩
      · exact .inr ⟨g', List.mem_cons_of_mem _ h1, h2⟩
  intro grs h
  rcases main grs [] h with e | e
  · cases e
  · exact e
theorem SG.wh1 {A : AH} {N : Nat} {S : Sto} {mg : Chg} (g : SG A N S) {p : Int} (h0 : 0 ≤ p) (h8 : (getA mg p).length = 8) (hN : N < 1000000) : SG A (N + 1) (wh1 mg S p) := by
  unfold Lw.wh1
  split
  · exact g.wr (by have := g.S0; omega) (by have := g.len; omega) (row_PV A (by omega)) hN
  · exact g.mono (Nat.le_succ N)
theorem SG.whs {A : AH} {mg : Chg} : ∀ {ks : List Int} {N : Nat} {S : Sto}, SG A N S → (∀ k ∈ ks, 0 ≤ k ∧ (getA mg k).length = 8) → N + ks.length ≤ 1000000 → SG A (N + ks.length) (Lw.whs mg S ks)
  | [], N, S, g, _, _ => g
  | k :: ks, N, S, g, h, hN => by
    have hN' : N + (ks.length + 1) ≤ 1000000 := by simpa using hN
    obtain ⟨k0, k8⟩ := h k List.mem_cons_self
    have := SG.whs (ks := ks) (g.wh1 k0 k8 (by omega)) (fun k hk => h k (List.mem_cons_of_mem _ hk)) (by omega)
    rw [List.length_cons, show N + (ks.length + 1) = N + 1 + ks.length by omega]
    exact this
theorem mg_keys {A : AH} {N : Nat} {S : Sto} (g : SG A N S) : ∀ k ∈ sortK (mergedG S.grs), 0 ≤ k ∧ (getA (mergedG S.grs) k).length = 8 := fun k hk => by
  have hm := getA_mem (sortI_mem.mp hk)
  obtain ⟨gr, h1, h2⟩ := mergedG_mem hm
  exact g.grk gr h1 _ h2
theorem mg_len {A : AH} {N : Nat} {S : Sto} (g : SG A N S) : (sortK (mergedG S.grs)).length ≤ 1000 := by
  unfold sortK
  rw [sortI_len, List.length_map]
  exact Nat.le_trans (mergedG_len _) g.sum
theorem SG.whome {A : AH} {N : Nat} {S : Sto} (g : SG A N S) (hN : N + 1001 ≤ 1000000) : SG A (N + 1001) S.whome := by
  have hl := mg_len g
  exact ((g.whs (mg_keys g) (by omega)).bar).mono (by omega)
theorem whome_sat {A : AH} {N : Nat} {x : SX} {S : Sto} (h : StoAt A x S) (g : SG A N S) (hN : N + 1001 ≤ 1000000) : (F_Store_write_home [.ref x.s] A).sat (Stp A x (N + 1001) S.whome) := by
  refine sat_def rfl ?_
  simp only [b_Store_write_home, startE]
  have hs' : A[x.s]? = some (.ins 1 [(2, .int S.P), (3, .int S.S), (4, .ref x.b), (5, .ref x.d), (6, .tup (S.tr.map evD)), (7, hdD S.hn S.hf S.hs), (8, .tup (S.grs.map grD)), (9, .ref x.c), (10, .int S.ng), (11, .int S.ns), (12, .ref x.r), (13, .int S.rd), (14, .tup (S.pu.map puD)), (15, .int S.de), (16, .int S.sd)]) := h.s
  have hsum := g.sum
  have qm := merged_ok (A := A) (grs := S.grs) (by omega)
  have i1 : intsOf ((dicA (mergedG S.grs)).map (·.1)) = some ((mergedG S.grs).map (·.1)) := by rw [dicA_keys, ints_some]
  simp [hs', cl, qm, i1]
  generalize hmg : mergedG S.grs = mg at *
  have hmk : ∀ k ∈ sortK mg, 0 ≤ k ∧ (getA mg k).length = 8 ∧ k ∈ mg.map (·.1) := fun k hk => by
    have hk' := sortI_mem.mp hk
    have hm := getA_mem hk'
    rw [← hmg] at hm
    obtain ⟨gr, h1, h2⟩ := mergedG_mem hm
    obtain ⟨a, b⟩ := g.grk gr h1 _ h2
    rw [hmg] at b
    exact ⟨a, b, hk'⟩
  have hlen : (sortK mg).length ≤ 1000 := by
    unfold sortK
    rw [sortI_len, List.length_map, ← hmg]
    exact Nat.le_trans (mergedG_len _) hsum
  have hA' : StoAt (A ++ [O.dic (dicA mg), O.lst ((dicA mg).map (·.1)), O.lst ((sortI (mg.map (·.1))).map D.int)]) x S := ⟨get_left h.s, get_left h.b, get_left h.d, get_left h.c, get_left h.r, h.ne⟩
  have lts : x.s < A.length ∧ x.d < A.length ∧ x.c < A.length ∧ x.r < A.length := ⟨lt_of h.s, lt_of h.d, lt_of h.c, lt_of h.r⟩
  have f0 : Fr A (A ++ [O.dic (dicA mg), O.lst ((dicA mg).map (·.1)), O.lst ((sortI (mg.map (·.1))).map D.int)]) x x.r := ⟨by simp, fun j o e _ _ _ _ => get_left e, .inl rfl⟩
  have sz : (Src.lst (A.length + 2)).size (A ++ [O.dic (dicA mg), O.lst ((dicA mg).map (·.1)), O.lst ((sortI (mg.map (·.1))).map D.int)]) = (sortK mg).length := by
    rw [size_lst (ds := (sortI (mg.map (·.1))).map D.int)]
    · simp [sortK]
    · rw [List.getElem?_append_right (by omega), show A.length + 2 - A.length = 2 by omega]
      rfl
  have G0 : ∀ (i : Nat) (o : O), i < 3 → [O.dic (dicA mg), O.lst ((dicA mg).map (·.1)), O.lst ((sortI (mg.map (·.1))).map D.int)][i]? = some o → ∀ (B : AH) (r : Nat), Fr (A ++ [O.dic (dicA mg), O.lst ((dicA mg).map (·.1)), O.lst ((sortI (mg.map (·.1))).map D.int)]) B x r → B[A.length + i]? = some o := fun i o hi ho B r f => by
    refine f.keep _ _ ?_ (by omega) (by omega) (by omega) (by omega)
    rw [List.getElem?_append_right (by omega), show A.length + i - A.length = i by omega]
    exact ho
  refine for_sat (sortK mg).length (fun j E B => ∃ e2 r, E = [some (.ref x.s), some (.ref A.length), e2] ∧ StoAt B { x with r := r } (whs mg S ((sortK mg).take j)) ∧ Fr (A ++ [O.dic (dicA mg), O.lst ((dicA mg).map (·.1)), O.lst ((sortI (mg.map (·.1))).map D.int)]) B x r ∧ SG B (N + j) (whs mg S ((sortK mg).take j))) (Nat.le_of_eq sz.symm) ⟨none, x.r, rfl, hA', Fr.refl _ _, g.keep (LstKeep.app _ _)⟩ ?_ ?_
  · rintro j E B hj ⟨e2, r, rfl, hB, f, gB⟩
    obtain ⟨k, hk⟩ : ∃ k, (sortK mg)[j]? = some k := ⟨_, List.getElem?_eq_getElem hj⟩
    obtain ⟨k0, k8, km⟩ := hmk k (List.mem_of_getElem? hk)
    have b2 := G0 2 _ (by omega) rfl B r f
    have b0 := G0 0 _ (by omega) rfl B r f
    rw [Nat.add_zero] at b0
    refine ⟨.int k, by rw [at_lst (ds := (sortI (mg.map (·.1))).map D.int) (by rw [b2]; rfl), List.getElem?_map, show (sortI (mg.map (·.1)))[j]? = some k from hk]; rfl, tsat_of ?_⟩
    obtain ⟨sP, sS, sg, sl⟩ := whs_same mg ((sortK mg).take j) S
    generalize hT : whs mg S ((sortK mg).take j) = T at *
    have hs2 : B[x.s]? = some (.ins 1 [(2, .int T.P), (3, .int T.S), (4, .ref x.b), (5, .ref x.d), (6, .tup (T.tr.map evD)), (7, hdD T.hn T.hf T.hs), (8, .tup (T.grs.map grD)), (9, .ref x.c), (10, .int T.ng), (11, .int T.ns), (12, .ref r), (13, .int T.rd), (14, .tup (T.pu.map puD)), (15, .int T.de), (16, .int T.sd)]) := hB.s
    have e1 : whs mg S ((sortK mg).take (j + 1)) = wh1 mg T k := by rw [take_snoc hk, whs_snoc, hT]
    have gn : SG B (N + (j + 1)) (wh1 mg T k) := gB.wh1 k0 k8 (by omega)
    rw [e1]
    by_cases z : k < T.P
    · have hi : isIns 1 B (.ref x.s) = true := isIns_of hB.s
      have e3 : wh1 mg T k = T.wr (2 + T.S + k) (rowD (getA mg k)) := if_pos z
      have w := store_write_sat hB gB (by omega) (p := 2 + T.S + k) (v := rowD (getA mg k)) (by have := g.S0; omega) (by have := g.len; omega) (row_PV B (by omega))
      simp [hs2, z, hi, cl, home_plate_ok, b0, valF_dicA k mg km]
      refine w.mono ?_
      rintro d C ⟨rfl, r2, hC, fC, gC⟩
      refine ⟨r2, ?_, f.trans fC, ?_⟩
      · rw [e3]; exact hC
      · rw [e3]; exact gC
    · have e3 : wh1 mg T k = T := if_neg z
      simp [hs2, z]
      rw [e3] at gn ⊢
      exact ⟨_, hB, f, gn⟩
  · rintro E B ⟨e2, r, rfl, hB, f, gB⟩
    have b2 := G0 2 _ (by omega) rfl B r f
    refine ⟨by rw [at_lst (ds := (sortI (mg.map (·.1))).map D.int) (by rw [b2]; rfl), List.getElem?_eq_none (by simp [sortK])]; rfl, ?_⟩
    rw [List.take_length] at hB gB
    have hi : isIns 1 B (.ref x.s) = true := isIns_of hB.s
    simp [hi]
    refine (store_barrier_sat hB gB (by omega)).mono ?_
    rintro d C ⟨rfl, r2, hC, fC, gC⟩
    have fin : (whs mg S (sortK mg)).bar = S.whome := by unfold Sto.whome; rw [hmg]
    rw [fin] at hC gC
    have fA := (f0.trans f).trans fC
    exact gc_stp h hC fA (g.whome hN)
def Sto.lay (S : Sto) : Sto := if S.grs = [] then S else S.settle.whome.turn
theorem SG.lay {A : AH} {N : Nat} {S : Sto} (g : SG A N S) (hN : N + 1004 ≤ 1000000) : SG A (N + 1004) S.lay := by
  unfold Sto.lay
  split
  · exact g.mono (by omega)
  · exact (g.settle.whome (by omega)).turn (by omega)
theorem eqD_nil (ds : List D) : eqD (.tup ds) (.tup []) = ds.isEmpty := by
  cases ds <;> simp [eqD, PyData.eqv, PyData.eqvAll]
theorem cg_pur (n : Nat) (ch : Chg) : purs (n + 3) (ch.map cgD) = true := (purs_iff _ _).mpr fun d hd => by
  obtain ⟨q, _, rfl⟩ := List.mem_map.mp hd
  simp [cgD, purs_ints]
theorem gr_pur (n : Nat) (grs : List (Int × Int × Chg)) : purs (n + 5) (grs.map grD) = true := (purs_iff _ _).mpr fun d hd => by
  obtain ⟨g, _, rfl⟩ := List.mem_map.mp hd
  simp [grD, cg_pur]
theorem lay_sat {A : AH} {N : Nat} {x : SX} {S : Sto} (h : StoAt A x S) (g : SG A N S) (hN : N + 1004 ≤ 1000000) : (F_Store_lay [.ref x.s] A).sat (Stp A x (N + 1004) S.lay) := by
  refine sat_def rfl ?_
  simp only [b_Store_lay, startE]
  have hs' : A[x.s]? = some (.ins 1 [(2, .int S.P), (3, .int S.S), (4, .ref x.b), (5, .ref x.d), (6, .tup (S.tr.map evD)), (7, hdD S.hn S.hf S.hs), (8, .tup (S.grs.map grD)), (9, .ref x.c), (10, .int S.ng), (11, .int S.ns), (12, .ref x.r), (13, .int S.rd), (14, .tup (S.pu.map puD)), (15, .int S.de), (16, .int S.sd)]) := h.s
  have hi : isIns 1 A (.ref x.s) = true := isIns_of h.s
  have q : opEq [.tup (S.grs.map grD), .tup []] A = .ok (.bl (S.grs.map grD).isEmpty) A := by
    rw [opEq_pur (by rw [pur_tup]; exact gr_pur 54 S.grs) (by simp), eqD_nil]
  by_cases z : S.grs = []
  · have e : S.lay = S := if_pos z
    rw [z] at q
    rw [z] at hs'
    simp at q
    rw [e]
    simp [hs', line, q]
    exact ⟨rfl, x.r, h, Fr.refl _ _, g.mono (by omega)⟩
  · have e : S.lay = S.settle.whome.turn := if_neg z
    have hne : (S.grs.map grD).isEmpty = false := by cases hg : S.grs with
      | nil => exact absurd hg z
      | cons _ _ => rfl
    rw [hne] at q
    have hgl := g.lay hN
    rw [e] at hgl ⊢
    simp [hs', line, q, hi, cl]
    refine (settle_sat h g (by omega)).mono ?_
    rintro d B ⟨rfl, r1, hB, fB, gB⟩
    have hi1 : isIns 1 B (.ref x.s) = true := isIns_of hB.s
    simp [hi1]
    refine (whome_sat hB gB (by omega)).mono ?_
    rintro d C ⟨rfl, r2, hC, fC, gC⟩
    have hi2 : isIns 1 C (.ref x.s) = true := isIns_of hC.s
    simp [hi2]
    refine (turn_sat hC gC (by omega)).mono ?_
    rintro d D ⟨rfl, r3, hD, fD, gD⟩
    exact gc_stp h hD ((fB.trans fC).trans fD) hgl
end Lw
set_option Elab.async false
set_option linter.all false
set_option maxRecDepth 100000
set_option maxHeartbeats 4000000
/-! The store pushes (own work). -/
namespace Lw
open PySem DL
def wr1 (g n m : Int) (S : Sto) (q : (Int × List Int) × Nat) : Sto := S.wr (2 + (n + (q.2 : Nat)).fmod S.S) (lpD g (q.2 : Nat) m q.1)
def wrs (g n m : Int) (S : Sto) (l : List ((Int × List Int) × Nat)) : Sto := List.foldl (wr1 g n m) S l
theorem wrs_snoc (g n m : Int) (S : Sto) (l : List ((Int × List Int) × Nat)) (q) : wrs g n m S (l ++ [q]) = wr1 g n m (wrs g n m S l) q := List.foldl_append
theorem wrs_same (g n m : Int) : ∀ (l : List ((Int × List Int) × Nat)) (S : Sto), (wrs g n m S l).P = S.P ∧ (wrs g n m S l).S = S.S ∧ (wrs g n m S l).ng = S.ng ∧ (wrs g n m S l).ns = S.ns ∧ (wrs g n m S l).dev.st.length = S.dev.st.length
  | [], S => ⟨rfl, rfl, rfl, rfl, rfl⟩
  | q :: l, S => wrs_same g n m l (wr1 g n m S q)
theorem wrs_same2 (g n m : Int) : ∀ (l : List ((Int × List Int) × Nat)) (S : Sto), (wrs g n m S l).grs = S.grs ∧ (wrs g n m S l).pu = S.pu ∧ (wrs g n m S l).de = S.de ∧ (wrs g n m S l).rd = S.rd ∧ (wrs g n m S l).hn = S.hn ∧ (wrs g n m S l).hf = S.hf ∧ (wrs g n m S l).hs = S.hs ∧ (wrs g n m S l).cells = S.cells ∧ (wrs g n m S l).beg = S.beg ∧ (wrs g n m S l).sd = S.sd ∧ (wrs g n m S l).run = S.run
  | [], S => ⟨rfl, rfl, rfl, rfl, rfl, rfl, rfl, rfl, rfl, rfl, rfl⟩
  | q :: l, S => wrs_same2 g n m l (wr1 g n m S q)
theorem SG.wr1 {A : AH} {N : Nat} {S : Sto} (g : SG A N S) (a n m : Int) {q : (Int × List Int) × Nat} (h8 : q.1.2.length = 8) (hN : N < 1000000) : SG A (N + 1) (wr1 a n m S q) := by
  have h1 := Int.fmod_nonneg_of_pos (n + (q.2 : Nat)) g.S0
  have h2 := Int.fmod_lt_of_pos (n + (q.2 : Nat)) g.S0
  refine g.wr (by omega) (by have := g.len; have := g.P0; omega) (.inr (.inl ⟨_, rfl, ?_, ?_⟩)) hN
  · simp [scal, List.all_map]
  · simp [h8]
theorem SG.wrs {A : AH} (a n m : Int) : ∀ {l : List ((Int × List Int) × Nat)} {N : Nat} {S : Sto}, SG A N S → (∀ q ∈ l, q.1.2.length = 8) → N + l.length ≤ 1000000 → SG A (N + l.length) (wrs a n m S l)
  | [], N, S, g, _, _ => g
  | q :: l, N, S, g, h, hN => by
    have hN' : N + (l.length + 1) ≤ 1000000 := by simpa using hN
    have := SG.wrs a n m (l := l) (g.wr1 a n m (h q List.mem_cons_self) (by omega)) (fun k hk => h k (List.mem_cons_of_mem _ hk)) (by omega)
    rw [List.length_cons, show N + (l.length + 1) = N + 1 + l.length by omega]
    exact this
/-- the rows of a group are written -/
def Sto.rows (S : Sto) (ch : Chg) : Sto := wrs S.ng S.ns ch.length S ch.zipIdx
def Sto.pend (S : Sto) (b : Int) (ch : Chg) : Sto := { S.rows ch with grs := S.grs ++ [(S.ng, S.ns, ch)], pu := S.pu ++ [(b, ((S.rows ch).tr.length : Int), S.de)], ng := S.ng + 1, ns := S.ns + ch.length, run := [], rd := 0 }
def Sto.room (S : Sto) (ch : Chg) : Sto := if S.S < (chSum S.grs : Int) + ch.length then S.lay else S
def Sto.push (S : Sto) : Sto := if S.rd = 0 then S else (S.room (srtA S.run)).pend ((S.room (srtA S.run)).tr.length : Int) (srtA S.run)
theorem srtA_8 {P : Int} {ch : Chg} (g : ChgG P ch) : ∀ q ∈ srtA ch, 0 ≤ q.1 ∧ q.1 < P ∧ q.2.length = 8 := fun q hq => by
  obtain ⟨k, hk, rfl⟩ := List.mem_map.mp hq
  exact g.key _ (getA_mem (sortI_mem.mp hk))
theorem SG.room {A : AH} {N : Nat} {S : Sto} (g : SG A N S) (ch : Chg) (hN : N + 1004 ≤ 1000000) : SG A (N + 1004) (S.room ch) ∧ ((chSum (S.room ch).grs : Int) + ch.length ≤ S.S ∨ chSum (S.room ch).grs = 0) := by
  unfold Sto.room
  split
  · refine ⟨g.lay hN, .inr ?_⟩
    unfold Sto.lay
    split
    · rename_i z
      rw [z]; rfl
    · rfl
  · exact ⟨g.mono (by omega), .inl (by omega)⟩
theorem SG.pend {A : AH} {N : Nat} {S : Sto} (g : SG A N S) {ch : Chg} {b : Int} (h8 : ∀ q ∈ ch, 0 ≤ q.1 ∧ q.2.length = 8) (hs : chSum S.grs + ch.length ≤ 1000) (hN : N + 1001 ≤ 1000000) : SG A (N + 1001) (S.pend b ch) := by
  have hz : ch.zipIdx.length = ch.length := by simp
  have gr := g.wrs S.ng S.ns ch.length (l := ch.zipIdx) (fun q hq => by
    have := List.mem_zipIdx hq
    exact (h8 q.1 (List.fst_mem_of_mem_zipIdx hq)).2) (by omega)
  exact
  { gr.mono (show N + ch.zipIdx.length ≤ N + 1001 by omega) with
    grl := by show (S.grs ++ [_]).length ≤ _; have := g.grl; simp; omega
    pul := by show (S.pu ++ [_]).length ≤ _; have := g.pul; simp; omega
    sum := by show chSum (S.grs ++ [_]) ≤ 1000; rw [chSum_snoc]; exact hs
    grk := fun x hx => by
      rcases List.mem_append.mp hx with hx | hx
      · exact g.grk x hx
      · simp at hx; subst hx; exact h8
    run := ⟨fun _ h => (by cases h), by show ([] : Chg).length ≤ 1000; simp, by show (([] : Chg).map (·.1)).Nodup; simp⟩ }
theorem SG.push {A : AH} {N : Nat} {S : Sto} (g : SG A N S) (hN : N + 2005 ≤ 1000000) : SG A (N + 2005) S.push := by
  unfold Sto.push
  split
  · exact g.mono (by omega)
  · obtain ⟨g1, h1⟩ := g.room (srtA S.run) (by omega)
    have hl : (srtA S.run).length ≤ 1000 := by rw [srtA_len]; exact g.run.few
    have := g.S1
    exact (g1.pend (fun q hq => ⟨(srtA_8 g.run q hq).1, (srtA_8 g.run q hq).2.2⟩) (by rcases h1 with h1 | h1 <;> omega) (by omega)).mono (by omega)
def edP (s : Nat) (d : D) : DL.Env := [some (.ref s), none, none, none, none, some d]
def pairOf (ch : Chg) : D → D
  | .int k => cgD (k, getA ch k)
  | _ => .non
theorem StoAt.app {A : AH} {x : SX} {S : Sto} (h : StoAt A x S) (G : AH) : StoAt (A ++ G) x S := ⟨get_left h.s, get_left h.b, get_left h.d, get_left h.c, get_left h.r, h.ne⟩
theorem Fr.app (A G : AH) (x : SX) : Fr A (A ++ G) x x.r := ⟨by simp, fun j o e _ _ _ _ => get_left e, .inl rfl⟩
theorem push_sat {A : AH} {N : Nat} {x : SX} {S : Sto} (h : StoAt A x S) (g : SG A N S) (hN : N + 2005 ≤ 1000000) : (F_Store_push [.ref x.s] A).sat (Stp A x (N + 2005) S.push) := by
  refine sat_def rfl ?_
  have gp := g.push hN
  unfold Sto.push at gp ⊢
  simp only [startE]
  have hs' : A[x.s]? = some (.ins 1 [(2, .int S.P), (3, .int S.S), (4, .ref x.b), (5, .ref x.d), (6, .tup (S.tr.map evD)), (7, hdD S.hn S.hf S.hs), (8, .tup (S.grs.map grD)), (9, .ref x.c), (10, .int S.ng), (11, .int S.ns), (12, .ref x.r), (13, .int S.rd), (14, .tup (S.pu.map puD)), (15, .int S.de), (16, .int S.sd)]) := h.s
  unfold b_Store_push
  by_cases z : S.rd = 0
  · rw [if_pos z] at gp ⊢
    rw [ev_sSeq]
    simp [hs', z]
    exact ⟨rfl, x.r, h, Fr.refl _ _, gp⟩
  rw [if_neg z] at gp ⊢
  refine seq_sat (fun E B => E = [some (.ref x.s), none, none, none, none, none] ∧ B = A) (by simp [hs', z]) ?_
  rintro E B ⟨rfl, rfl⟩
  have hfew := g.run.few
  have hrun : ∀ G : AH, (B ++ G)[x.r]? = some (.dic (dicA S.run)) := fun G => get_left h.r
  have hsG : ∀ G : AH, (B ++ G)[x.s]? = some (.ins 1 [(2, .int S.P), (3, .int S.S), (4, .ref x.b), (5, .ref x.d), (6, .tup (S.tr.map evD)), (7, hdD S.hn S.hf S.hs), (8, .tup (S.grs.map grD)), (9, .ref x.c), (10, .int S.ng), (11, .int S.ns), (12, .ref x.r), (13, .int S.rd), (14, .tup (S.pu.map puD)), (15, .int S.de), (16, .int S.sd)]) := fun G => get_left hs'
  generalize hch : srtA S.run = ch at *
  have hchl : ch.length ≤ 1000 := by rw [← hch, srtA_len]; exact hfew
  have hch8 : ∀ q ∈ ch, 0 ≤ q.1 ∧ q.2.length = 8 := fun q hq => by
    rw [← hch] at hq
    exact ⟨(srtA_8 g.run q hq).1, (srtA_8 g.run q hq).2.2⟩
  refine seq_sat (fun E C => ∃ G, E = [some (.ref x.s), some (.tup (ch.map cgD)), none, none, none, none] ∧ C = B ++ G) ?_ ?_
  · have i1 : intsOf ((dicA S.run).map (·.1)) = some (S.run.map (·.1)) := by rw [dicA_keys, ints_some]
    have hG2 : (B ++ [O.lst ((dicA S.run).map (·.1)), O.lst ((sortI (S.run.map (·.1))).map D.int)])[B.length + 1]? = some (.lst ((sortI (S.run.map (·.1))).map D.int)) := by
      rw [List.getElem?_append_right (by omega), show B.length + 1 - B.length = 1 by omega]
      rfl
    have hsl : (sortI (S.run.map (·.1))).length = S.run.length := by rw [sortI_len, List.length_map]
    have q := lc_map (src := .lst (B.length + 1)) (g := gName 5) (e := eF mkTup (aCons (eVar 5) (aCons (eF opGet (aCons (eF (fFld [1] 12) (aCons (eVar 0) aNil)) (aCons (eVar 5) aNil))) aNil))) (E := [some (D.ref x.s), none, none, none, none, none]) (A := B ++ [O.lst ((dicA S.run).map (·.1)), O.lst ((sortI (S.run.map (·.1))).map D.int)]) (ds := (sortI (S.run.map (·.1))).map D.int) (edP x.s) (pairOf S.run)
      (by simp [line, hsl]; omega) (by rw [size_lst (ds := (sortI (S.run.map (·.1))).map D.int) (by rw [hG2]; rfl)]) (fun G k => by rw [at_lst (ds := (sortI (S.run.map (·.1))).map D.int) (by rw [List.getElem?_append_left (by simp), hG2]; rfl)]) (fun d _ G => rfl)
      (fun d hd G => by
        obtain ⟨k, hk, rfl⟩ := List.mem_map.mp hd
        have hk' := sortI_mem.mp hk
        simp [edP, hsG, hrun, valF_dicA k S.run hk', pairOf, cgD, line])
    have e2 : ((sortI (S.run.map (·.1))).map D.int).map (pairOf S.run) = ch.map cgD := by
      rw [← hch]
      unfold srtA sortK
      rw [List.map_map, List.map_map]
      rfl
    rw [e2] at q
    simp [hs', h.r, i1, q]
  rintro E C ⟨G, rfl, rfl⟩
  have hC := h.app G
  have gC := g.keep (LstKeep.app B G)
  have hi : isIns 1 (B ++ G) (.ref x.s) = true := isIns_of hC.s
  refine seq_sat (fun E D => ∃ r, E = [some (.ref x.s), some (.tup (ch.map cgD)), none, none, none, none] ∧ StoAt D { x with r := r } (S.room ch) ∧ Fr (B ++ G) D x r ∧ SG D (N + 1004) (S.room ch)) ?_ ?_
  · have hu := used_ok hC gC (by omega)
    unfold Sto.room
    by_cases y : S.S < (chSum S.grs : Int) + ch.length
    · rw [if_pos y]
      simp [hi, cl, hu, hsG, y]
      refine (lay_sat hC gC (by omega)).mono ?_
      rintro d D ⟨rfl, r, hD, fD, gD⟩
      exact ⟨r, hD, fD, gD⟩
    · rw [if_neg y]
      simp [hi, cl, hu, hsG, y]
      exact ⟨x.r, hC, Fr.refl _ _, gC.mono (by omega)⟩
  rintro E D ⟨r, rfl, hD, fD, gD⟩
  obtain ⟨_, h1⟩ := g.room ch (by omega)
  generalize hT : S.room ch = T at *
  have fBD : Fr B D x r := (Fr.app B G x).trans fD
  have hsD : D[x.s]? = some (.ins 1 [(2, .int T.P), (3, .int T.S), (4, .ref x.b), (5, .ref x.d), (6, .tup (T.tr.map evD)), (7, hdD T.hn T.hf T.hs), (8, .tup (T.grs.map grD)), (9, .ref x.c), (10, .int T.ng), (11, .int T.ns), (12, .ref r), (13, .int T.rd), (14, .tup (T.pu.map puD)), (15, .int T.de), (16, .int T.sd)]) := hD.s
  refine seq_sat (fun E D' => E = [some (.ref x.s), some (.tup (ch.map cgD)), some (.int T.tr.length), none, none, none] ∧ D' = D) (by simp [hsD]) ?_
  rintro E D' ⟨rfl, rfl⟩
  refine seq_sat (fun E M => ∃ r' e3 e4, E = [some (.ref x.s), some (.tup (ch.map cgD)), some (.int T.tr.length), e3, e4, none] ∧ StoAt M { x with r := r' } (T.rows ch) ∧ Fr D' M { x with r := r } r' ∧ SG M (N + 1004 + ch.length) (T.rows ch)) ?_ ?_
  · have ql := log_rows_ok (A := D') T.ng hchl (fun q hq => (hch8 q hq).2)
    simp [hsD, cl, ql]
    have hz : ch.zipIdx.length = ch.length := by simp
    have hrl := rowsFrom_len T.ng ch.length ch 0
    have hD2 := hD.app [O.lst (rowsFrom T.ng ch.length 0 ch)]
    have keep2 : ∀ (M : AH) (r' : Nat), Fr (D' ++ [O.lst (rowsFrom T.ng ch.length 0 ch)]) M { x with r := r } r' → M[D'.length]? = some (.lst (rowsFrom T.ng ch.length 0 ch)) := fun M r' f => by
      refine f.keep _ _ (by simp) ?_ ?_ ?_ ?_
      · have : x.s < D'.length := lt_of hD.s
        show D'.length ≠ x.s
        omega
      · have : x.d < D'.length := lt_of hD.d
        show D'.length ≠ x.d
        omega
      · have : x.c < D'.length := lt_of hD.c
        show D'.length ≠ x.c
        omega
      · have : r < D'.length := lt_of hD.r
        show D'.length ≠ r
        omega
    refine for_sat ch.length (fun j E M => ∃ r' e3 e4, E = [some (.ref x.s), some (.tup (ch.map cgD)), some (.int T.tr.length), e3, e4, none] ∧ StoAt M { x with r := r' } (wrs T.ng T.ns ch.length T (ch.zipIdx.take j)) ∧ Fr (D' ++ [O.lst (rowsFrom T.ng ch.length 0 ch)]) M { x with r := r } r' ∧ SG M (N + 1004 + j) (wrs T.ng T.ns ch.length T (ch.zipIdx.take j)))
      (by rw [size_enum (ds := rowsFrom T.ng ch.length 0 ch) (by simp), hrl]; exact Nat.le_refl _) ⟨r, none, none, rfl, hD2, Fr.refl _ _, gD.keep (LstKeep.app _ _)⟩ ?_ ?_
    · rintro j E M hj ⟨r', e3, e4, rfl, hM, fM, gM⟩
      obtain ⟨q, hq⟩ : ∃ q, ch[j]? = some q := ⟨_, List.getElem?_eq_getElem hj⟩
      have hzq : ch.zipIdx[j]? = some (q, j) := by rw [List.getElem?_zipIdx, hq]; simp
      have b2 := keep2 M r' fM
      have hrq := rowsFrom_get T.ng ch.length ch 0 j q hq
      rw [Nat.zero_add] at hrq
      refine ⟨.tup [.int j, lpD T.ng j ch.length q], by rw [at_enum (ds := rowsFrom T.ng ch.length 0 ch) (by rw [b2]; rfl), hrq]; rfl, tsat_of ?_⟩
      obtain ⟨sP, sS, sng, sns, sl⟩ := wrs_same T.ng T.ns ch.length (ch.zipIdx.take j) T
      generalize hU : wrs T.ng T.ns ch.length T (ch.zipIdx.take j) = U at *
      have hsM : M[x.s]? = some (.ins 1 [(2, .int U.P), (3, .int U.S), (4, .ref x.b), (5, .ref x.d), (6, .tup (U.tr.map evD)), (7, hdD U.hn U.hf U.hs), (8, .tup (U.grs.map grD)), (9, .ref x.c), (10, .int U.ng), (11, .int U.ns), (12, .ref r'), (13, .int U.rd), (14, .tup (U.pu.map puD)), (15, .int U.de), (16, .int U.sd)]) := hM.s
      have hi : isIns 1 M (.ref x.s) = true := isIns_of hM.s
      have S0 := gM.S0
      have hS : ¬ U.S = 0 := by omega
      have h1 := Int.fmod_nonneg_of_pos (U.ns + (j : Nat)) S0
      have h2 := Int.fmod_lt_of_pos (U.ns + (j : Nat)) S0
      have w := store_write_sat hM gM (by omega) (p := 2 + (U.ns + (j : Nat)).fmod U.S) (v := lpD T.ng j ch.length q) (by omega) (by have := gM.len; have := gM.P0; omega) (.inr (.inl ⟨_, rfl, by simp [scal, List.all_map], by simp [(hch8 q (List.mem_of_getElem? hq)).2]⟩))
      simp [hi, hsM, cl, slot_plate_ok, hS]
      refine w.mono ?_
      rintro d M2 ⟨rfl, r2, hM2, fM2, gM2⟩
      have e5 : wrs T.ng T.ns ch.length T (ch.zipIdx.take (j + 1)) = U.wr (2 + (U.ns + (j : Nat)).fmod U.S) (lpD T.ng j ch.length q) := by
        rw [take_snoc hzq, wrs_snoc, hU, sns]
        rfl
      rw [e5]
      exact ⟨r2, hM2, fM.trans fM2, gM2⟩
    · rintro E M ⟨r', e3, e4, rfl, hM, fM, gM⟩
      refine ⟨by rw [at_enum (ds := rowsFrom T.ng ch.length 0 ch) (by rw [keep2 M r' fM]; rfl), List.getElem?_eq_none (by omega)]; rfl, ?_⟩
      rw [List.take_of_length_le (by omega)] at hM gM
      have f2 : Fr D' M { x with r := r } r' := (Fr.app D' _ { x with r := r }).trans fM
      exact ⟨⟨e3, e4, rfl⟩, r', hM, f2, gM⟩
  rintro E M ⟨r', e3, e4, rfl, hM, fM, gM⟩
  have fBM : Fr B M x r' := fBD.trans fM
  obtain ⟨sP, sS, sng, sns, sl⟩ := wrs_same T.ng T.ns ch.length ch.zipIdx T
  obtain ⟨u1, u2, u3, u4, u5, u6, u7, u8, u9, u10, u11⟩ := wrs_same2 T.ng T.ns ch.length ch.zipIdx T
  have ePE : ({ (T.rows ch) with grs := T.grs ++ [(T.ng, T.ns, ch)], pu := T.pu ++ [((T.tr.length : Int), ((T.rows ch).tr.length : Int), T.de)], ng := T.ng + 1, ns := T.ns + ch.length, run := [], rd := 0 } : Sto) = T.pend (T.tr.length : Int) ch := rfl
  have grl := gD.grl
  have pul := gD.pul
  unfold Sto.rows at hM gM ePE
  generalize hU : wrs T.ng T.ns ch.length T ch.zipIdx = U at *
  have hsM : M[x.s]? = some (.ins 1 [(2, .int U.P), (3, .int U.S), (4, .ref x.b), (5, .ref x.d), (6, .tup (U.tr.map evD)), (7, hdD U.hn U.hf U.hs), (8, .tup (U.grs.map grD)), (9, .ref x.c), (10, .int U.ng), (11, .int U.ns), (12, .ref r'), (13, .int U.rd), (14, .tup (U.pu.map puD)), (15, .int U.de), (16, .int U.sd)]) := hM.s
  have hsl : x.s < M.length := lt_of hM.s
  have hss : ∀ o : O, (M.set x.s o)[x.s]? = some o := fun o => List.getElem?_set_self hsl
  have hs3 : ∀ (o : O) (G : AH), (M.set x.s o ++ G)[x.s]? = some o := fun o G => get_left (hss o)
  have hs4 : ∀ (o o' : O) (G : AH), (M.set x.s o ++ G).set x.s o' = M.set x.s o' ++ G := fun o o' G => by
    rw [List.set_append_left _ _ (by simpa using hsl), List.set_set]
  have c1 : (U.grs.map grD).length + 1 ≤ 16777216 := by rw [List.length_map, u1]; omega
  have c2 : (U.pu.map puD).length + 1 ≤ 16777216 := by rw [List.length_map, u2]; omega
  have c1' : U.grs.length + 1 ≤ 16777216 := by simpa using c1
  have c2' : U.pu.length + 1 ≤ 16777216 := by simpa using c2
  simp [hsM, hss, hs3, hs4, line, c1', c2']
  have eO : (O.ins 1 [(2, .int U.P), (3, .int U.S), (4, .ref x.b), (5, .ref x.d), (6, .tup (U.tr.map evD)), (7, hdD U.hn U.hf U.hs), (8, .tup (U.grs.map grD ++ [.tup [.int U.ng, .int U.ns, .tup (ch.map cgD)]])), (9, .ref x.c), (10, .int (U.ng + 1)), (11, .int (U.ns + ch.length)), (12, .ref M.length), (13, .int 0), (14, .tup (U.pu.map puD ++ [.tup [.int T.tr.length, .int U.tr.length, .int U.de]])), (15, .int U.de), (16, .int U.sd)]) = stoO { x with r := M.length } (T.pend (T.tr.length : Int) ch) := by
    rw [← ePE]
    simp [stoO, u1, u2, u3, sng, sns, grD, puD]
  rw [eO]
  have hM2 : StoAt (M.set x.s (stoO { x with r := M.length } (T.pend (T.tr.length : Int) ch)) ++ [.dic []]) { x with r := M.length } (T.pend (T.tr.length : Int) ch) := by
    obtain ⟨n1, n2, n3, n4, n5, n6, n7, n8⟩ := hM.nes
    refine ⟨get_left (hss _), get_left ?_, get_left ?_, get_left ?_, ?_, hM.ne.1, ?_⟩
    · show (M.set x.s _)[x.b]? = _
      rw [List.getElem?_set_ne n1, hM.b, ← ePE]
    · show (M.set x.s _)[x.d]? = _
      rw [List.getElem?_set_ne n2, hM.d, ← ePE]
    · show (M.set x.s _)[x.c]? = _
      rw [List.getElem?_set_ne n3, hM.c, ← ePE]
    · rw [← ePE]
      show (M.set x.s _ ++ [O.dic []])[M.length]? = _
      rw [List.getElem?_append_right (by simp)]
      simp [dicA]
    · have : x.c < M.length := lt_of hM.c
      show x.c ≠ M.length
      omega
  have f3 : Fr B (M.set x.s (stoO { x with r := M.length } (T.pend (T.tr.length : Int) ch)) ++ [.dic []]) x M.length := by
    refine ⟨by have := fBM.le; simp; omega, fun j o e a1 a2 a3 a4 => get_left ?_, .inr fBM.le⟩
    rw [List.getElem?_set_ne (Ne.symm a1)]
    exact fBM.keep j o e a1 a2 a3 a4
  exact gc_stp h hM2 f3 gp
end Lw
set_option Elab.async false
set_option linter.all false
set_option maxRecDepth 100000
set_option maxHeartbeats 4000000
/-! The store's deeds (own work). -/
namespace Lw
open PySem DL
def keyN (run told : Chg) : Nat := (setN (run.map (·.1) ++ told.map (·.1))).length
def Sto.full (S : Sto) (told : Chg) : Sto := if S.S < (keyN S.run told : Int) then S.push else S
def Sto.doit (S : Sto) (told : Chg) : Sto := { S with run := mergeA S.run told, cells := layC S.cells told, rd := S.rd + 1, de := S.de + 1 }
def Sto.put (S : Sto) (ch : Chg) : Sto := if ch = [] then S else (S.full (srtA ch)).doit (srtA ch)
theorem mergeA_ok {P : Int} {run told : Chg} (hP : P ≤ 100) (h : ChgG P run) (k : ∀ q ∈ told, 0 ≤ q.1 ∧ q.1 < P ∧ q.2.length = 8) : ChgG P (mergeA run told) := by
  have nd := mergeA_nd told run h.nd
  have key : ∀ q ∈ mergeA run told, 0 ≤ q.1 ∧ q.1 < P ∧ q.2.length = 8 := fun q hq => by
    rcases mergeA_mem hq with e | e
    · exact h.key q e
    · exact k q e
  refine ⟨key, ?_, nd⟩
  have := nd_len 100 _ nd fun x hx => by
    obtain ⟨q, hq, rfl⟩ := List.mem_map.mp hx
    have := key q hq
    omega
  rw [List.length_map] at this
  omega
theorem layC_8 : ∀ {ch : Chg} {cs : List (List Int)}, (∀ c ∈ cs, c.length = 8) → (∀ q ∈ ch, q.2.length = 8) → ∀ c ∈ layC cs ch, c.length = 8
  | [], _, h, _ => h
  | q :: ch, cs, h, k => by
    rw [layC_cons]
    refine layC_8 (fun c hc => ?_) fun r hr => k r (List.mem_cons_of_mem _ hr)
    unfold layS at hc
    split at hc
    · rcases List.mem_or_eq_of_mem_set hc with e | e
      · exact h c e
      · rw [e]; exact k q List.mem_cons_self
    · exact h c hc
theorem SG.doit {A : AH} {N : Nat} {S : Sto} (g : SG A N S) {told : Chg} (k : ∀ q ∈ told, 0 ≤ q.1 ∧ q.1 < S.P ∧ q.2.length = 8) : SG A N (S.doit told) :=
  { g with
    cel := by show (layC S.cells told).length = _; rw [layC_len]; exact g.cel
    cel8 := layC_8 g.cel8 fun q hq => (k q hq).2.2
    run := mergeA_ok g.P1 g.run k }
theorem push_same (S : Sto) : S.push.P = S.P ∧ S.push.S = S.S ∧ S.push.cells = S.cells := by
  have hl : ∀ S : Sto, S.lay.P = S.P ∧ S.lay.S = S.S ∧ S.lay.cells = S.cells := fun S => by
    unfold Sto.lay
    split
    · exact ⟨rfl, rfl, rfl⟩
    · have hw : ∀ S : Sto, S.whome.P = S.P ∧ S.whome.S = S.S ∧ S.whome.cells = S.cells := fun S => by
        have hc : ∀ (ks : List Int) (S : Sto) (mg : Chg), (whs mg S ks).cells = S.cells := by
          intro ks
          induction ks with
          | nil => intro S mg; rfl
          | cons k ks ih =>
            intro S mg
            show (whs mg (wh1 mg S k) ks).cells = _
            rw [ih]
            unfold wh1
            split <;> rfl
        obtain ⟨a, b, _, _⟩ := whs_same (mergedG S.grs) (sortK (mergedG S.grs)) S
        exact ⟨a, b, hc _ _ _⟩
      obtain ⟨a, b, c⟩ := hw S.settle
      exact ⟨a, b, c⟩
  unfold Sto.push
  split
  · exact ⟨rfl, rfl, rfl⟩
  · have hr : ∀ ch, (S.room ch).P = S.P ∧ (S.room ch).S = S.S ∧ (S.room ch).cells = S.cells := fun ch => by
      unfold Sto.room
      split
      · exact hl S
      · exact ⟨rfl, rfl, rfl⟩
    obtain ⟨a, b, c⟩ := hr (srtA S.run)
    obtain ⟨a2, b2, _⟩ := wrs_same (S.room (srtA S.run)).ng (S.room (srtA S.run)).ns (srtA S.run).length (srtA S.run).zipIdx (S.room (srtA S.run))
    obtain ⟨_, _, _, _, _, _, _, c2, _⟩ := wrs_same2 (S.room (srtA S.run)).ng (S.room (srtA S.run)).ns (srtA S.run).length (srtA S.run).zipIdx (S.room (srtA S.run))
    exact ⟨a2.trans a, b2.trans b, c2.trans c⟩
theorem SG.put {A : AH} {N : Nat} {S : Sto} (g : SG A N S) {ch : Chg} (hc : ChgG S.P ch) (hN : N + 2005 ≤ 1000000) : SG A (N + 2005) (S.put ch) := by
  unfold Sto.put
  split
  · exact g.mono (by omega)
  · have hk := srtA_8 hc
    unfold Sto.full
    split
    · exact (g.push hN).doit fun q hq => by rw [(push_same S).1]; exact hk q hq
    · exact (g.mono (by omega)).doit hk
/-- the dicts of the store are changed -/
theorem StoAt.setRC {A : AH} {x : SX} {S : Sto} (h : StoAt A x S) (run : Chg) (cells : List (List Int)) : StoAt ((A.set x.r (.dic (dicA run))).set x.c (.dic (dicA (cellsA 0 cells)))) x { S with run := run, cells := cells } := by
  obtain ⟨n1, n2, n3, n4, n5, n6, n7, n8⟩ := h.nes
  refine ⟨?_, ?_, ?_, ?_, ?_, h.ne⟩
  · rw [List.getElem?_set_ne (Ne.symm n3), List.getElem?_set_ne (Ne.symm n4)]; exact h.s
  · rw [List.getElem?_set_ne (Ne.symm n7), List.getElem?_set_ne (Ne.symm n8)]; exact h.b
  · rw [List.getElem?_set_ne (Ne.symm n5), List.getElem?_set_ne (Ne.symm n6)]; exact h.d
  · rw [List.getElem?_set_self (by rw [List.length_set]; exact lt_of h.c)]
  · rw [List.getElem?_set_ne h.ne.2, List.getElem?_set_self (lt_of h.r)]
theorem Fr.setRC {A : AH} {x : SX} (o1 o2 : O) : Fr A ((A.set x.r o1).set x.c o2) x x.r := ⟨by simp, fun j o e _ _ h3 h4 => by rw [List.getElem?_set_ne (Ne.symm h3), List.getElem?_set_ne (Ne.symm h4)]; exact e, .inl rfl⟩
def edT (a b c : D) : D → DL.Env
  | .tup [x, y] => [some a, some b, some c, some x, some y]
  | _ => []
def fstD : D → D
  | .tup [x, _] => x
  | _ => .non
theorem intsOf_app {xs ys : List D} {ns ms : List Int} (h : intsOf xs = some ns) (k : intsOf ys = some ms) : intsOf (xs ++ ys) = some (ns ++ ms) := by
  rw [intsOf_get h, intsOf_get k, ← List.map_append, ints_some]
theorem put_sat {A : AH} {N : Nat} {x : SX} {S : Sto} (h : StoAt A x S) (g : SG A N S) (hN : N + 2005 ≤ 1000000) {cd : Nat} {ch : Chg} (hcd : A[cd]? = some (.dic (dicA ch))) (hc : ChgG S.P ch) (hle : (ch.length : Int) ≤ S.S) : (F_Store_put [.ref x.s, .ref cd] A).sat (Stp A x (N + 2005) (S.put ch)) := by
  refine sat_def rfl ?_
  have gp := g.put hc hN
  have hk := srtA_8 hc
  have hsl := srtA_len ch
  unfold Sto.put at gp ⊢
  simp only [startE]
  have hs' : A[x.s]? = some (.ins 1 [(2, .int S.P), (3, .int S.S), (4, .ref x.b), (5, .ref x.d), (6, .tup (S.tr.map evD)), (7, hdD S.hn S.hf S.hs), (8, .tup (S.grs.map grD)), (9, .ref x.c), (10, .int S.ng), (11, .int S.ns), (12, .ref x.r), (13, .int S.rd), (14, .tup (S.pu.map puD)), (15, .int S.de), (16, .int S.sd)]) := h.s
  unfold b_Store_put
  have qc := checked_changes_ok hcd hc
  have hem : srtA ch = [] ↔ ch = [] := by
    constructor
    · intro e
      have : ch.length = 0 := by rw [← hsl, e]; rfl
      exact List.eq_nil_of_length_eq_zero this
    · intro e; exact List.eq_nil_of_length_eq_zero (by rw [hsl, e]; rfl)
  generalize htold : srtA ch = told at *
  refine seq_sat (fun E B => E = [some (.ref x.s), some (.ref cd), some (.tup (told.map cgD)), none, none] ∧ B = A) (by simp [hs', cl, qc]) ?_
  rintro E B ⟨rfl, rfl⟩
  refine seq_sat (fun E C => E = [some (.ref x.s), some (.ref cd), some (.tup (told.map cgD)), none, none] ∧ C = B) (by simp [hs', show ¬ S.S < (told.length : Int) by omega]) ?_
  rintro E C ⟨rfl, rfl⟩
  have q : opEq [.tup (told.map cgD), .tup []] C = .ok (.bl (told.map cgD).isEmpty) C := by
    rw [opEq_pur (by rw [pur_tup]; exact cg_pur 56 told) (by simp), eqD_nil]
  by_cases z : ch = []
  · rw [if_pos z] at gp ⊢
    have e : told = [] := hem.mpr z
    rw [e] at q
    simp at q
    rw [ev_sSeq]
    simp [e, line, q]
    exact ⟨rfl, x.r, h, Fr.refl _ _, gp⟩
  rw [if_neg z] at gp ⊢
  have hne : (told.map cgD).isEmpty = false := by
    cases hg : told with
    | nil => exact absurd (hem.mp hg) z
    | cons _ _ => rfl
  rw [hne] at q
  refine seq_sat (fun E M0 => E = [some (.ref x.s), some (.ref cd), some (.tup (told.map cgD)), none, none] ∧ M0 = C) (by simp [line, q]) ?_
  rintro E M0 ⟨rfl, rfl⟩
  have hfew := g.run.few
  have hlt : told.length ≤ 1000 := by have := hc.few; omega
  refine seq_sat (fun E M => ∃ r, E = [some (.ref x.s), some (.ref cd), some (.tup (told.map cgD)), none, none] ∧ StoAt M { x with r := r } (S.full told) ∧ Fr M0 M x r ∧ SG M (N + 2005) (S.full told)) ?_ ?_
  · have ql := lc_map (src := .seq (told.map cgD)) (g := gTup 2 (gCons (gName 3) (gCons (gName 4) gNil))) (e := eVar 3) (E := [some (D.ref x.s), some (.ref cd), some (.tup (told.map cgD)), none, none]) (A := M0) (ds := told.map cgD) (edT (.ref x.s) (.ref cd) (.tup (told.map cgD))) fstD
      (by simp [line]; omega) rfl (fun _ _ => rfl)
      (fun d hd G => by
        obtain ⟨p, _, rfl⟩ := List.mem_map.mp hd
        rfl)
      (fun d hd G => by
        obtain ⟨p, _, rfl⟩ := List.mem_map.mp hd
        rfl)
    have e2 : (told.map cgD).map fstD = (told.map (·.1)).map D.int := by
      rw [List.map_map, List.map_map]
      rfl
    rw [e2] at ql
    have i1 : intsOf ((dicA S.run).map (·.1) ++ (told.map (·.1)).map D.int) = some (S.run.map (·.1) ++ told.map (·.1)) := intsOf_app (by rw [dicA_keys, ints_some]) (ints_some _)
    have c1 : S.run.length + told.length ≤ 4000 := by omega
    have c2 : S.run.length + told.length ≤ 16777216 := by omega
    have i1' : intsOf (List.map (fun x => x.fst) (dicA S.run) ++ List.map (D.int ∘ fun x => x.fst) told) = some (S.run.map (·.1) ++ told.map (·.1)) := by
      have := i1
      rwa [List.map_map] at this
    have kn : (setN (S.run.map (·.1) ++ told.map (·.1))).length = keyN S.run told := rfl
    have G0 : StoAt (M0 ++ [O.lst ((told.map (·.1)).map D.int), O.lst ((dicA S.run).map (·.1) ++ (told.map (·.1)).map D.int)]) x S := h.app _
    have gG : SG (M0 ++ [O.lst ((told.map (·.1)).map D.int), O.lst ((dicA S.run).map (·.1) ++ (told.map (·.1)).map D.int)]) N S := g.keep (LstKeep.app _ _)
    have hsG : (M0 ++ [O.lst ((told.map (·.1)).map D.int), O.lst ((dicA S.run).map (·.1) ++ (told.map (·.1)).map D.int)])[x.s]? = some (.ins 1 [(2, .int S.P), (3, .int S.S), (4, .ref x.b), (5, .ref x.d), (6, .tup (S.tr.map evD)), (7, hdD S.hn S.hf S.hs), (8, .tup (S.grs.map grD)), (9, .ref x.c), (10, .int S.ng), (11, .int S.ns), (12, .ref x.r), (13, .int S.rd), (14, .tup (S.pu.map puD)), (15, .int S.de), (16, .int S.sd)]) := get_left hs'
    have hrG : (M0 ++ [O.lst ((told.map (·.1)).map D.int)])[x.r]? = some (.dic (dicA S.run)) := get_left h.r
    have hiG : isIns 1 (M0 ++ [O.lst ((told.map (·.1)).map D.int), O.lst ((dicA S.run).map (·.1) ++ (told.map (·.1)).map D.int)]) (.ref x.s) = true := isIns_of G0.s
    have lx : (M0 ++ [O.lst ((told.map (·.1)).map D.int), O.lst ((dicA S.run).map (·.1) ++ (told.map (·.1)).map D.int)])[M0.length + 1]? = some (.lst ((dicA S.run).map (·.1) ++ (told.map (·.1)).map D.int)) := by
      rw [List.getElem?_append_right (by omega), show M0.length + 1 - M0.length = 1 by omega]
      rfl
    rw [List.map_map] at ql G0 gG hsG hrG hiG lx
    unfold Sto.full
    by_cases y : S.S < (keyN S.run told : Int)
    · rw [if_pos y]
      simp [hs', h.r, ql, line, dicA_len, c2, i1', c1, lx, hsG, kn, y, hiG, cl]
      refine (push_sat G0 gG hN).mono ?_
      rintro d M ⟨rfl, r, hM, fM, gM⟩
      exact ⟨r, hM, (Fr.app M0 _ x).trans fM, gM⟩
    · rw [if_neg y]
      simp [hs', h.r, ql, line, dicA_len, c2, i1', c1, lx, hsG, kn, y]
      exact ⟨x.r, G0, Fr.app M0 _ x, gG.mono (by omega)⟩
  rintro E M ⟨r, rfl, hM, fM, gM⟩
  have hP : (S.full told).P = S.P := by
    unfold Sto.full
    split
    · exact (push_same S).1
    · rfl
  generalize hT : S.full told = T at *
  have hk' : ∀ q ∈ told, 0 ≤ q.1 ∧ q.1 < T.P ∧ q.2.length = 8 := fun q hq => by rw [hP]; exact hk q hq
  refine seq_sat (fun E K => ∃ e3 e4, E = [some (.ref x.s), some (.ref cd), some (.tup (told.map cgD)), e3, e4] ∧ StoAt K { x with r := r } { T with run := mergeA T.run told, cells := layC T.cells told } ∧ Fr M0 K x r) ?_ ?_
  · simp
    refine for_sat told.length (fun j E K => ∃ e3 e4, E = [some (.ref x.s), some (.ref cd), some (.tup (told.map cgD)), e3, e4] ∧ StoAt K { x with r := r } { T with run := mergeA T.run (told.take j), cells := layC T.cells (told.take j) } ∧ Fr M0 K x r) (by simp [Src.size]) ⟨none, none, rfl, hM, fM⟩ ?_ ?_
    · rintro j E K hj ⟨e3, e4, rfl, hK, fK⟩
      obtain ⟨q, hq⟩ : ∃ q, told[j]? = some q := ⟨_, List.getElem?_eq_getElem hj⟩
      obtain ⟨k0, k1, k8⟩ := hk' q (List.mem_of_getElem? hq)
      refine ⟨cgD q, seq_at (by rw [List.getElem?_map, hq]; rfl) _, tsat_of ?_⟩
      have hsK : K[x.s]? = some (.ins 1 [(2, .int T.P), (3, .int T.S), (4, .ref x.b), (5, .ref x.d), (6, .tup (T.tr.map evD)), (7, hdD T.hn T.hf T.hs), (8, .tup (T.grs.map grD)), (9, .ref x.c), (10, .int T.ng), (11, .int T.ns), (12, .ref r), (13, .int T.rd), (14, .tup (T.pu.map puD)), (15, .int T.de), (16, .int T.sd)]) := hK.s
      have hrK : K[r]? = some (.dic (dicA (mergeA T.run (told.take j)))) := hK.r
      have hcK : K[x.c]? = some (.dic (dicA (cellsA 0 (layC T.cells (told.take j))))) := hK.c
      obtain ⟨n1, n2, n3, n4, n5, n6, n7, n8⟩ := hK.nes
      have ns1 : ∀ o : O, (K.set r o)[x.s]? = K[x.s]? := fun o => List.getElem?_set_ne (Ne.symm n4)
      have ns2 : ∀ o : O, (K.set r o)[x.c]? = K[x.c]? := fun o => List.getElem?_set_ne (Ne.symm hK.ne.2)
      have hml := mergeA_len (told.take j) T.run
      have htl : (told.take j).length ≤ told.length := by rw [List.length_take]; omega
      have hrf := gM.run.few
      have c1 : (mergeA T.run (told.take j)).length < 16777216 := by omega
      have hcl : (layC T.cells (told.take j)).length = T.P.toNat := by rw [layC_len]; exact gM.cel
      have hP1 := gM.P1
      have c2 : (dicA (cellsA 0 (layC T.cells (told.take j)))).length < 16777216 := by rw [dicA_len, cellsA_len]; omega
      have e1 : mergeA T.run (told.take (j + 1)) = putA (mergeA T.run (told.take j)) q.1 q.2 := by rw [take_snoc hq, mergeA_snoc]
      have e2 : putF' keyD (dicA (cellsA 0 (layC T.cells (told.take j)))) (.int q.1) (.tup (q.2.map D.int)) = dicA (cellsA 0 (layC T.cells (told.take (j + 1)))) := by
        rw [putF_dicA, putA_cells k0 (by omega), take_snoc hq, layC_snoc, if_pos (by omega)]
      have e1' : putF' keyD (dicA (mergeA T.run (told.take j))) (.int q.1) (.tup (q.2.map D.int)) = dicA (mergeA T.run (told.take (j + 1))) := by rw [putF_dicA, e1]
      simp [cgD, hsK, hrK, hcK, ns1, ns2, dicA_len, line, c1, e1', e2]
      have c2' : (cellsA 0 (layC T.cells (told.take j))).length < 16777216 := by rw [← dicA_len]; exact c2
      simp [c2']
      exact ⟨hK.setRC (mergeA T.run (told.take (j + 1))) (layC T.cells (told.take (j + 1))), fK.trans (Fr.setRC (x := { x with r := r }) _ _)⟩
    · rintro E K ⟨e3, e4, rfl, hK, fK⟩
      refine ⟨by rw [← List.length_map (f := cgD)]; exact seq_end _ _, ?_⟩
      rw [List.take_length] at hK
      exact ⟨⟨e3, e4, rfl⟩, hK, fK⟩
  rintro E K ⟨e3, e4, rfl, hK, fK⟩
  have hsK : K[x.s]? = some (.ins 1 [(2, .int T.P), (3, .int T.S), (4, .ref x.b), (5, .ref x.d), (6, .tup (T.tr.map evD)), (7, hdD T.hn T.hf T.hs), (8, .tup (T.grs.map grD)), (9, .ref x.c), (10, .int T.ng), (11, .int T.ns), (12, .ref r), (13, .int T.rd), (14, .tup (T.pu.map puD)), (15, .int T.de), (16, .int T.sd)]) := hK.s
  have hss : ∀ o : O, (K.set x.s o)[x.s]? = some o := fun o => List.getElem?_set_self (lt_of hK.s)
  simp [hsK, hss, List.set_set]
  have eO : (O.ins 1 [(2, .int T.P), (3, .int T.S), (4, .ref x.b), (5, .ref x.d), (6, .tup (T.tr.map evD)), (7, hdD T.hn T.hf T.hs), (8, .tup (T.grs.map grD)), (9, .ref x.c), (10, .int T.ng), (11, .int T.ns), (12, .ref r), (13, .int (T.rd + 1)), (14, .tup (T.pu.map puD)), (15, .int (T.de + 1)), (16, .int T.sd)]) = stoO { x with r := r } (T.doit told) := rfl
  rw [eO]
  exact gc_stp h (hK.set1 (S' := T.doit told) rfl rfl rfl rfl) (fK.trans (Fr.of_set1 (x := { x with r := r }) _)) gp
def Sto.sync (S : Sto) : Sto := S.push.settle
theorem sync_sat {A : AH} {N : Nat} {x : SX} {S : Sto} (h : StoAt A x S) (g : SG A N S) (hN : N + 2006 ≤ 1000000) : (F_Store_sync [.ref x.s] A).sat (Stp A x (N + 2006) S.sync) := by
  refine sat_def rfl ?_
  simp only [b_Store_sync, startE]
  have hi : isIns 1 A (.ref x.s) = true := isIns_of h.s
  simp [hi, cl]
  refine (push_sat h g (by omega)).mono ?_
  rintro d B ⟨rfl, r1, hB, fB, gB⟩
  have hi1 : isIns 1 B (.ref x.s) = true := isIns_of hB.s
  simp [hi1]
  refine (settle_sat hB gB (by omega)).mono ?_
  rintro d C ⟨rfl, r2, hC, fC, gC⟩
  exact gc_stp h hC (fB.trans fC) (g.push (by omega)).settle
end Lw
set_option Elab.async false
set_option linter.all false
set_option maxRecDepth 100000
set_option maxHeartbeats 4000000
/-! Reading a disk (own work). -/
namespace Lw
open PySem DL
theorem ltT_eq (a b : List Int) : ltT a b = PySem.W.listLt a b := (PySem.W.dataLt_tuple _ _).trans (PySem.W.lexAll_map a b)
theorem ltT_ne {a b : Int} {as bs : List Int} (h : a ≠ b) : ltT (a :: as) (b :: bs) = decide (a < b) := by
  rw [ltT_eq, PySem.W.listLt, if_neg h]
  rfl
/-! the head -/
def h3 (v : D) : Int × Int × Int := match v with
  | .tup ds => (iAt ds 0, iAt ds 1, iAt ds 2)
  | _ => (0, 0, 0)
def hd3 (h : Int × Int × Int) : D := hdD h.1 h.2.1 h.2.2
theorem head_form {p : Int} {v : D} (h : isHead p v = true) : ∃ n f s : Int, v = hdD n f s ∧ 0 ≤ n ∧ 0 ≤ f ∧ 0 ≤ s ∧ n.fmod 2 = p := by
  cases v with
  | tup ds =>
    simp only [isHead, Bool.and_eq_true, decide_eq_true_eq] at h
    obtain ⟨⟨h1, h2⟩, ⟨⟨h3, h4⟩, h5⟩, h6⟩ := h
    obtain ⟨a, b, c, rfl⟩ := ints3 h1 h2
    exact ⟨a, b, c, rfl, h3, h4, h5, h6⟩
  | _ => simp [isHead] at h
def rdH (k : Dk) : Option (Int × Int × Int) :=
  if isHead 0 (k.now 0) = true then
    if isHead 1 (k.now 1) = true then some (if (h3 (k.now 0)).1 < (h3 (k.now 1)).1 then h3 (k.now 1) else h3 (k.now 0)) else some (h3 (k.now 0))
  else if isHead 1 (k.now 1) = true then some (h3 (k.now 1)) else none
theorem mem2 {d : D} (h : d ∈ upto 0 2) : d = .int 0 ∨ d = .int 1 := by
  have : d ∈ [D.int 0, .int 1] := h
  simpa using this
def nowD (k : Dk) : D → D
  | .int p => k.now p
  | _ => .non
def isHeadN (k : Dk) : D → Bool
  | .int p => isHead p (k.now p)
  | _ => false
theorem now_PV {A : AH} {k : Dk} (g : DkG A k) {p : Int} (h0 : 0 ≤ p) (h1 : p < k.st.length) : PV A (k.now p) := by
  unfold Dk.now
  cases e : (loAt k.lo p).getLast? with
  | none => exact g.st _ (stAt_mem h0 h1)
  | some v =>
    obtain ⟨q, hq, rfl, _⟩ := loAt_mem (List.mem_of_getLast? e)
    exact (g.lo q hq).2.2
theorem hd_py (A : AH) (n f s : Int) : ∃ p, toPy A 59 (hdD n f s) = some p := (hd_PV A n f s).py
theorem max_end {A : AH} {a b c : Int} {v : D} {vs : List D} {n : List Int} {ns : List (List Int)} (hf : ∀ x ∈ v :: vs, ∃ n f s, x = hdD n f s) (ha : allSome ((v :: vs).map D.ints?) = some (n :: ns)) (hm : maxL n ns = [a, b, c]) :
    (small62 2 = true → (opEq [.ref A.length, D.ref (List.length A + 1)] (A ++ [O.lst (v :: vs), O.lst []])).sat fun a_3 A_2 =>
          (kB a_3 A_2).sat fun a_4 A_3 =>
            a_4 = false ∧
              (a_4 = false → (biMaxX [.ref A.length] A_3).sat fun d B => (gc A d B).sat fun a_6 B => a_6 = hdD a b c ∧ B = A)) ∧ small62 2 = true := by
  have s1 : (A ++ [O.lst (v :: vs), O.lst []])[A.length]? = some (.lst (v :: vs)) := by simp
  have s2 : (A ++ [O.lst (v :: vs), O.lst []])[A.length + 1]? = some (.lst []) := by
    rw [List.getElem?_append_right (by omega), show A.length + 1 - A.length = 1 by omega]
    rfl
  have q := opEq_nil (A := A ++ [O.lst (v :: vs), O.lst []]) (i := A.length) (j := A.length + 1) (ds := v :: vs) (by simp) (by unfold seqAt; rw [s2]; rfl) (fun d hd => by
    obtain ⟨n, f, s, rfl⟩ := hf d hd
    exact hd_py _ n f s)
  obtain ⟨n0, f0, t0, rfl⟩ := hf v List.mem_cons_self
  have hx : isTupL (seqAt (A ++ [O.lst (hdD n0 f0 t0 :: vs), O.lst []]) A.length) = true := by simp [hdD]
  have hx2 : seqAt (A ++ [O.lst (hdD n0 f0 t0 :: vs), O.lst []]) A.length = some (hdD n0 f0 t0 :: vs) := by simp
  refine ⟨fun _ => ?_, small_of (by decide) (by decide)⟩
  rw [q]
  simp only [sat_ok, ev_kB, List.isEmpty_cons, true_and, forall_const]
  rw [ev_maxX1t hx, ev_maxT, hx2, ev_maxLO, ha, ev_maxTO, hm]
  simp only [sat_ok]
  rw [gc_app _ (by simp)]
  exact ⟨rfl, rfl⟩
theorem hd_ints (n f s : Int) : D.ints? (hdD n f s) = some [n, f, s] := rfl
theorem read_head_ok {A : AH} {d : Nat} {k : Dk} (h : A[d]? = some (dkO k)) (g : DkG A k) (h2 : 2 ≤ k.st.length) {a b c : Int} (r : rdH k = some (a, b, c)) : F_read_head [.ref d] A = .ok (hdD a b c) A := by
  refine sat_eq (sat_def rfl ?_)
  simp only [b_read_head, startE]
  have p0 := now_PV g (p := 0) (by omega) (by omega)
  have p1 := now_PV g (p := 1) (by omega) (by omega)
  have q1 := lc_fm (src := .seq (upto 0 2)) (g := gName 2) (t := tB (eF (cl F_is_head []) (aCons (eVar 2) (aCons (eM 0 (cl F_Disk_now []) (eVar 0) (aCons (eVar 2) aNil)) aNil)))) (e := eM 0 (cl F_Disk_now []) (eVar 0) (aCons (eVar 2) aNil)) (E := [some (D.ref d), none, none]) (A := A) (ds := upto 0 2)
    (fun d' => [some (D.ref d), none, some d']) (isHeadN k) (nowD k) (by simp [line, upto]) rfl (fun _ _ => rfl) (fun d' _ G => rfl)
    (fun d' hd' G => by
      have : d' = .int 0 ∨ d' = .int 1 := mem2 hd'
      have hi : isIns 0 (A ++ G) (.ref d) = true := isIns_of (get_left h)
      rcases this with rfl | rfl
      · simp [cl, hi, now_ok (get_left h) (g.keep (LstKeep.app A G)) (show (0 : Int) ≤ 0 by omega) (by omega), is_head_ok 0 (p0.app G), isHeadN]
      · simp [cl, hi, now_ok (get_left h) (g.keep (LstKeep.app A G)) (show (0 : Int) ≤ 1 by omega) (by omega), is_head_ok 1 (p1.app G), isHeadN])
    (fun d' hd' _ G => by
      have : d' = .int 0 ∨ d' = .int 1 := mem2 hd'
      have hi : isIns 0 (A ++ G) (.ref d) = true := isIns_of (get_left h)
      rcases this with rfl | rfl
      · simp [cl, hi, now_ok (get_left h) (g.keep (LstKeep.app A G)) (show (0 : Int) ≤ 0 by omega) (by omega), nowD]
      · simp [cl, hi, now_ok (get_left h) (g.keep (LstKeep.app A G)) (show (0 : Int) ≤ 1 by omega) (by omega), nowD])
  have e1 : (upto 0 2).filter (isHeadN k) = (if isHead 0 (k.now 0) = true then [D.int 0] else []) ++ (if isHead 1 (k.now 1) = true then [D.int 1] else []) := by
    show List.filter (isHeadN k) [.int 0, .int 1] = _
    rw [List.filter_cons, List.filter_cons, List.filter_nil]
    show (if isHead 0 (k.now 0) = true then _ :: (if isHead 1 (k.now 1) = true then _ else _) else (if isHead 1 (k.now 1) = true then _ else _)) = _
    by_cases x : isHead 0 (k.now 0) = true <;> by_cases y : isHead 1 (k.now 1) = true <;> simp [x, y]
  unfold rdH at r
  rw [e1] at q1
  by_cases z0 : isHead 0 (k.now 0) = true
  · obtain ⟨n0, f0, s0, v0, _, _, _, m0⟩ := head_form z0
    rw [if_pos z0] at r q1
    by_cases z1 : isHead 1 (k.now 1) = true
    · obtain ⟨n1, f1, s1, v1, _, _, _, m1⟩ := head_form z1
      have hne : n0 ≠ n1 := by rintro rfl; omega
      rw [if_pos z1] at r q1
      rw [v0, v1] at r
      simp [nowD, v0, v1] at q1
      have r' : (if n0 < n1 then (n1, f1, s1) else (n0, f0, s0)) = (a, b, c) := Option.some.inj r
      simp [line, q1]
      refine max_end (v := hdD n0 f0 s0) (vs := [hdD n1 f1 s1]) (n := [n0, f0, s0]) (ns := [[n1, f1, s1]]) ?_ (by simp [hd_ints, allSome]) ?_
      · intro x hx
        simp at hx
        rcases hx with rfl | rfl
        · exact ⟨_, _, _, rfl⟩
        · exact ⟨_, _, _, rfl⟩
      · show (if ltT [n0, f0, s0] [n1, f1, s1] then _ else _) = _
        rw [ltT_ne hne]
        split at r'
        · rename_i z; cases r'; simp [z]
        · rename_i z; cases r'; simp [z]
    · rw [if_neg z1] at r q1
      rw [v0] at r
      simp [nowD, v0] at q1
      have r' : (n0, f0, s0) = (a, b, c) := Option.some.inj r
      cases r'
      simp [line, q1]
      refine max_end (v := hdD a b c) (vs := []) (n := [a, b, c]) (ns := []) ?_ (by simp [hd_ints, allSome]) rfl
      intro x hx
      simp at hx
      exact ⟨_, _, _, hx⟩
  · rw [if_neg z0] at r q1
    by_cases z1 : isHead 1 (k.now 1) = true
    · obtain ⟨n1, f1, s1, v1, _, _, _, m1⟩ := head_form z1
      rw [if_pos z1] at r q1
      rw [v1] at r
      simp [nowD, v1] at q1
      have r' : (n1, f1, s1) = (a, b, c) := Option.some.inj r
      cases r'
      simp [line, q1]
      refine max_end (v := hdD a b c) (vs := []) (n := [a, b, c]) (ns := []) ?_ (by simp [hd_ints, allSome]) rfl
      intro x hx
      simp at hx
      exact ⟨_, _, _, hx⟩
    · rw [if_neg z1] at r
      cases r
end Lw
set_option Elab.async false
set_option linter.all false
set_option maxRecDepth 100000
set_option maxHeartbeats 4000000
/-! The groups of a disk, with types (own work). -/
namespace Lw
open PySem DL
def i1D : D → Int
  | .tup ds => iAt ds 1
  | _ => 0
def i2D : D → Int
  | .tup ds => iAt ds 2
  | _ => 0
def chOf : D → Int × List Int
  | .tup ds => (iAt ds 3, (intsD (.tup ds)).drop 4)
  | _ => (0, [])
def logIs (v : D) (g a m : Int) : Bool := isLog v && (decide (i0D v = g) && decide (i1D v = a) && decide (i2D v = m))
def wgL (f : Int → D) (slot group m : Int) : Nat → Nat → Option Chg
  | _, 0 => some []
  | at_, n + 1 => if logIs (f (slot + at_)) group at_ m = true then (wgL f slot group m (at_ + 1) n).map (chOf (f (slot + at_)) :: ·) else none
def wgT (f : Int → D) (s slot group : Int) : Option Chg :=
  if (isLog (f slot) && (decide (i0D (f slot) = group) && decide (i1D (f slot) = 0) && decide (i2D (f slot) ≤ s))) = true then wgL f slot group (i2D (f slot)) 0 (i2D (f slot)).toNat else none
def rdG (f : Int → D) (s : Int) : Nat → Int → Int → Int → List (Int × Int × Chg)
  | 0, _, _, _ => []
  | n + 1, group, slot, used => match wgT f s slot group with
    | some ch => if used + ch.length ≤ s then (group, slot, ch) :: rdG f s n (group + 1) (slot + ch.length) (used + ch.length) else []
    | none => []
theorem isLog_full {v : D} (h : isLog v = true) : ∃ a b c d e f g i j k l m : Int, v = .tup [.int a, .int b, .int c, .int d, .int e, .int f, .int g, .int i, .int j, .int k, .int l, .int m] ∧ 0 ≤ b ∧ b < c ∧ 0 ≤ a ∧ 0 ≤ d := by
  cases v with
  | tup ds =>
    simp only [isLog, Bool.and_eq_true, decide_eq_true_eq] at h
    obtain ⟨⟨h1, h2⟩, ⟨⟨h3, h4⟩, h5⟩, h6⟩ := h
    obtain ⟨a, b, c, d, e, f, g, i, j, k, l, m, rfl⟩ := ints12 h1 h2
    exact ⟨a, b, c, d, e, f, g, i, j, k, l, m, rfl, h3, h4, h5, h6⟩
  | _ => simp [isLog] at h
theorem chOf_g {v : D} (h : isLog v = true) : 0 ≤ (chOf v).1 ∧ (chOf v).2.length = 8 := by
  obtain ⟨a, b, c, d, e, f, g, i, j, k, l, m, rfl, h1, h2, h3, h4⟩ := isLog_full h
  exact ⟨h4, rfl⟩
theorem lp_log (g a m : Int) (q : Int × List Int) (h8 : q.2.length = 8) : isLog (lpD g a m q) = (decide (0 ≤ a) && decide (a < m) && decide (0 ≤ g) && decide (0 ≤ q.1)) := by
  have e : ((.int g :: .int a :: .int m :: .int q.1 :: q.2.map D.int) : List D).length = 12 := by simp [h8]
  have e2 : ((.int g :: .int a :: .int m :: .int q.1 :: q.2.map D.int) : List D).all isInt = true := by simp [isInt]
  unfold lpD isLog
  simp only [e, e2]
  simp [iAt]
theorem lp_is (g a m : Int) (q : Int × List Int) (h8 : q.2.length = 8) (g' a' m' : Int) : logIs (lpD g a m q) g' a' m' = (decide (0 ≤ a) && decide (a < m) && decide (0 ≤ g) && decide (0 ≤ q.1) && (decide (g = g') && decide (a = a') && decide (m = m'))) := by
  unfold logIs
  rw [lp_log _ _ _ _ h8]
  rfl
theorem lp_ch (g a m : Int) (q : Int × List Int) : chOf (lpD g a m q) = q := by
  have e : intsD (lpD g a m q) = g :: a :: m :: q.1 :: q.2 := by
    have : ∀ ns : List Int, intsD (.tup (ns.map D.int)) = ns := fun ns => by
      have := ints_back (ds := ns.map D.int) (by rw [List.all_map]; exact List.all_eq_true.mpr fun _ _ => rfl)
      exact (List.map_inj_right fun x y h => by cases h; rfl).mp this
    exact this (g :: a :: m :: q.1 :: q.2)
  show ((q.1, (intsD (lpD g a m q)).drop 4) : Int × List Int) = q
  rw [e]
  rfl
theorem wgL_len {f : Int → D} {slot group m : Int} : ∀ {n a : Nat} {ch : Chg}, wgL f slot group m a n = some ch → ch.length = n
  | 0, _, ch, h => by cases h; rfl
  | n + 1, a, ch, h => by
    unfold wgL at h
    split at h
    · obtain ⟨c, hc, rfl⟩ := Option.map_eq_some_iff.mp h
      rw [List.length_cons, wgL_len hc]
    · cases h
theorem wgL_g {f : Int → D} {slot group m : Int} : ∀ {n a : Nat} {ch : Chg}, wgL f slot group m a n = some ch → ∀ q ∈ ch, 0 ≤ q.1 ∧ q.2.length = 8
  | 0, _, ch, h => by cases h; simp
  | n + 1, a, ch, h => by
    unfold wgL at h
    split at h
    · rename_i z
      obtain ⟨c, hc, rfl⟩ := Option.map_eq_some_iff.mp h
      intro q hq
      rcases List.mem_cons.mp hq with rfl | hq
      · exact chOf_g (Bool.and_eq_true _ _ ▸ z : _ ∧ _).1
      · exact wgL_g hc q hq
    · cases h
theorem wgT_pos {f : Int → D} {s slot group : Int} {ch : Chg} (h : wgT f s slot group = some ch) : 1 ≤ ch.length ∧ (ch.length : Int) ≤ s ∧ ∀ q ∈ ch, 0 ≤ q.1 ∧ q.2.length = 8 := by
  unfold wgT at h
  split at h
  · rename_i z
    simp only [Bool.and_eq_true, decide_eq_true_eq] at z
    obtain ⟨z1, ⟨z2, z3⟩, z4⟩ := z
    have hl := wgL_len h
    have hg := wgL_g h
    obtain ⟨a, b, c, d, e, f', g, i, j, k, l, m, e0, h1, h2, h3, h4⟩ := isLog_full z1
    have e3 : i1D (f slot) = b := by rw [e0]; rfl
    have e4 : i2D (f slot) = c := by rw [e0]; rfl
    rw [e4] at z4 hl
    exact ⟨by omega, by omega, hg⟩
  · cases h
theorem grpL_T (f : Int → D) (slot group m : Int) : ∀ (n a : Nat) (found : List D), grpL f slot group m a n found = match wgL f slot group m a n with
    | some ch => .tup (found ++ ch.map cgD)
    | none => .non
  | 0, a, found => by simp [grpL, wgL]
  | n + 1, a, found => by
    unfold grpL wgL
    by_cases z : logIs (f (slot + a)) group a m = true
    · rw [if_pos z]
      have z' := z
      unfold logIs at z'
      simp only [Bool.and_eq_true, decide_eq_true_eq] at z'
      obtain ⟨z1, ⟨z2, z3⟩, z4⟩ := z'
      obtain ⟨a1, b, c, d, e, f', g, i, j, k, l, m1, e0, h1, h2, h3, h4⟩ := isLog_full z1
      rw [e0] at z1 z2 z3 z4 ⊢
      have w2 : a1 = group := z2
      have w3 : b = a := z3
      have w4 : c = m := z4
      subst w2 w3 w4
      have : isLog (.tup [.int a1, .int (a : Int), .int c, .int d, .int e, .int f', .int g, .int i, .int j, .int k, .int l, .int m1]) = true := z1
      simp only [this, iAt, List.getElem?_cons_zero, List.getElem?_cons_succ, decide_true, Bool.and_self, if_true]
      rw [grpL_T]
      cases wgL f slot a1 c (a + 1) n with
      | none => rfl
      | some ch =>
        simp [cgD, chOf, iAt, intsD]
    · rw [if_neg z]
      cases hv : f (slot + a) with
      | tup ds =>
        rw [hv] at z
        have z2 : ¬ ((isLog (.tup ds) && (decide (iAt ds 0 = group) && decide (iAt ds 1 = a) && decide (iAt ds 2 = m))) = true) := z
        simp only [if_neg z2]
      | _ => rfl
theorem grpD_T (f : Int → D) (s slot group : Int) : grpD f s slot group = match wgT f s slot group with
    | some ch => .tup (ch.map cgD)
    | none => .non := by
  unfold grpD wgT
  cases hv : f slot with
  | tup ds =>
    show (if (isLog (.tup ds) && (decide (iAt ds 0 = group) && decide (iAt ds 1 = 0) && decide (iAt ds 2 ≤ s))) = true then grpL f slot group (iAt ds 2) 0 (iAt ds 2).toNat [] else D.non) = match (if (isLog (.tup ds) && (decide (iAt ds 0 = group) && decide (iAt ds 1 = 0) && decide (iAt ds 2 ≤ s))) = true then wgL f slot group (iAt ds 2) 0 (iAt ds 2).toNat else none) with
      | some ch => .tup (ch.map cgD)
      | none => .non
    split
    · rw [grpL_T]
      rfl
    · rfl
  | _ => rfl
theorem grps_T (f : Int → D) (s : Int) : ∀ (n : Nat) (group slot used : Int) (found : List D), 0 ≤ used → used ≤ s → s - used < n → grps f s n group slot used found = .tup (found ++ (rdG f s n group slot used).map grD)
  | 0, _, _, _, _, _, _, h => by omega
  | n + 1, group, slot, used, found, h0, h1, h2 => by
    unfold grps rdG
    rw [grpD_T]
    cases hw : wgT f s slot group with
    | none => simp
    | some ch =>
      obtain ⟨w1, w2, _⟩ := wgT_pos hw
      simp only [List.length_map]
      split
      · rename_i z
        rw [grps_T f s n _ _ _ _ (by omega) z (by omega)]
        simp [grD]
      · simp
theorem rdG_g {f : Int → D} {s : Int} : ∀ {n : Nat} {group slot used : Int}, ∀ g ∈ rdG f s n group slot used, ∀ q ∈ g.2.2, 0 ≤ q.1 ∧ q.2.length = 8
  | 0, _, _, _, g, h => by cases h
  | n + 1, group, slot, used, g, h => by
    unfold rdG at h
    cases hw : wgT f s slot group with
    | none => rw [hw] at h; cases h
    | some ch =>
      rw [hw] at h
      simp only at h
      split at h
      · rcases List.mem_cons.mp h with rfl | h
        · exact (wgT_pos hw).2.2
        · exact rdG_g g h
      · cases h
theorem rdG_sum {f : Int → D} {s : Int} : ∀ {n : Nat} {group slot used : Int}, used ≤ s → used + (chSum (rdG f s n group slot used) : Int) ≤ s
  | 0, _, _, _, h => by simpa [rdG, chSum] using h
  | n + 1, group, slot, used, h => by
    unfold rdG
    cases hw : wgT f s slot group with
    | none => simpa [chSum] using h
    | some ch =>
      simp only
      split
      · rename_i z
        have := rdG_sum (f := f) (n := n) (group := group + 1) (slot := slot + ch.length) z
        simp only [chSum, List.map_cons, List.sum_cons] at this ⊢
        omega
      · simpa [chSum] using h
theorem rdG_len {f : Int → D} {s : Int} : ∀ {n : Nat} {group slot used : Int}, (rdG f s n group slot used).length ≤ chSum (rdG f s n group slot used)
  | 0, _, _, _ => by simp [rdG]
  | n + 1, group, slot, used => by
    unfold rdG
    cases hw : wgT f s slot group with
    | none => simp
    | some ch =>
      simp only
      split
      · have := rdG_len (f := f) (s := s) (n := n) (group := group + 1) (slot := slot + ch.length) (used := used + ch.length)
        have := (wgT_pos hw).1
        simp only [chSum, List.map_cons, List.sum_cons, List.length_cons] at *
        omega
      · simp
end Lw
set_option Elab.async false
set_option linter.all false
set_option maxRecDepth 100000
set_option maxHeartbeats 4000000
/-! A store over a disk (own work). -/
namespace Lw
open PySem DL
def logF (k : Dk) (S : Int) (x : Int) : D := k.now (2 + x.fmod S)
def logRow (k : Dk) (S : Int) : List D := (List.range S.toNat).map fun i => k.now (2 + (i : Nat))
theorem logRow_len (k : Dk) (S : Int) : (logRow k S).length = S.toNat := by unfold logRow; simp
theorem rowAt_log {k : Dk} {S : Int} (h : 0 < S) : rowAt (logRow k S) = logF k S := by
  funext x
  have m0 := Int.fmod_nonneg_of_pos x h
  have m1 := Int.fmod_lt_of_pos x h
  unfold rowAt logF
  rw [logRow_len, show ((S.toNat : Nat) : Int) = S by omega]
  unfold logRow
  rw [List.getElem?_map, List.getElem?_range (by omega)]
  show k.now (2 + (((x.fmod S).toNat : Nat) : Int)) = _
  rw [show (((x.fmod S).toNat : Nat) : Int) = x.fmod S by omega]
theorem DkS_of {A : AH} {d : Nat} {k : Dk} (h : A[d]? = some (dkO k)) (g : DkG A k) {P S : Int} (hP : 0 ≤ P) (hS : 0 < S) (hl : (k.st.length : Int) = 2 + S + P) : DkS A d S (logF k S) := by
  have m := fun x : Int => And.intro (Int.fmod_nonneg_of_pos x hS) (Int.fmod_lt_of_pos x hS)
  refine ⟨fun G => isIns_of (get_left h), fun G x => now_ok (get_left h) (g.keep (LstKeep.app A G)) (by have := m x; omega) (by have := m x; omega), fun x => now_PV g (by have := m x; omega) (by have := m x; omega)⟩
theorem used_at {A : AH} {s : Nat} {fs : List (Nat × D)} {grs : List (Int × Int × Chg)} (h : A[s]? = some (.ins 1 fs)) (hf : oFld [1] 8 A (some (.ins 1 fs)) = .ok (.tup (grs.map grD)) A) (hgl : grs.length ≤ 1000000) : F_Store_used [.ref s] A = .ok (.int (chSum grs : Nat)) A := by
  refine sat_eq (sat_def rfl ?_)
  simp only [b_Store_used, startE]
  have q := lc_map (src := .seq (grs.map grD)) (g := gTup 3 (gCons (gName 1) (gCons (gName 2) (gCons (gName 3) gNil)))) (e := eF biLen (aCons (eVar 3) aNil)) (E := [some (D.ref s), none, none, none]) (A := A) (ds := grs.map grD) (edU s) (fun d => .int (lenD d))
    (by simp [line]; omega) rfl (fun _ _ => rfl)
    (fun d hd G => by
      obtain ⟨p, _, rfl⟩ := List.mem_map.mp hd
      rfl)
    (fun d hd G => by
      obtain ⟨p, _, rfl⟩ := List.mem_map.mp hd
      simp [grD, edU, lenD])
  have i1 : intsOf ((grs.map grD).map fun d => D.int (lenD d)) = some ((grs.map grD).map lenD) := by
    have := ints_some ((grs.map grD).map lenD)
    rwa [List.map_map] at this
  rw [List.map_map] at i1 q
  simp only [ev_sRet, ev_eF, ev_aCons, ev_aNil, ev_eLc] 
  simp [h, hf, q, i1]
  rw [← List.map_map, sum_len, gc_app _ (by simp)]
  simp
def rdK (k : Dk) (S : Int) (f s : Int) : List (Int × Int × Chg) := rdG (logF k S) S (S.toNat + 1) f s 0
def seenK (k : Dk) (S : Int) : Int := maxI (-1) (seenI (logRow k S))
/-- the store that is opened over a disk, its head given -/
def openS (P S : Int) (k : Dk) (h : Int × Int × Int) : Sto where
  P := P
  S := S
  beg := k
  dev := k
  tr := []
  hn := h.1
  hf := h.2.1
  hs := h.2.2
  grs := rdK k S h.2.1 h.2.2
  cells := layC (homeOf k P S) (mergedG (rdK k S h.2.1 h.2.2))
  ng := 1 + max (h.2.1 - 1) (seenK k S)
  ns := h.2.2 + chSum (rdK k S h.2.1 h.2.2)
  run := []
  rd := 0
  pu := []
  de := 0
  sd := 0
theorem rdH_ge {k : Dk} {h : Int × Int × Int} (r : rdH k = some h) : 0 ≤ h.1 ∧ 0 ≤ h.2.1 ∧ 0 ≤ h.2.2 := by
  have key : ∀ p v, isHead p v = true → 0 ≤ (h3 v).1 ∧ 0 ≤ (h3 v).2.1 ∧ 0 ≤ (h3 v).2.2 := fun p v z => by
    obtain ⟨n, f, s, rfl, a, b, c, _⟩ := head_form z
    exact ⟨a, b, c⟩
  unfold rdH at r
  split at r
  · rename_i z0
    split at r
    · rename_i z1
      split at r <;> cases r
      · exact key 1 _ z1
      · exact key 0 _ z0
    · cases r; exact key 0 _ z0
  · split at r
    · rename_i z1
      cases r; exact key 1 _ z1
    · cases r
theorem rdK_g (k : Dk) (S f s : Int) : ∀ g ∈ rdK k S f s, ∀ q ∈ g.2.2, 0 ≤ q.1 ∧ q.2.length = 8 := fun g hg => rdG_g g hg
theorem rdK_sum (k : Dk) {S : Int} (h : 0 ≤ S) (f s : Int) : (chSum (rdK k S f s) : Int) ≤ S := by
  have := rdG_sum (f := logF k S) (s := S) (n := S.toNat + 1) (group := f) (slot := s) h
  unfold rdK
  omega
theorem homeOf_8 (k : Dk) (P S : Int) : ∀ c ∈ homeOf k P S, c.length = 8 := fun c hc => by
  obtain ⟨i, _, rfl⟩ := List.mem_map.mp hc
  exact cellsOf_len _
theorem openS_g {A : AH} {P S : Int} {k : Dk} {h : Int × Int × Int} (g : DkG A k) (hP0 : 0 < P) (hP1 : P ≤ 100) (hS0 : 0 < S) (hS1 : S ≤ 100) (hl : (k.st.length : Int) = 2 + S + P) (hlo : k.lo.length = 0) (r : rdH k = some h) : SG A 100 (openS P S k h) := by
  have hs := rdK_sum k (by omega : 0 ≤ S) h.2.1 h.2.2
  have hlen : (rdK k S h.2.1 h.2.2).length ≤ chSum (rdK k S h.2.1 h.2.2) := rdG_len
  refine ⟨hP0, hP1, hS0, hS1, g, g, hl, hl, ?_, ?_, ?_, ?_, ?_, ?_, ?_, ?_, ?_, ?_, ?_⟩
  · show k.lo.length ≤ 100; omega
  · intro e he; cases he
  · show 0 ≤ 100; omega
  · show (rdK k S h.2.1 h.2.2).length ≤ 100; omega
  · show 0 ≤ 100; omega
  · show chSum (rdK k S h.2.1 h.2.2) ≤ 1000; omega
  · exact rdK_g _ _ _ _
  · show (layC _ _).length = P.toNat
    rw [layC_len, homeOf_len]
  · exact layC_8 (homeOf_8 _ _ _) fun q hq => by
      obtain ⟨g, hg, hq⟩ := mergedG_mem hq
      exact (rdK_g _ _ _ _ g hg q hq).2
  · exact ⟨fun q hq => (by cases hq), (by show 0 ≤ 1000; omega), List.nodup_nil⟩
  · exact (rdH_ge r).1
theorem gc_keepN {A B : AH} (h : ¬ okPre A (B.take A.length)) : gc A .non B = .ok .non B := by
  unfold gc
  rw [if_neg fun e => h e.2]
  rfl
theorem set_mid {α : Type} (A : List α) (o o' : α) (G : List α) : (A ++ o :: G).set A.length o' = A ++ o' :: G := by simp
theorem at_mid {α : Type} (A : List α) (o : α) (G : List α) : (A ++ o :: G)[A.length]? = some o := by simp
theorem store_init_ok {A : AH} {d : Nat} {P S : Int} {k : Dk} {h : Int × Int × Int} (hd : A[d]? = some (dkO k)) (g : DkG A k) (hP0 : 0 < P) (hP1 : P ≤ 100) (hS0 : 0 < S) (hS1 : S ≤ 100) (hl : (k.st.length : Int) = 2 + S + P) (hlo : k.lo.length = 0) (r : rdH k = some h) :
    F_Store_init [.ref A.length, .int P, .int S, .ref d] (A ++ [.ins 1 []]) = .ok .non (A ++ [stoO ⟨A.length, d, A.length + 1, A.length + 2, A.length + 3⟩ (openS P S k h), dkO k, .dic (dicA (cellsA 0 (openS P S k h).cells)), .dic []]) := by
  refine sat_eq (sat_def rfl ?_)
  obtain ⟨a, b, c⟩ := h
  have G0 := openS_g g hP0 hP1 hS0 hS1 hl hlo r
  have rg := rdH_ge r
  simp only [b_Store_init, startE]
  have q1 : ∀ o, F_disk_after [.ref d, .tup [], .int 0] (A ++ [o]) = .ok (.ref (A.length + 1)) (A ++ [o, dkO k]) := fun o => by
    have := disk_after_ok (es := []) (m := 0) (get_left (G := [o]) hd) (g.keep (LstKeep.app A [o])) (by omega) (fun e he => by cases he) (by rw [hlo]; decide) (by omega) (by simp)
    simpa [Dk.evs] using this
  have q2 : ∀ G, F_read_head [.ref d] (A ++ G) = .ok (hdD a b c) (A ++ G) := fun G => read_head_ok (get_left hd) (g.keep (LstKeep.app A G)) (by omega) r
  have q3 : ∀ G, F_read_groups [.ref d, .int S, hdD a b c] (A ++ G) = .ok (.tup ((rdK k S b c).map grD)) (A ++ G) := fun G => by
    have := read_groups_ok hS0 (by omega) ((DkS_of hd g (by omega) hS0 hl).app G) a b c
    rw [grps_T _ _ _ _ _ _ _ (by omega) (by omega) (by omega)] at this
    rw [List.nil_append] at this
    exact this
  have hsum := rdK_sum k (by omega : 0 ≤ S) b c
  have hlen : (rdK k S b c).length ≤ chSum (rdK k S b c) := rdG_len
  have q4 : ∀ G, F_read_home [.ref d, .int P, .int S, .tup ((rdK k S b c).map grD)] (A ++ G) = .ok (.ref (A ++ G).length) ((A ++ G) ++ [.dic (dicA (cellsA 0 (layC (homeOf k P S) (mergedG (rdK k S b c)))))]) := fun G =>
    read_home_ok (get_left hd) (g.keep (LstKeep.app A G)) (by omega) (by omega) hl (by omega) fun q hq => by
      obtain ⟨g, hg, hq⟩ := mergedG_mem hq
      exact (rdK_g _ _ _ _ g hg q hq).1
  have q5 : ∀ G, F_last_seen [.ref d, .int S] (A ++ G) = .ok (.int (seenK k S)) (A ++ G) := fun G => by
    have hr : rowAt (logRow k S) = logF k S := rowAt_log hS0
    refine last_seen_ok (row := logRow k S) S (by rw [logRow_len]; omega) (by intro e; have := logRow_len k S; rw [e] at this; simp at this; omega) (by rw [logRow_len]; omega) (by rw [hr]; exact (DkS_of hd g (by omega) hS0 hl).app G) ?_
    intro v hv
    obtain ⟨i, hi, rfl⟩ := List.mem_map.mp hv
    have hi := List.mem_range.mp hi
    exact (now_PV g (by omega) (by omega)).app G
  have x1 : ∀ B, opIx [hdD a b c, .int 1] B = .ok (.int b) B := fun _ => rfl
  have x2 : ∀ B, opIx [hdD a b c, .int 2] B = .ok (.int c) B := fun _ => rfl
  have emx : (if seenK k S > b - 1 then seenK k S else b - 1) = max (b - 1) (seenK k S) := by omega
  refine seq_sat (fun E B => E = [some (.ref A.length), some (.int P), some (.int S), some (.ref d)] ∧ B = A ++ [.ins 1 [(2, .int P)]]) (by simp) ?_
  rintro E B ⟨rfl, rfl⟩
  refine seq_sat (fun E B => E = [some (.ref A.length), some (.int P), some (.int S), some (.ref d)] ∧ B = A ++ [.ins 1 [(2, .int P), (3, .int S)]]) (by simp) ?_
  rintro E B ⟨rfl, rfl⟩
  refine seq_sat (fun E B => E = [some (.ref A.length), some (.int P), some (.int S), some (.ref d)] ∧ B = A ++ [.ins 1 [(2, .int P), (3, .int S), (4, .ref d)]]) (by simp) ?_
  rintro E B ⟨rfl, rfl⟩
  refine seq_sat (fun E B => E = [some (.ref A.length), some (.int P), some (.int S), some (.ref d)] ∧ B = A ++ [.ins 1 [(2, .int P), (3, .int S), (4, .ref d), (5, .ref (A.length + 1))], dkO k]) (by simp [cl, q1]) ?_
  rintro E B ⟨rfl, rfl⟩
  refine seq_sat (fun E B => E = [some (.ref A.length), some (.int P), some (.int S), some (.ref d)] ∧ B = A ++ [.ins 1 [(2, .int P), (3, .int S), (4, .ref d), (5, .ref (A.length + 1)), (6, .tup [])], dkO k]) (by simp) ?_
  rintro E B ⟨rfl, rfl⟩
  refine seq_sat (fun E B => E = [some (.ref A.length), some (.int P), some (.int S), some (.ref d)] ∧ B = A ++ [.ins 1 [(2, .int P), (3, .int S), (4, .ref d), (5, .ref (A.length + 1)), (6, .tup []), (7, hdD a b c)], dkO k]) (by simp [cl, q2]) ?_
  rintro E B ⟨rfl, rfl⟩
  refine seq_sat (fun E B => E = [some (.ref A.length), some (.int P), some (.int S), some (.ref d)] ∧ B = A ++ [.ins 1 [(2, .int P), (3, .int S), (4, .ref d), (5, .ref (A.length + 1)), (6, .tup []), (7, hdD a b c), (8, .tup ((rdK k S b c).map grD))], dkO k]) (by simp [cl, q3]) ?_
  rintro E B ⟨rfl, rfl⟩
  refine seq_sat (fun E B => E = [some (.ref A.length), some (.int P), some (.int S), some (.ref d)] ∧ B = A ++ [.ins 1 [(2, .int P), (3, .int S), (4, .ref d), (5, .ref (A.length + 1)), (6, .tup []), (7, hdD a b c), (8, .tup ((rdK k S b c).map grD)), (9, .ref (A.length + 2))], dkO k, .dic (dicA (cellsA 0 (layC (homeOf k P S) (mergedG (rdK k S b c)))))]) (by simp [cl, q4]) ?_
  rintro E B ⟨rfl, rfl⟩
  refine seq_sat (fun E B => E = [some (.ref A.length), some (.int P), some (.int S), some (.ref d)] ∧ B = A ++ [.ins 1 [(2, .int P), (3, .int S), (4, .ref d), (5, .ref (A.length + 1)), (6, .tup []), (7, hdD a b c), (8, .tup ((rdK k S b c).map grD)), (9, .ref (A.length + 2)), (10, .int (1 + max (b - 1) (seenK k S)))], dkO k, .dic (dicA (cellsA 0 (layC (homeOf k P S) (mergedG (rdK k S b c)))))]) (by simp [cl, q5, x1, emx]) ?_
  rintro E B ⟨rfl, rfl⟩
  have hu := used_at (A := A ++ [.ins 1 [(2, .int P), (3, .int S), (4, .ref d), (5, .ref (A.length + 1)), (6, .tup []), (7, hdD a b c), (8, .tup ((rdK k S b c).map grD)), (9, .ref (A.length + 2)), (10, .int (1 + max (b - 1) (seenK k S)))], dkO k, .dic (dicA (cellsA 0 (layC (homeOf k P S) (mergedG (rdK k S b c)))))]) (s := A.length) (grs := rdK k S b c) (at_mid _ _ _) (by simp) (by omega)
  refine seq_sat (fun E B => E = [some (.ref A.length), some (.int P), some (.int S), some (.ref d)] ∧ B = A ++ [.ins 1 [(2, .int P), (3, .int S), (4, .ref d), (5, .ref (A.length + 1)), (6, .tup []), (7, hdD a b c), (8, .tup ((rdK k S b c).map grD)), (9, .ref (A.length + 2)), (10, .int (1 + max (b - 1) (seenK k S))), (11, .int (c + (chSum (rdK k S b c) : Nat)))], dkO k, .dic (dicA (cellsA 0 (layC (homeOf k P S) (mergedG (rdK k S b c)))))]) (by simp [cl, hu, x2, isIns_of (at_mid A (O.ins 1 [(2, .int P), (3, .int S), (4, .ref d), (5, .ref (A.length + 1)), (6, .tup []), (7, hdD a b c), (8, .tup ((rdK k S b c).map grD)), (9, .ref (A.length + 2)), (10, .int (1 + max (b - 1) (seenK k S)))]) [dkO k, .dic (dicA (cellsA 0 (layC (homeOf k P S) (mergedG (rdK k S b c)))))])]) ?_
  rintro E B ⟨rfl, rfl⟩
  refine seq_sat (fun E B => E = [some (.ref A.length), some (.int P), some (.int S), some (.ref d)] ∧ B = A ++ [.ins 1 [(2, .int P), (3, .int S), (4, .ref d), (5, .ref (A.length + 1)), (6, .tup []), (7, hdD a b c), (8, .tup ((rdK k S b c).map grD)), (9, .ref (A.length + 2)), (10, .int (1 + max (b - 1) (seenK k S))), (11, .int (c + (chSum (rdK k S b c) : Nat))), (12, .ref (A.length + 3))], dkO k, .dic (dicA (cellsA 0 (layC (homeOf k P S) (mergedG (rdK k S b c))))), .dic []]) (by simp) ?_
  rintro E B ⟨rfl, rfl⟩
  refine seq_sat (fun E B => E = [some (.ref A.length), some (.int P), some (.int S), some (.ref d)] ∧ B = A ++ [.ins 1 [(2, .int P), (3, .int S), (4, .ref d), (5, .ref (A.length + 1)), (6, .tup []), (7, hdD a b c), (8, .tup ((rdK k S b c).map grD)), (9, .ref (A.length + 2)), (10, .int (1 + max (b - 1) (seenK k S))), (11, .int (c + (chSum (rdK k S b c) : Nat))), (12, .ref (A.length + 3)), (13, .int 0)], dkO k, .dic (dicA (cellsA 0 (layC (homeOf k P S) (mergedG (rdK k S b c))))), .dic []]) (by simp) ?_
  rintro E B ⟨rfl, rfl⟩
  refine seq_sat (fun E B => E = [some (.ref A.length), some (.int P), some (.int S), some (.ref d)] ∧ B = A ++ [.ins 1 [(2, .int P), (3, .int S), (4, .ref d), (5, .ref (A.length + 1)), (6, .tup []), (7, hdD a b c), (8, .tup ((rdK k S b c).map grD)), (9, .ref (A.length + 2)), (10, .int (1 + max (b - 1) (seenK k S))), (11, .int (c + (chSum (rdK k S b c) : Nat))), (12, .ref (A.length + 3)), (13, .int 0), (14, .tup [])], dkO k, .dic (dicA (cellsA 0 (layC (homeOf k P S) (mergedG (rdK k S b c))))), .dic []]) (by simp) ?_
  rintro E B ⟨rfl, rfl⟩
  refine seq_sat (fun E B => E = [some (.ref A.length), some (.int P), some (.int S), some (.ref d)] ∧ B = A ++ [.ins 1 [(2, .int P), (3, .int S), (4, .ref d), (5, .ref (A.length + 1)), (6, .tup []), (7, hdD a b c), (8, .tup ((rdK k S b c).map grD)), (9, .ref (A.length + 2)), (10, .int (1 + max (b - 1) (seenK k S))), (11, .int (c + (chSum (rdK k S b c) : Nat))), (12, .ref (A.length + 3)), (13, .int 0), (14, .tup []), (15, .int 0)], dkO k, .dic (dicA (cellsA 0 (layC (homeOf k P S) (mergedG (rdK k S b c))))), .dic []]) (by simp) ?_
  rintro E B ⟨rfl, rfl⟩
  simp
  rw [gc_keepN]
  · exact ⟨rfl, rfl⟩
  · intro hp
    have := hp.2 A.length _ (by simp; rfl)
    simp [O.bd] at this
end Lw
set_option Elab.async false
set_option linter.all false
set_option maxRecDepth 100000
set_option maxHeartbeats 4000000
/-! New stores, opened stores (own work). -/
namespace Lw
open PySem DL
theorem new_store_ok {A : AH} {d : Nat} {P S : Int} {k : Dk} {h : Int × Int × Int} (hd : A[d]? = some (dkO k)) (g : DkG A k) (hP0 : 0 < P) (hP1 : P ≤ 100) (hS0 : 0 < S) (hS1 : S ≤ 100) (hl : (k.st.length : Int) = 2 + S + P) (hlo : k.lo.length = 0) (r : rdH k = some h) :
    mkIns 1 (cl F_Store_init []) [.int P, .int S, .ref d] A = .ok (.ref A.length) (A ++ [stoO ⟨A.length, d, A.length + 1, A.length + 2, A.length + 3⟩ (openS P S k h), dkO k, .dic (dicA (cellsA 0 (openS P S k h).cells)), .dic []]) := by
  simp [cl, store_init_ok hd g hP0 hP1 hS0 hS1 hl hlo r]
theorem new_at {A : AH} {d : Nat} {P S : Int} {k : Dk} {h : Int × Int × Int} (hd : A[d]? = some (dkO k)) : StoAt (A ++ [stoO ⟨A.length, d, A.length + 1, A.length + 2, A.length + 3⟩ (openS P S k h), dkO k, .dic (dicA (cellsA 0 (openS P S k h).cells)), .dic []]) ⟨A.length, d, A.length + 1, A.length + 2, A.length + 3⟩ (openS P S k h) := by
  have l : ∀ i : Nat, ∀ o, [stoO ⟨A.length, d, A.length + 1, A.length + 2, A.length + 3⟩ (openS P S k h), dkO k, O.dic (dicA (cellsA 0 (openS P S k h).cells)), .dic []][i]? = some o → (A ++ [stoO ⟨A.length, d, A.length + 1, A.length + 2, A.length + 3⟩ (openS P S k h), dkO k, .dic (dicA (cellsA 0 (openS P S k h).cells)), .dic []])[A.length + i]? = some o := fun i o e => by
    rw [List.getElem?_append_right (by omega), show A.length + i - A.length = i by omega]
    exact e
  have hlt := lt_of hd
  exact ⟨l 0 _ rfl, get_left hd, l 1 _ rfl, l 2 _ rfl, l 3 _ rfl, by show A.length + 1 ≠ d; omega, by show A.length + 2 ≠ A.length + 3; omega⟩
/-- a def that hands back a store -/
def Got (A : AH) (N : Nat) (S' : Sto) : D → AH → Prop := fun d B => ∃ x : SX, d = .ref x.s ∧ StoAt B x S' ∧ (∃ G, B = A ++ G) ∧ A.length ≤ x.s ∧ SG B N S'
theorem Fr.old {A B G : AH} {x : SX} {r : Nat} (f : Fr (A ++ G) B x r) (hs : A.length ≤ x.s) (hd : A.length ≤ x.d) (hc : A.length ≤ x.c) (hr : A.length ≤ x.r) : ∃ G, B = A ++ G := by
  refine ⟨B.drop A.length, ?_⟩
  have hl := f.le
  rw [List.length_append] at hl
  have e : B.take A.length = A := by
    refine List.ext_getElem? fun i => ?_
    rw [List.getElem?_take]
    split
    · rename_i hi
      have e1 : A[i]? = some A[i] := List.getElem?_eq_getElem hi
      rw [e1]
      exact f.keep i _ (get_left e1) (by omega) (by omega) (by omega) (by omega)
    · rw [List.getElem?_eq_none (by omega)]
  conv => lhs; rw [← List.take_append_drop A.length B, e]
theorem gc_keepR {A B : AH} {i : Nat} {o : O} (h : A.length ≤ i) (e : B[i]? = some o) (hb : o.bd A.length = false) : gc A (.ref i) B = .ok (.ref i) B := by
  unfold gc
  rw [if_neg]
  · have e2 : refO A B (.ref i) = some o := by
      show (if A.length ≤ i then B[i]? else none) = _
      rw [if_pos h, e]
    rw [e2]
    unfold gcO
    dsimp only
    rw [if_neg]
    rintro ⟨_, z, _⟩
    rw [hb] at z
    cases z
  · rintro ⟨z, _⟩
    simp at z
    omega
theorem sto_nbd {n : Nat} {x : SX} {S : Sto} (h : n ≤ x.d) : (stoO x S).bd n = false := by
  have : ¬ x.d < n := by omega
  simp [stoO, O.bd, this]
theorem open_store_sat {A : AH} {d : Nat} {P S : Int} {k : Dk} {h : Int × Int × Int} (hd : A[d]? = some (dkO k)) (g : DkG A k) (hP0 : 0 < P) (hP1 : P ≤ 100) (hS0 : 0 < S) (hS1 : S ≤ 100) (hl : (k.st.length : Int) = 2 + S + P) (hlo : k.lo.length = 0) (r : rdH k = some h) :
    (F_open_store [.ref d, .int P, .int S] A).sat (Got A 2000 (openS P S k h).whome.turn) := by
  refine sat_def rfl ?_
  simp only [b_open_store, startE]
  have q := store_init_ok hd g hP0 hP1 hS0 hS1 hl hlo r
  have hA := new_at (P := P) (S := S) (h := h) hd
  have gA : SG (A ++ [stoO ⟨A.length, d, A.length + 1, A.length + 2, A.length + 3⟩ (openS P S k h), dkO k, .dic (dicA (cellsA 0 (openS P S k h).cells)), .dic []]) 100 (openS P S k h) := (openS_g g hP0 hP1 hS0 hS1 hl hlo r).keep (LstKeep.app A _)
  generalize hG : [stoO ⟨A.length, d, A.length + 1, A.length + 2, A.length + 3⟩ (openS P S k h), dkO k, .dic (dicA (cellsA 0 (openS P S k h).cells)), .dic []] = G at *
  generalize hx : (⟨A.length, d, A.length + 1, A.length + 2, A.length + 3⟩ : SX) = x at *
  have x1 : x.s = A.length := by rw [← hx]
  have x2 : x.d = A.length + 1 := by rw [← hx]
  have x3 : x.c = A.length + 2 := by rw [← hx]
  have x4 : x.r = A.length + 3 := by rw [← hx]
  have hi : isIns 1 (A ++ G) (.ref A.length) = true := by rw [← x1]; exact isIns_of hA.s
  simp [q, hi, cl]
  rw [← x1]
  refine (whome_sat hA gA (by omega)).mono ?_
  rintro d1 B ⟨rfl, r1, hB, fB, gB⟩
  have hi1 : isIns 1 B (.ref x.s) = true := isIns_of hB.s
  simp [hi1]
  refine (turn_sat hB gB (by omega)).mono ?_
  rintro d2 C ⟨rfl, r2, hC, fC, gC⟩
  rw [gc_keepR (i := x.s) (by omega) hC.s (sto_nbd (by show A.length ≤ x.d; omega))]
  exact ⟨{ x with r := r2 }, rfl, hC, (fB.trans fC).old (by omega) (by omega) (by omega) (by omega), by show A.length ≤ x.s; omega, gC.mono (by omega)⟩
theorem home_ok {A : AH} {x : SX} {S : Sto} (h : StoAt A x S) : F_Store_home [.ref x.s] A = .ok (.ref A.length) (A ++ [.dic (dicA (cellsA 0 S.cells))]) := by
  refine sat_eq (sat_def rfl ?_)
  have hs' : A[x.s]? = some (.ins 1 [(2, .int S.P), (3, .int S.S), (4, .ref x.b), (5, .ref x.d), (6, .tup (S.tr.map evD)), (7, hdD S.hn S.hf S.hs), (8, .tup (S.grs.map grD)), (9, .ref x.c), (10, .int S.ng), (11, .int S.ns), (12, .ref x.r), (13, .int S.rd), (14, .tup (S.pu.map puD)), (15, .int S.de), (16, .int S.sd)]) := h.s
  have hi : isDic A (.ref x.c) = true := by simp [isDic, h.c]
  simp [b_Store_home, startE, hs', hi, h.c]
  rw [gc_new0 rfl (dicA_bd _ _)]
  exact ⟨rfl, rfl⟩
theorem disk_ok {A : AH} {N : Nat} {x : SX} {S : Sto} (h : StoAt A x S) (g : SG A N S) : F_Store_disk [.ref x.s] A = .ok (.ref A.length) (A ++ [dkO S.dev]) := by
  refine sat_eq (sat_def rfl ?_)
  have hs' : A[x.s]? = some (.ins 1 [(2, .int S.P), (3, .int S.S), (4, .ref x.b), (5, .ref x.d), (6, .tup (S.tr.map evD)), (7, hdD S.hn S.hf S.hs), (8, .tup (S.grs.map grD)), (9, .ref x.c), (10, .int S.ng), (11, .int S.ns), (12, .ref x.r), (13, .int S.rd), (14, .tup (S.pu.map puD)), (15, .int S.de), (16, .int S.sd)]) := h.s
  have hl := g.len
  have h0 := g.P0
  have h1 := g.S0
  have q1 : F_disk_after [.ref x.d, .tup [], .int 0] A = .ok (.ref A.length) (A ++ [dkO S.dev]) := by
    have := disk_after_ok (es := []) (m := 0) h.d g.dev (by omega) (fun e he => by cases he) (by have := g.dev.few; simpa using this) (by omega) (by simp)
    simpa [Dk.evs] using this
  simp [b_Store_disk, startE, hs', cl, q1]
  rw [gc_new0 rfl g.dev.bd]
  exact ⟨rfl, rfl⟩
theorem fallen_disk_ok {A : AH} {N : Nat} {x : SX} {S : Sto} {c : Nat} {cs : List (Int × Int)} {m : Int} (h : StoAt A x S) (g : SG A N S) (hN : S.beg.lo.length + N ≤ 1000000) (hc : A[c]? = some (.dic (cs.map chD))) (m0 : 0 ≤ m) (m1 : m ≤ S.tr.length) (ok : ∀ q ∈ cs, chOk (S.beg.evs (S.tr.take m.toNat)) q) : F_fallen_disk [.ref x.s, .int m, .ref c] A = .ok (.ref A.length) (A ++ [dkO ((S.beg.evs (S.tr.take m.toNat)).fall cs)]) := by
  refine sat_eq (sat_def rfl ?_)
  have hs' : A[x.s]? = some (.ins 1 [(2, .int S.P), (3, .int S.S), (4, .ref x.b), (5, .ref x.d), (6, .tup (S.tr.map evD)), (7, hdD S.hn S.hf S.hs), (8, .tup (S.grs.map grD)), (9, .ref x.c), (10, .int S.ng), (11, .int S.ns), (12, .ref x.r), (13, .int S.rd), (14, .tup (S.pu.map puD)), (15, .int S.de), (16, .int S.sd)]) := h.s
  have hl := g.len
  have hb := g.blen
  have h0 := g.P0
  have h1 := g.S0
  have e0 : S.dev.st.length = S.beg.st.length := by omega
  have htr : ∀ e ∈ S.tr, EvG A S.beg.st.length e := fun e he => by rw [← e0]; exact g.tr e he
  have q1 := disk_after_ok h.b g.beg (by omega) htr (by have := g.trl; omega) m0 m1
  have hk : DkG A (S.beg.evs (S.tr.take m.toNat)) := g.beg.evs (fun e he => htr e (List.mem_of_mem_take he)) (by have := g.trl; have := List.length_take_le m.toNat S.tr; omega)
  have q2 := fallen_ok (d := A.length) (k := S.beg.evs (S.tr.take m.toNat)) (A := A ++ [dkO (S.beg.evs (S.tr.take m.toNat))]) (c := c) (cs := cs) (by simp) (hk.keep (LstKeep.app A _)) (get_left hc) (by rw [evs_st]; omega) ok
  simp only [List.length_append, List.length_singleton] at q2
  have hi : isIns 0 (A ++ [dkO (S.beg.evs (S.tr.take m.toNat))]) (.ref A.length) = true := isIns_of (by simp; rfl)
  simp [b_fallen_disk, startE, hs', cl, q1, q2, hi]
  have hb : (dkO ((S.beg.evs (S.tr.take m.toNat)).fall cs)).bd A.length = true := (hk.fall ok).bd
  have := gc_new (A := A) (G := [dkO (S.beg.evs (S.tr.take m.toNat)), dkO ((S.beg.evs (S.tr.take m.toNat)).fall cs)]) (j := 1) rfl rfl hb
  rw [this]
  exact ⟨rfl, rfl⟩
def frsK (S : Int) (k : Dk) (told : Chg) : Dk := told.foldl (fun k q => k.write (2 + S + q.1) (rowD q.2)) k
theorem frsK_snoc (S : Int) (k : Dk) (ch : Chg) (q : Int × List Int) : frsK S k (ch ++ [q]) = (frsK S k ch).write (2 + S + q.1) (rowD q.2) := List.foldl_append
theorem frsK_st (S : Int) : ∀ (ch : Chg) (k : Dk), (frsK S k ch).st = k.st ∧ (frsK S k ch).lo = k.lo ++ ch.map fun q => (2 + S + q.1, rowD q.2)
  | [], k => ⟨rfl, by simp [frsK]⟩
  | q :: ch, k => by
    have := frsK_st S ch (k.write (2 + S + q.1) (rowD q.2))
    refine ⟨this.1, this.2.trans ?_⟩
    simp [Dk.write]
def blank (P S : Int) : Dk := ⟨List.replicate (2 + S + P).toNat (.tup []), []⟩
def freshK (P S : Int) (told : Chg) : Dk := ((frsK S (blank P S) told).write 0 (hdD 0 0 0)).barrier
theorem fresh_store_sat {A : AH} {c : Nat} {ch : Chg} {P S : Int} (hc : A[c]? = some (.dic (dicA ch))) (gc' : ChgG P ch) (hfull : P ≤ ch.length) (hP0 : 0 < P) (hP1 : P ≤ 100) (hS0 : 0 < S) (hS1 : S ≤ 100) (r : rdH (freshK P S (srtA ch)) = some (0, 0, 0)) :
    (F_fresh_store [.int P, .int S, .ref c] A).sat (Got A 100 (openS P S (freshK P S (srtA ch)) (0, 0, 0))) := by
  refine sat_def rfl ?_
  simp only [startE]
  have qc := checked_changes_ok hc gc'
  have hk := srtA_8 gc'
  have hsl := srtA_len ch
  have hfew := gc'.few
  generalize htold : srtA ch = told at *
  have qd := new_disk_ok (A := A) (n := (2 + S + P).toNat) (by omega) (by omega)
  rw [show (((2 + S + P).toNat : Nat) : Int) = 2 + S + P by omega] at qd
  have qd' := disk_init_ok (A := A) (n := (2 + S + P).toNat) (by omega) (by omega)
  rw [show (((2 + S + P).toNat : Nat) : Int) = 2 + S + P by omega] at qd'
  unfold b_fresh_store
  refine seq_sat (fun E B => E = [some (.int P), some (.int S), some (.ref c), some (.tup (told.map cgD)), none, none, none] ∧ B = A) (by simp [cl, qc]) ?_
  rintro E B ⟨rfl, rfl⟩
  refine seq_sat (fun E C => E = [some (.int P), some (.int S), some (.ref c), some (.tup (told.map cgD)), none, none, none] ∧ C = B) (by simp [show ¬ ((told.length : Int) < P) by omega]) ?_
  rintro E C ⟨rfl, rfl⟩
  refine seq_sat (fun E B => E = [some (.int P), some (.int S), some (.ref c), some (.tup (told.map cgD)), some (.ref C.length), none, none] ∧ B = C ++ [dkO (blank P S)]) ?_ ?_
  · simp [cl, qd']
    rfl
  rintro E B ⟨rfl, rfl⟩
  have hbg : DkG C (blank P S) := ⟨fun v hv => by rw [List.eq_of_mem_replicate hv]; exact .inr (.inl ⟨[], rfl, rfl, by decide⟩), fun q hq => (by cases hq), (by show 0 ≤ 1000000; omega), by show (List.replicate _ _).length ≤ 1000; rw [List.length_replicate]; omega⟩
  have hbl : ((blank P S).st.length : Int) = 2 + S + P := by show ((List.replicate _ _).length : Int) = _; rw [List.length_replicate]; omega
  have hfg : ∀ j, DkG C (frsK S (blank P S) (told.take j)) := fun j => by
    obtain ⟨e1, e2⟩ := frsK_st S (told.take j) (blank P S)
    refine ⟨by rw [e1]; exact hbg.st, ?_, ?_, by rw [e1]; exact hbg.len⟩
    · rw [e1, e2]
      intro q hq
      have hq : q ∈ (told.take j).map fun q => (2 + S + q.1, rowD q.2) := by simpa [blank] using hq
      obtain ⟨p, hp, rfl⟩ := List.mem_map.mp hq
      have := hk p (List.mem_of_mem_take hp)
      exact ⟨by show 0 ≤ 2 + S + p.1; omega, by show 2 + S + p.1 < _; omega, row_PV C (by omega)⟩
    · rw [e2]
      simp [blank]
      omega
  have hst : ∀ j, (frsK S (blank P S) (told.take j)).st = (blank P S).st := fun j => (frsK_st S _ _).1
  have hlo : ∀ j, (frsK S (blank P S) (told.take j)).lo.length ≤ 1000 := fun j => by
    rw [(frsK_st S _ _).2]
    simp [blank]
    omega
  refine seq_sat (fun E B => ∃ e5 e6, E = [some (.int P), some (.int S), some (.ref c), some (.tup (told.map cgD)), some (.ref C.length), e5, e6] ∧ B = C ++ [dkO (frsK S (blank P S) told)]) ?_ ?_
  · simp
    refine for_sat told.length (fun j E B => ∃ e5 e6, E = [some (.int P), some (.int S), some (.ref c), some (.tup (told.map cgD)), some (.ref C.length), e5, e6] ∧ B = C ++ [dkO (frsK S (blank P S) (told.take j))]) (by simp [Src.size]) ⟨none, none, rfl, rfl⟩ ?_ ?_
    · rintro j E B hj ⟨e5, e6, rfl, rfl⟩
      obtain ⟨q, hq⟩ : ∃ q, told[j]? = some q := ⟨_, List.getElem?_eq_getElem hj⟩
      obtain ⟨k0, k1, k8⟩ := hk q (List.mem_of_getElem? hq)
      refine ⟨cgD q, seq_at (by rw [List.getElem?_map, hq]; rfl) _, tsat_of ?_⟩
      have hi : isIns 0 (C ++ [dkO (frsK S (blank P S) (told.take j))]) (.ref C.length) = true := isIns_of (by simp; rfl)
      have hw := write_ok (A := C ++ [dkO (frsK S (blank P S) (told.take j))]) (d := C.length) (k := frsK S (blank P S) (told.take j)) (by simp) ((hfg j).keep (LstKeep.app _ _)) (p := 2 + S + q.1) (v := rowD q.2) (by omega) (by rw [hst]; omega) (row_PV _ (by omega)) (by have := hlo j; omega)
      rw [← frsK_snoc, ← take_snoc hq] at hw
      unfold rowD at hw
      simp at hw
      simp [cgD, cl, hi, home_plate_ok, hw]
    · rintro E B ⟨e5, e6, rfl, rfl⟩
      refine ⟨by rw [← List.length_map (f := cgD)]; exact seq_end _ _, ?_⟩
      rw [List.take_length]
      exact ⟨⟨e5, e6, rfl⟩, rfl⟩
  rintro E B ⟨e5, e6, rfl, rfl⟩
  have hfT := hfg told.length
  have hlT := hlo told.length
  have hsT := hst told.length
  rw [List.take_length] at hfT hlT hsT
  have hi : ∀ k : Dk, isIns 0 (C ++ [dkO k]) (.ref C.length) = true := fun k => isIns_of (by simp; rfl)
  have hw := write_ok (A := C ++ [dkO (frsK S (blank P S) told)]) (d := C.length) (k := frsK S (blank P S) told) (by simp) (hfT.keep (LstKeep.app _ _)) (p := 0) (v := hdD 0 0 0) (by omega) (by rw [hsT]; omega) (hd_PV _ _ _ _) (by omega)
  unfold hdD at hw
  simp at hw
  refine seq_sat (fun E B => E = [some (.int P), some (.int S), some (.ref c), some (.tup (told.map cgD)), some (.ref C.length), e5, e6] ∧ B = C ++ [dkO ((frsK S (blank P S) told).write 0 (hdD 0 0 0))]) ?_ ?_
  · simp [cl, hi, head_plate_ok, hw, hdD, line]
  rintro E B ⟨rfl, rfl⟩
  have hgw : DkG C ((frsK S (blank P S) told).write 0 (hdD 0 0 0)) := hfT.wr (by omega) (by rw [hsT]; omega) (hd_PV _ _ _ _) (by omega)
  have hb := barrier_ok (A := C ++ [dkO ((frsK S (blank P S) told).write 0 (hdD 0 0 0))]) (d := C.length) (by simp) (hgw.keep (LstKeep.app _ _))
  simp at hb
  refine seq_sat (fun E B => E = [some (.int P), some (.int S), some (.ref c), some (.tup (told.map cgD)), some (.ref C.length), e5, e6] ∧ B = C ++ [dkO (freshK P S told)]) ?_ ?_
  · simp [cl, hi, hb]
    rfl
  rintro E B ⟨rfl, rfl⟩
  have hgf : DkG C (freshK P S told) := hgw.bar
  have hstf : ((freshK P S told).st.length : Int) = 2 + S + P := by
    show ((setAll _ _).length : Int) = _
    rw [setAll_len]
    show ((frsK S (blank P S) told).st.length : Int) = _
    rw [hsT]; omega
  have hdC : (C ++ [dkO (freshK P S told)])[C.length]? = some (dkO (freshK P S told)) := by simp
  have q := store_init_ok hdC (hgf.keep (LstKeep.app _ _)) hP0 hP1 hS0 hS1 hstf rfl r
  have hA := new_at (P := P) (S := S) (h := (0, 0, 0)) hdC
  have gA := (openS_g (hgf.keep (LstKeep.app C [dkO (freshK P S told)])) hP0 hP1 hS0 hS1 hstf rfl r)
  simp at q
  simp [cl, q]
  simp at hA
  rw [gc_keepR (i := C.length + 1) (by omega) hA.s (sto_nbd (by show C.length ≤ _; simp; omega))]
  exact ⟨_, rfl, hA, ⟨_, rfl⟩, by show C.length ≤ C.length + 1; omega, gA.keep (by
    have := LstKeep.app (C ++ [dkO (freshK P S told)]) [stoO ⟨C.length + 1, C.length, C.length + 2, C.length + 3, C.length + 4⟩ (openS P S (freshK P S told) (0, 0, 0)), dkO (freshK P S told), .dic (dicA (cellsA 0 (openS P S (freshK P S told) (0, 0, 0)).cells)), .dic []]
    simpa using this)⟩
end Lw
set_option Elab.async false
set_option linter.all false
set_option maxRecDepth 100000
set_option maxHeartbeats 4000000
/-! What stands on a plate: plain law (own work). -/
namespace Lw
open PySem DL
theorem stAt_set {st : List D} {q p : Int} {v : D} (h0 : 0 ≤ q) (h1 : q < st.length) (hp : 0 ≤ p) : stAt (st.set q.toNat v) p = if q = p then v else stAt st p := by
  unfold stAt
  split
  · rename_i e
    subst e
    rw [List.getElem?_set_self (by omega)]
    rfl
  · rw [List.getElem?_set_ne (by omega)]
theorem loAt_cons (q : Int × D) (lo : List (Int × D)) (p : Int) : loAt (q :: lo) p = if q.1 = p then q.2 :: loAt lo p else loAt lo p := by
  unfold loAt
  rw [List.filter_cons]
  by_cases h : q.1 = p <;> simp [h]
theorem loAt_app (lo lo' : List (Int × D)) (p : Int) : loAt (lo ++ lo') p = loAt lo p ++ loAt lo' p := by
  unfold loAt
  rw [List.filter_append, List.map_append]
theorem stAt_setAll : ∀ (lo : List (Int × D)) {st : List D} {p : Int}, (∀ q ∈ lo, 0 ≤ q.1 ∧ q.1 < st.length) → 0 ≤ p → stAt (setAll st lo) p = ((loAt lo p).getLast?).getD (stAt st p)
  | [], st, p, _, _ => rfl
  | q :: lo, st, p, h, hp => by
    have hq := h q List.mem_cons_self
    show stAt (setAll (st.set q.1.toNat q.2) lo) p = _
    rw [stAt_setAll lo (fun r hr => by rw [List.length_set]; exact h r (List.mem_cons_of_mem _ hr)) hp, stAt_set hq.1 hq.2 hp, loAt_cons]
    split
    · cases e : loAt lo p with
      | nil => rfl
      | cons a t => rw [List.getLast?_cons_cons, List.getLast?_cons]; rfl
    · rfl
/-- what is loose lies on the disk -/
def LoIn (k : Dk) : Prop := ∀ q ∈ k.lo, 0 ≤ q.1 ∧ q.1 < k.st.length
theorem now_nil {k : Dk} (h : k.lo = []) (p : Int) : k.now p = stAt k.st p := by
  unfold Dk.now
  rw [h]
  rfl
theorem barrier_now {k : Dk} (h : LoIn k) {p : Int} (hp : 0 ≤ p) : k.barrier.now p = k.now p := by
  rw [now_nil rfl]
  exact stAt_setAll k.lo h hp
theorem barrier_st {k : Dk} (h : LoIn k) {p : Int} (hp : 0 ≤ p) : stAt k.barrier.st p = k.now p := stAt_setAll k.lo h hp
def pickC (cs : List (Int × Int)) (p : Int) : Int := ((cs.find? fun q => decide (q.1 = p)).map (·.2)).getD 0
theorem ch_zero (k : Dk) (p : Int) : k.ch p 0 = stAt k.st p := by
  unfold Dk.ch
  rw [if_neg (by decide)]
  rfl
theorem loAt_nodup (k : Dk) (p : Int) : ∀ {cs : List (Int × Int)}, (cs.map (·.1)).Nodup → ((loAt (cs.map fun q => (q.1, k.ch q.1 q.2)) p).getLast?).getD (stAt k.st p) = k.ch p (pickC cs p)
  | [], _ => (ch_zero k p).symm
  | q :: cs, h => by
    rw [List.map_cons, List.nodup_cons] at h
    rw [List.map_cons, loAt_cons]
    unfold pickC
    rw [List.find?_cons]
    by_cases e : q.1 = p
    · have hn : loAt (cs.map fun q => (q.1, k.ch q.1 q.2)) p = [] := by
        refine List.eq_nil_iff_forall_not_mem.mpr fun v hv => ?_
        obtain ⟨r, hr, _, hr2⟩ := loAt_mem hv
        obtain ⟨s, hs, rfl⟩ := List.mem_map.mp hr
        refine h.1 (List.mem_map.mpr ⟨s, hs, ?_⟩)
        rw [e]; exact hr2
      simp only [e, hn, if_true, decide_true]
      rfl
    · simp only [e, if_false, decide_false]
      exact loAt_nodup k p h.2
theorem fall_now {k : Dk} {cs : List (Int × Int)} (nd : (cs.map (·.1)).Nodup) (ok : ∀ q ∈ cs, chOk k q) {p : Int} (hp : 0 ≤ p) : (k.fall cs).now p = k.ch p (pickC cs p) := by
  rw [now_nil rfl, fall_eq, stAt_setAll _ _ hp]
  · exact loAt_nodup k p nd
  · intro q hq
    obtain ⟨r, hr, rfl⟩ := List.mem_map.mp hq
    exact ⟨(ok r hr).1, (ok r hr).2.1⟩
theorem pickC_ok {k : Dk} {cs : List (Int × Int)} (ok : ∀ q ∈ cs, chOk k q) (p : Int) : (pickC cs p = -1 ∧ loAt k.lo p ≠ []) ∨ (0 ≤ pickC cs p ∧ pickC cs p ≤ (loAt k.lo p).length) := by
  unfold pickC
  cases e : cs.find? fun q => decide (q.1 = p) with
  | none => right; simp
  | some q =>
    have h1 := ok q (List.mem_of_find?_eq_some e)
    have h2 : q.1 = p := by simpa using List.find?_some e
    rw [← h2]
    exact h1.2.2
/-- nothing loose on the plate: it stays -/
theorem fall_still {k : Dk} {cs : List (Int × Int)} (nd : (cs.map (·.1)).Nodup) (ok : ∀ q ∈ cs, chOk k q) {p : Int} (hp : 0 ≤ p) (h : loAt k.lo p = []) : (k.fall cs).now p = stAt k.st p := by
  rw [fall_now nd ok hp]
  have := pickC_ok ok p
  rw [h] at this
  have e : pickC cs p = 0 := by
    rcases this with ⟨_, z⟩ | ⟨a, b⟩
    · exact absurd rfl z
    · have : (([] : List D).length : Int) = 0 := rfl
      omega
  rw [e, ch_zero]
/-- one value loose on the plate -/
theorem fall_one {k : Dk} {cs : List (Int × Int)} (nd : (cs.map (·.1)).Nodup) (ok : ∀ q ∈ cs, chOk k q) {p : Int} (hp : 0 ≤ p) {v : D} (h : loAt k.lo p = [v]) : (pickC cs p = 1 ∧ (k.fall cs).now p = v) ∨ (pickC cs p ≠ 1 ∧ ((k.fall cs).now p = stAt k.st p ∨ (k.fall cs).now p = .non)) := by
  rw [fall_now nd ok hp]
  have := pickC_ok ok p
  rw [h] at this
  have l1 : (([v] : List D).length : Int) = 1 := rfl
  rcases this with ⟨e, _⟩ | ⟨a, b⟩
  · right
    refine ⟨by omega, .inr ?_⟩
    rw [e]
    rfl
  · by_cases e : pickC cs p = 1
    · left
      refine ⟨e, ?_⟩
      rw [e]
      unfold Dk.ch
      rw [h]
      rfl
    · right
      have e0 : pickC cs p = 0 := by omega
      refine ⟨e, .inl ?_⟩
      rw [e0, ch_zero]
/-! what is read depends on the plates alone -/
theorem rdH_congr {k k' : Dk} (h0 : k.now 0 = k'.now 0) (h1 : k.now 1 = k'.now 1) : rdH k = rdH k' := by
  unfold rdH
  rw [h0, h1]
theorem logF_congr {k k' : Dk} {S : Int} (hS : 0 < S) (h : ∀ p, 2 ≤ p → p < 2 + S → k.now p = k'.now p) : logF k S = logF k' S := by
  funext x
  have m0 := Int.fmod_nonneg_of_pos x hS
  have m1 := Int.fmod_lt_of_pos x hS
  exact h _ (by omega) (by omega)
theorem homeOf_congr {k k' : Dk} {P S : Int} (h : ∀ p, 2 + S ≤ p → p < 2 + S + P → k.now p = k'.now p) : homeOf k P S = homeOf k' P S := by
  unfold homeOf
  refine List.map_congr_left fun i hi => ?_
  have := List.mem_range.mp hi
  rw [h _ (by omega) (by omega)]
theorem seenK_congr {k k' : Dk} {S : Int} (h : ∀ p, 2 ≤ p → p < 2 + S → k.now p = k'.now p) : seenK k S = seenK k' S := by
  unfold seenK logRow
  have : ((List.range S.toNat).map fun i => k.now (2 + (i : Nat))) = (List.range S.toNat).map fun i => k'.now (2 + (i : Nat)) := List.map_congr_left fun i hi => by
    have := List.mem_range.mp hi
    exact h _ (by omega) (by omega)
  rw [this]
/-- what a disk opens to -/
def opens (P S : Int) (k : Dk) (h : Int × Int × Int) : List (List Int) := (openS P S k h).cells
theorem opens_eq (P S : Int) (k : Dk) (h : Int × Int × Int) : opens P S k h = layC (homeOf k P S) (mergedG (rdK k S h.2.1 h.2.2)) := rfl
theorem rdK_congr {k k' : Dk} {S : Int} (hS : 0 < S) (h : ∀ p, 2 ≤ p → p < 2 + S → k.now p = k'.now p) (f s : Int) : rdK k S f s = rdK k' S f s := by
  unfold rdK
  rw [logF_congr hS h]
theorem evs_app (k : Dk) (a b : List Ev) : k.evs (a ++ b) = (k.evs a).evs b := List.foldl_append
end Lw
set_option Elab.async false
set_option linter.all false
set_option maxRecDepth 100000
set_option maxHeartbeats 4000000
/-! Homes and changes: plain law (own work). -/
namespace Lw
open PySem DL
def fA (kvs : Chg) (p : Int) : Option (List Int) := (kvs.find? fun q => decide (q.1 = p)).map (·.2)
def lastW (ch : Chg) (p : Int) (o : Option (List Int)) : Option (List Int) := ch.foldl (fun acc q => if q.1 = p then some q.2 else acc) o
theorem fA_cons (q : Int × List Int) (kvs : Chg) (p : Int) : fA (q :: kvs) p = if q.1 = p then some q.2 else fA kvs p := by
  unfold fA
  rw [List.find?_cons]
  by_cases h : q.1 = p <;> simp [h]
theorem fA_none {kvs : Chg} {p : Int} : fA kvs p = none ↔ p ∉ kvs.map (·.1) := by
  induction kvs with
  | nil => simp [fA]
  | cons q kvs ih =>
    rw [fA_cons]
    by_cases h : q.1 = p
    · simp [h]
    · rw [if_neg h, ih]
      simp [Ne.symm h]
theorem fA_map (kvs : Chg) (k : Int) (v : List Int) (p : Int) : fA (kvs.map fun q => if q.1 = k then (q.1, v) else q) p = if k = p ∧ p ∈ kvs.map (·.1) then some v else fA kvs p := by
  induction kvs with
  | nil => simp [fA]
  | cons q kvs ih =>
    rw [List.map_cons, fA_cons, fA_cons, ih]
    by_cases h3 : k = p
    · subst h3
      by_cases h1 : q.1 = k
      · simp [h1]
      · rw [if_neg h1, if_neg h1]
        by_cases hm : k ∈ kvs.map (·.1)
        · rw [if_pos ⟨rfl, hm⟩, if_pos ⟨rfl, by rw [List.map_cons]; exact List.mem_cons_of_mem _ hm⟩]
        · rw [if_neg (fun z => hm z.2), if_neg (fun z => hm (by
            have := z.2
            rw [List.map_cons] at this
            rcases List.mem_cons.mp this with e | e
            · exact absurd e.symm h1
            · exact e)), if_neg h1]
    · by_cases h1 : q.1 = k
      · simp [h1, h3]
      · simp [h1, h3]
theorem fA_app (a b : Chg) (p : Int) : fA (a ++ b) p = (fA a p).or (fA b p) := by
  induction a with
  | nil => simp [fA]
  | cons q a ih =>
    rw [List.cons_append, fA_cons, fA_cons, ih]
    split <;> simp
theorem fA_putA (kvs : Chg) (k : Int) (v : List Int) (p : Int) : fA (putA kvs k v) p = if k = p then some v else fA kvs p := by
  unfold putA
  split
  · rename_i h
    have hk : k ∈ kvs.map (·.1) := by
      obtain ⟨q, hq, e⟩ := List.any_eq_true.mp h
      exact List.mem_map.mpr ⟨q, hq, by simpa using e⟩
    rw [fA_map]
    by_cases e : k = p
    · subst e; rw [if_pos ⟨rfl, hk⟩, if_pos rfl]
    · rw [if_neg (fun z => e z.1), if_neg e]
  · rename_i h
    have hk : fA kvs k = none := fA_none.mpr fun hm => h (by
      obtain ⟨q, hq, e⟩ := List.mem_map.mp hm
      exact List.any_eq_true.mpr ⟨q, hq, by simpa using e⟩)
    rw [fA_app, fA_cons]
    by_cases e : k = p
    · subst e; rw [hk]; simp
    · simp [e, fA]
theorem fA_mergeA : ∀ (ch kvs : Chg) (p : Int), fA (mergeA kvs ch) p = lastW ch p (fA kvs p)
  | [], _, _ => rfl
  | q :: ch, kvs, p => by
    show fA (mergeA (putA kvs q.1 q.2) ch) p = lastW ch p (if q.1 = p then some q.2 else fA kvs p)
    rw [fA_mergeA ch, fA_putA]
theorem lastW_nd : ∀ {ch : Chg} {p : Int} {o : Option (List Int)}, (ch.map (·.1)).Nodup → lastW ch p o = (fA ch p).or o
  | [], _, _, _ => rfl
  | q :: ch, p, o, h => by
    rw [List.map_cons, List.nodup_cons] at h
    show lastW ch p (if q.1 = p then some q.2 else o) = _
    rw [lastW_nd h.2, fA_cons]
    by_cases e : q.1 = p
    · have : fA ch p = none := fA_none.mpr (e ▸ h.1)
      simp [e, this]
    · simp [e]
theorem lastW_get (ch : Chg) (p : Int) : ∀ (o : Option (List Int)) (c : List Int), (lastW ch p o).getD c = (lastW ch p (some (o.getD c))).getD c := by
  induction ch with
  | nil => intro o c; simp [lastW]
  | cons q ch ih =>
    intro o c
    show (lastW ch p (if q.1 = p then some q.2 else o)).getD c = (lastW ch p (if q.1 = p then some q.2 else some (o.getD c))).getD c
    split
    · rfl
    · exact ih o c
theorem layC_get : ∀ (ch : Chg) (cs : List (List Int)) (i : Nat) (c : List Int), cs[i]? = some c → (∀ q ∈ ch, 0 ≤ q.1) → (layC cs ch)[i]? = some ((lastW ch (i : Nat) (some c)).getD c)
  | [], cs, i, c, h, _ => by simpa [layC_nil, lastW] using h
  | q :: ch, cs, i, c, h, h0 => by
    rw [layC_cons]
    have hq := h0 q List.mem_cons_self
    have hi : i < cs.length := (List.getElem?_eq_some_iff.mp h).1
    have hr : ∀ r ∈ ch, 0 ≤ r.1 := fun r hr => h0 r (List.mem_cons_of_mem _ hr)
    by_cases e : q.1 = (i : Nat)
    · have e1 : (layS cs q)[i]? = some q.2 := by
        unfold layS
        rw [if_pos (by omega), show q.1.toNat = i by omega, List.getElem?_set_self hi]
      rw [layC_get ch _ i q.2 e1 hr]
      show _ = some ((lastW ch (i : Nat) (if q.1 = (i : Nat) then some q.2 else some c)).getD c)
      rw [if_pos e]
      have : ∀ (ch : Chg) (a : List Int), ∃ b, lastW ch (i : Nat) (some a) = some b := by
        intro ch
        induction ch with
        | nil => intro a; exact ⟨a, rfl⟩
        | cons r ch ih =>
          intro a
          show ∃ b, lastW ch (i : Nat) (if r.1 = (i : Nat) then some r.2 else some a) = some b
          split
          · exact ih r.2
          · exact ih a
      obtain ⟨b, hb⟩ := this ch q.2
      rw [hb]
      rfl
    · have e1 : (layS cs q)[i]? = some c := by
        unfold layS
        split
        · rw [List.getElem?_set_ne (by omega)]; exact h
        · exact h
      rw [layC_get ch _ i c e1 hr]
      show _ = some ((lastW ch (i : Nat) (if q.1 = (i : Nat) then some q.2 else some c)).getD c)
      rw [if_neg e]
theorem layC_nd {ch : Chg} {cs : List (List Int)} {i : Nat} {c : List Int} (h : cs[i]? = some c) (h0 : ∀ q ∈ ch, 0 ≤ q.1) (nd : (ch.map (·.1)).Nodup) : (layC cs ch)[i]? = some ((fA ch (i : Nat)).getD c) := by
  rw [layC_get ch cs i c h h0, lastW_nd nd]
  cases fA ch (i : Nat) <;> rfl
theorem layC_ext {cs cs' : List (List Int)} {ch ch' : Chg} (hl : cs.length = cs'.length) (h : ∀ i < cs.length, (layC cs ch)[i]? = (layC cs' ch')[i]?) : layC cs ch = layC cs' ch' := by
  refine List.ext_getElem? fun i => ?_
  by_cases hi : i < cs.length
  · exact h i hi
  · rw [List.getElem?_eq_none (by rw [layC_len]; omega), List.getElem?_eq_none (by rw [layC_len]; omega)]
theorem mergedG_nd (gs : List (Int × Int × Chg)) : ((mergedG gs).map (·.1)).Nodup := by
  have : ∀ (gs : List (Int × Int × Chg)) (acc : Chg), (acc.map (·.1)).Nodup → ((gs.foldl (fun acc g => mergeA acc g.2.2) acc).map (·.1)).Nodup := by
    intro gs
    induction gs with
    | nil => intro acc h; exact h
    | cons g gs ih => intro acc h; exact ih _ (mergeA_nd _ _ h)
  exact this gs [] List.nodup_nil
def GrK (gs : List (Int × Int × Chg)) : Prop := ∀ g ∈ gs, ∀ q ∈ g.2.2, 0 ≤ q.1
theorem mergedG_k {gs : List (Int × Int × Chg)} (h : GrK gs) : ∀ q ∈ mergedG gs, 0 ≤ q.1 := fun q hq => by
  obtain ⟨g, hg, hq⟩ := mergedG_mem hq
  exact h g hg q hq
/-- one more group -/
theorem layC_more {gs : List (Int × Int × Chg)} {g : Int × Int × Chg} (h : GrK (gs ++ [g])) (cs : List (List Int)) : layC cs (mergedG (gs ++ [g])) = layC (layC cs (mergedG gs)) g.2.2 := by
  have hg : GrK gs := fun x hx => h x (List.mem_append_left _ hx)
  have hq : ∀ q ∈ g.2.2, 0 ≤ q.1 := h g (List.mem_append_right _ List.mem_cons_self)
  refine layC_ext (by rw [layC_len]) fun i hi => ?_
  have e : cs[i]? = some cs[i] := List.getElem?_eq_getElem hi
  rw [layC_nd e (mergedG_k h) (mergedG_nd _), layC_get g.2.2 _ i _ (layC_nd e (mergedG_k hg) (mergedG_nd _)) hq, mergedG_snoc, fA_mergeA]
  have h1 := lastW_get g.2.2 (i : Nat) (fA (mergedG gs) (i : Nat)) cs[i]
  rw [h1]
  have : ∀ (ch : Chg) (a : List Int), ∃ b, lastW ch (i : Nat) (some a) = some b := by
    intro ch
    induction ch with
    | nil => intro a; exact ⟨a, rfl⟩
    | cons r ch ih =>
      intro a
      show ∃ b, lastW ch (i : Nat) (if r.1 = (i : Nat) then some r.2 else some a) = some b
      split
      · exact ih r.2
      · exact ih a
  obtain ⟨b, hb⟩ := this g.2.2 ((fA (mergedG gs) (i : Nat)).getD cs[i])
  rw [hb]
  rfl
theorem fA_getA (ch : Chg) (k : Int) : (fA ch k).getD [] = getA ch k := rfl
theorem fA_srt {ch : Chg} (p : Int) : fA (srtA ch) p = fA ch p := by
  have key : ∀ (ks : List Int), fA (ks.map fun k => (k, getA ch k)) p = if p ∈ ks then some (getA ch p) else none := by
    intro ks
    induction ks with
    | nil => simp [fA]
    | cons k ks ih =>
      rw [List.map_cons, fA_cons, ih]
      by_cases e : k = p
      · simp [e]
      · simp [e, Ne.symm e]
  unfold srtA sortK
  rw [key]
  split
  · rename_i h
    have hm : p ∈ ch.map (·.1) := sortI_mem.mp h
    cases e : fA ch p with
    | none => exact absurd hm (fA_none.mp e)
    | some c => rw [← fA_getA, e]; rfl
  · rename_i h
    have hm : p ∉ ch.map (·.1) := fun z => h (sortI_mem.mpr z)
    exact (fA_none.mpr hm).symm
theorem srt_nd {ch : Chg} (nd : (ch.map (·.1)).Nodup) : ((srtA ch).map (·.1)).Nodup := by
  have : (srtA ch).map (·.1) = sortK ch := by
    unfold srtA
    rw [List.map_map]
    exact List.map_id _
  rw [this]
  exact ((List.mergeSort_perm _ _).nodup_iff).mpr nd
theorem srt_keys {ch : Chg} {x : Int} : x ∈ (srtA ch).map (·.1) ↔ x ∈ ch.map (·.1) := by
  have : (srtA ch).map (·.1) = sortK ch := by
    unfold srtA
    rw [List.map_map]
    exact List.map_id _
  rw [this]
  exact sortI_mem
theorem layC_srt {ch : Chg} (nd : (ch.map (·.1)).Nodup) (h0 : ∀ q ∈ ch, 0 ≤ q.1) (cs : List (List Int)) : layC cs (srtA ch) = layC cs ch := by
  have h1 : ∀ q ∈ srtA ch, 0 ≤ q.1 := fun q hq => by
    have : q.1 ∈ ch.map (·.1) := srt_keys.mp (List.mem_map.mpr ⟨q, hq, rfl⟩)
    obtain ⟨r, hr, e⟩ := List.mem_map.mp this
    rw [← e]
    exact h0 r hr
  refine layC_ext rfl fun i hi => ?_
  have e : cs[i]? = some cs[i] := List.getElem?_eq_getElem hi
  rw [layC_nd e h1 (srt_nd nd), layC_nd e h0 nd, fA_srt]
/-- the home ahead matters only where nothing is laid over it -/
theorem layC_over {cs cs' : List (List Int)} {ch : Chg} (nd : (ch.map (·.1)).Nodup) (h0 : ∀ q ∈ ch, 0 ≤ q.1) (hl : cs.length = cs'.length) (h : ∀ i : Nat, i < cs.length → fA ch (i : Nat) = none → cs[i]? = cs'[i]?) : layC cs ch = layC cs' ch := by
  refine layC_ext hl fun i hi => ?_
  have e : cs[i]? = some cs[i] := List.getElem?_eq_getElem hi
  have e' : cs'[i]? = some (cs'[i]'(by omega)) := List.getElem?_eq_getElem (by omega)
  rw [layC_nd e h0 nd, layC_nd e' h0 nd]
  cases hf : fA ch (i : Nat) with
  | some c => rfl
  | none =>
    have := h i hi hf
    rw [e, e'] at this
    exact congrArg (fun o => some ((none : Option (List Int)).getD (o.getD []))) this
/-- merged changes laid on a home -/
theorem layC_merge {run told : Chg} (h0 : ∀ q ∈ run, 0 ≤ q.1) (h1 : ∀ q ∈ told, 0 ≤ q.1) (nd : (run.map (·.1)).Nodup) (cs : List (List Int)) : layC cs (mergeA run told) = layC (layC cs run) told := by
  have h2 : ∀ q ∈ mergeA run told, 0 ≤ q.1 := fun q hq => by
    rcases mergeA_mem hq with e | e
    · exact h0 q e
    · exact h1 q e
  refine layC_ext (by rw [layC_len]) fun i hi => ?_
  have e : cs[i]? = some cs[i] := List.getElem?_eq_getElem hi
  rw [layC_nd e h2 (mergeA_nd _ _ nd), layC_get told _ i _ (layC_nd e h0 nd) h1, fA_mergeA]
  have h3 := lastW_get told (i : Nat) (fA run (i : Nat)) cs[i]
  rw [h3]
  have : ∀ (ch : Chg) (a : List Int), ∃ b, lastW ch (i : Nat) (some a) = some b := by
    intro ch
    induction ch with
    | nil => intro a; exact ⟨a, rfl⟩
    | cons r ch ih =>
      intro a
      show ∃ b, lastW ch (i : Nat) (if r.1 = (i : Nat) then some r.2 else some a) = some b
      split
      · exact ih r.2
      · exact ih a
  obtain ⟨b, hb⟩ := this told ((fA run (i : Nat)).getD cs[i])
  rw [hb]
  rfl
end Lw
set_option Elab.async false
set_option linter.all false
set_option maxRecDepth 100000
set_option maxHeartbeats 4000000
/-! The ring: plain law (own work). -/
namespace Lw
open PySem DL
abbrev Grs := List (Int × Int × Chg)
def SeqG : Int → Int → Grs → Prop
  | _, _, [] => True
  | g, s, x :: t => x.1 = g ∧ x.2.1 = s ∧ x.2.2 ≠ [] ∧ (∀ q ∈ x.2.2, 0 ≤ q.1 ∧ q.2.length = 8) ∧ SeqG (g + 1) (s + x.2.2.length) t
def flat : Grs → List D
  | [] => []
  | x :: t => rowsFrom x.1 x.2.2.length 0 x.2.2 ++ flat t
theorem chSum_cons (x : Int × Int × Chg) (t : Grs) : chSum (x :: t) = x.2.2.length + chSum t := by simp [chSum]
theorem flat_len : ∀ gs : Grs, (flat gs).length = chSum gs
  | [] => rfl
  | x :: t => by rw [flat, List.length_append, rowsFrom_len, flat_len t, chSum_cons]
theorem wgL_rows {f : Int → D} {slot group m : Int} (hg : 0 ≤ group) : ∀ {n a : Nat} {ch : Chg}, ch.length = n → ((a + n : Nat) : Int) = m → (∀ (i : Nat) q, ch[i]? = some q → f (slot + (a + i : Nat)) = lpD group (a + i : Nat) m q) → (∀ q ∈ ch, 0 ≤ q.1 ∧ q.2.length = 8) → wgL f slot group m a n = some ch
  | 0, a, ch, hl, _, _, _ => by rw [List.eq_nil_of_length_eq_zero hl]; rfl
  | n + 1, a, [], hl, _, _, _ => by cases hl
  | n + 1, a, q :: ch, hl, hm, h, h8 => by
    have e := h 0 q rfl
    have hq := h8 q List.mem_cons_self
    simp only [Nat.add_zero] at e
    unfold wgL
    rw [e, lp_is _ _ _ _ hq.2, lp_ch]
    have ih := wgL_rows (f := f) (slot := slot) (m := m) hg (n := n) (a := a + 1) (ch := ch) (by simpa using hl) (by omega) (fun i r hr => by
      have := h (i + 1) r hr
      rw [show a + (i + 1) = a + 1 + i by omega] at this
      exact this) fun r hr => h8 r (List.mem_cons_of_mem _ hr)
    rw [ih]
    have c1 : (0 : Int) ≤ (a : Int) := by omega
    have c2 : (a : Int) < m := by omega
    simp [c2, hg, hq.1]
theorem wgT_rows {f : Int → D} {s slot group : Int} (hg : 0 ≤ group) {ch : Chg} (hne : ch ≠ []) (hs : (ch.length : Int) ≤ s) (h : ∀ (i : Nat) q, ch[i]? = some q → f (slot + (i : Nat)) = lpD group (i : Nat) ch.length q) (h8 : ∀ q ∈ ch, 0 ≤ q.1 ∧ q.2.length = 8) : wgT f s slot group = some ch := by
  obtain ⟨q, t, rfl⟩ := List.exists_cons_of_ne_nil hne
  have e := h 0 q rfl
  have hq := h8 q List.mem_cons_self
  have e0 : f slot = lpD group 0 (q :: t).length q := by simpa using e
  have l := wgL_rows (f := f) (slot := slot) (m := ((q :: t).length : Nat)) hg (n := (q :: t).length) (a := 0) (ch := q :: t) rfl (by simp) (fun i r hr => by simpa using h i r hr) h8
  unfold wgT
  rw [e0, lp_log _ _ _ _ hq.2]
  have i0 : i0D (lpD group 0 ((q :: t).length : Nat) q) = group := rfl
  have i1 : i1D (lpD group 0 ((q :: t).length : Nat) q) = 0 := rfl
  have i2 : i2D (lpD group 0 ((q :: t).length : Nat) q) = ((q :: t).length : Nat) := rfl
  rw [i0, i1, i2, Int.toNat_natCast, l]
  have c1 : (0 : Int) < ((q :: t).length : Nat) := by simp
  simp only [c1, hg, hq.1, hs, decide_true, Bool.and_self, if_true, Int.le_refl]
theorem wgL_log {f : Int → D} {slot group m : Int} : ∀ {n a : Nat} {ch : Chg}, wgL f slot group m a n = some ch → ∀ i < n, isLog (f (slot + (a + i : Nat))) = true ∧ i0D (f (slot + (a + i : Nat))) = group
  | 0, _, _, _, i, hi => by omega
  | n + 1, a, ch, h, i, hi => by
    unfold wgL at h
    split at h
    · rename_i z
      obtain ⟨c, hc, rfl⟩ := Option.map_eq_some_iff.mp h
      cases i with
      | zero =>
        unfold logIs at z
        simp only [Bool.and_eq_true, decide_eq_true_eq] at z
        exact ⟨z.1, z.2.1.1⟩
      | succ i =>
        have := wgL_log hc i (by omega)
        rw [show a + (i + 1) = a + 1 + i by omega]
        exact this
    · cases h
theorem wgT_none {f : Int → D} {s slot group : Int} {m : Nat} (h : ∃ i < m, ¬ (isLog (f (slot + (i : Nat))) = true ∧ i0D (f (slot + (i : Nat))) = group)) (h2 : isLog (f slot) = true → i0D (f slot) = group → i2D (f slot) = m) : wgT f s slot group = none := by
  unfold wgT
  split
  · rename_i z
    simp only [Bool.and_eq_true, decide_eq_true_eq] at z
    have e := h2 z.1 z.2.1.1
    rw [e, Int.toNat_natCast]
    cases hw : wgL f slot group m 0 m with
    | none => rfl
    | some ch =>
      obtain ⟨i, hi, hn⟩ := h
      have := wgL_log hw i hi
      simp only [Nat.zero_add] at this
      exact absurd this hn
  · rfl
theorem wgT_none0 {f : Int → D} {s slot group : Int} (h : isLog (f slot) = true → i0D (f slot) ≠ group) : wgT f s slot group = none := by
  unfold wgT
  split
  · rename_i z
    simp only [Bool.and_eq_true, decide_eq_true_eq] at z
    exact absurd z.2.1.1 (h z.1)
  · rfl
theorem row_of {gs : Grs} {x : Int × Int × Chg} {i : Nat} {q : Int × List Int} (h : x.2.2[i]? = some q) : (flat (x :: gs))[i]? = some (lpD x.1 (i : Nat) x.2.2.length q) := by
  have hi : i < x.2.2.length := (List.getElem?_eq_some_iff.mp h).1
  rw [flat, List.getElem?_append_left (by rw [rowsFrom_len]; exact hi)]
  have := rowsFrom_get x.1 x.2.2.length x.2.2 0 i q h
  simpa using this
theorem row_next (gs : Grs) (x : Int × Int × Chg) (i : Nat) : (flat (x :: gs))[x.2.2.length + i]? = (flat gs)[i]? := by
  rw [flat, List.getElem?_append_right (by rw [rowsFrom_len]; omega), rowsFrom_len, show x.2.2.length + i - x.2.2.length = i by omega]
theorem rd_pref {f : Int → D} {S : Nat} {hf : Int} (hf0 : 0 ≤ hf) (pres : Nat → Bool) : ∀ (rest : Grs) (fuel used : Nat) (g s : Int) (n : Nat), SeqG g s rest → hf ≤ g → used + chSum rest ≤ S → rest.length < fuel →
    (∀ i, pres (used + i) = true → i < chSum rest → (flat rest)[i]? = some (f (s + (i : Nat)))) → (∀ i, used + i < S → pres (used + i) = false → isLog (f (s + (i : Nat))) = true → i0D (f (s + (i : Nat))) < hf) →
    n ≤ rest.length → (∀ i < chSum (rest.take n), pres (used + i) = true) → (n < rest.length → ∃ i, chSum (rest.take n) ≤ i ∧ i < chSum (rest.take (n + 1)) ∧ pres (used + i) = false) →
    (n = rest.length → wgT f S (s + (chSum rest : Nat)) (g + rest.length) = none) → rdG f S fuel g s used = rest.take n
  | _, 0, _, _, _, _, _, _, _, hfu, _, _, _, _, _, _ => by omega
  | [], fuel + 1, used, g, s, n, _, _, _, _, _, _, hn, _, _, stop => by
    have e := stop (by simpa using hn)
    have e2 : wgT f S s g = none := by simpa [chSum] using e
    unfold rdG
    rw [e2]
    simp
  | x :: t, fuel + 1, used, g, s, 0, hq, hg, hS, _, Q1, Q2, _, _, B, _ => by
    obtain ⟨i, _, hi, hp⟩ := B (by simp)
    obtain ⟨x1, x2, x3, x4, x5⟩ := hq
    rw [chSum_cons] at hS
    have hlen : i < x.2.2.length := by simpa [chSum] using hi
    have hbad : ∀ j, j < x.2.2.length → pres (used + j) = false → isLog (f (s + (j : Nat))) = true → i0D (f (s + (j : Nat))) < hf := fun j hj => Q2 j (by omega)
    have e : wgT f S s g = none := by
      refine wgT_none (m := x.2.2.length) ⟨i, hlen, fun z => ?_⟩ fun z1 z2 => ?_
      · have := hbad i hlen hp z.1
        omega
      · have hp0 : pres (used + 0) = true := by
          cases hp0 : pres (used + 0) with
          | true => rfl
          | false =>
            have := hbad 0 (by omega) hp0 (by simpa using z1)
            have e0 : s + ((0 : Nat) : Int) = s := by omega
            rw [e0] at this
            omega
        obtain ⟨q, hq⟩ : ∃ q, x.2.2[0]? = some q := ⟨_, List.getElem?_eq_getElem (by omega)⟩
        have h1 := Q1 0 hp0 (by rw [chSum_cons]; omega)
        rw [row_of hq] at h1
        have e0 : s + ((0 : Nat) : Int) = s := by omega
        rw [e0] at h1
        rw [← Option.some.inj h1]
        rfl
    unfold rdG
    rw [e]
    rfl
  | x :: t, fuel + 1, used, g, s, n + 1, hq, hg, hS, hfu, Q1, Q2, hn, A, B, stop => by
    obtain ⟨x1, x2, x3, x4, x5⟩ := hq
    rw [chSum_cons] at hS
    rw [List.take_succ_cons, chSum_cons] at A
    have e : wgT f S s g = some x.2.2 := by
      refine wgT_rows (by omega) x3 (by omega) (fun i q h => ?_) x4
      have hi : i < x.2.2.length := (List.getElem?_eq_some_iff.mp h).1
      have h1 := Q1 i (A i (by omega)) (by rw [chSum_cons]; omega)
      rw [row_of h, x1] at h1
      exact (Option.some.inj h1).symm
    have ih := rd_pref (f := f) (S := S) hf0 pres t fuel (used + x.2.2.length) (g + 1) (s + x.2.2.length) n x5 (by omega) (by omega) (by simpa using hfu)
      (fun i hp hi => by
        rw [Nat.add_assoc] at hp
        have := Q1 (x.2.2.length + i) hp (by rw [chSum_cons]; omega)
        rw [row_next] at this
        rw [this, Int.add_assoc]
        rfl)
      (fun i hi hp => by
        rw [Nat.add_assoc] at hp
        have := Q2 (x.2.2.length + i) (by omega) hp
        rw [Int.add_assoc]
        exact this)
      (by simpa using hn)
      (fun i hi => by
        rw [Nat.add_assoc]
        exact A (x.2.2.length + i) (by omega))
      (fun hn => by
        obtain ⟨i, h1, h2, h3⟩ := B (by simpa using hn)
        rw [List.take_succ_cons, chSum_cons] at h1 h2
        refine ⟨i - x.2.2.length, by omega, by omega, ?_⟩
        rw [show used + x.2.2.length + (i - x.2.2.length) = used + i by omega]
        exact h3)
      (fun e => by
        have := stop (by simpa using e)
        rw [chSum_cons] at this
        rw [← this, List.length_cons, show s + ((x.2.2.length : Nat) : Int) + (chSum t : Nat) = s + ((x.2.2.length + chSum t : Nat) : Int) by omega, show g + 1 + ((t.length : Nat) : Int) = g + ((t.length + 1 : Nat) : Int) by omega])
    unfold rdG
    rw [e]
    simp only
    rw [if_pos (by omega), show ((used : Int) + (x.2.2.length : Nat)) = ((used + x.2.2.length : Nat) : Int) by omega, ih, List.take_succ_cons]
    congr 1
    rw [← x1, ← x2]
theorem seq_num {gs : Grs} : ∀ {g s : Int}, SeqG g s gs → ∀ (i : Nat) x, gs[i]? = some x → x.1 = g + i ∧ x.2.1 = s + (chSum (gs.take i) : Nat) ∧ x.2.2 ≠ [] ∧ ∀ q ∈ x.2.2, 0 ≤ q.1 ∧ q.2.length = 8 := by
  induction gs with
  | nil => intro g s _ i x h; cases h
  | cons y t ih =>
    intro g s hq i x h
    obtain ⟨x1, x2, x3, x4, x5⟩ := hq
    cases i with
    | zero =>
      cases h
      exact ⟨by omega, by simp [chSum, x2], x3, x4⟩
    | succ i =>
      obtain ⟨a, b, c⟩ := ih x5 i x h
      rw [List.take_succ_cons, chSum_cons]
      exact ⟨by omega, by omega, c⟩
theorem seq_app {gs : Grs} {y : Int × Int × Chg} : ∀ {g s : Int}, SeqG g s gs → y.1 = g + gs.length → y.2.1 = s + (chSum gs : Nat) → y.2.2 ≠ [] → (∀ q ∈ y.2.2, 0 ≤ q.1 ∧ q.2.length = 8) → SeqG g s (gs ++ [y]) := by
  induction gs with
  | nil =>
    intro g s _ h1 h2 h3 h4
    exact ⟨by simpa using h1, by simpa [chSum] using h2, h3, h4, trivial⟩
  | cons x t ih =>
    intro g s hq h1 h2 h3 h4
    obtain ⟨x1, x2, x3, x4, x5⟩ := hq
    rw [chSum_cons] at h2
    exact ⟨x1, x2, x3, x4, ih x5 (by simp at h1; omega) (by omega) h3 h4⟩
theorem seq_len {gs : Grs} : ∀ {g s : Int}, SeqG g s gs → gs.length ≤ chSum gs := by
  induction gs with
  | nil => intro g s _; simp
  | cons x t ih =>
    intro g s hq
    obtain ⟨x1, x2, x3, x4, x5⟩ := hq
    have := ih x5
    have h3 : 0 < x.2.2.length := List.length_pos_iff.mpr x3
    rw [chSum_cons, List.length_cons]
    omega
/-- each row of the ring's groups bears a number that its groups have -/
theorem flat_num {gs : Grs} : ∀ {g s : Int}, SeqG g s gs → ∀ v ∈ flat gs, i0D v < g + gs.length := by
  induction gs with
  | nil => intro g s _ v h; cases h
  | cons x t ih =>
    intro g s hq v h
    obtain ⟨x1, x2, x3, x4, x5⟩ := hq
    rw [flat] at h
    rcases List.mem_append.mp h with h | h
    · obtain ⟨i, hi⟩ := List.mem_iff_getElem?.mp h
      have hil : i < x.2.2.length := by
        have := (List.getElem?_eq_some_iff.mp hi).1
        rwa [rowsFrom_len] at this
      obtain ⟨q, hq⟩ : ∃ q, x.2.2[i]? = some q := ⟨_, List.getElem?_eq_getElem hil⟩
      have e := rowsFrom_get x.1 x.2.2.length x.2.2 0 i q hq
      rw [e] at hi
      cases hi
      show x.1 < _
      simp only [List.length_cons]
      omega
    · have := ih x5 v h
      simp only [List.length_cons]
      omega
end Lw
set_option Elab.async false
set_option linter.all false
set_option maxRecDepth 100000
set_option maxHeartbeats 4000000
/-! A fall while rows of the ring are loose: plain law (own work). -/
namespace Lw
open PySem DL
def rp (S hs : Int) (i : Nat) : Int := 2 + (hs + (i : Nat)).fmod S
theorem rp_in {S hs : Int} (h : 0 < S) (i : Nat) : 2 ≤ rp S hs i ∧ rp S hs i < 2 + S := by
  have m0 := Int.fmod_nonneg_of_pos (hs + (i : Nat)) h
  have m1 := Int.fmod_lt_of_pos (hs + (i : Nat)) h
  unfold rp
  omega
theorem rp_inj {S hs : Int} (h : 0 < S) {i j : Nat} (hi : (i : Int) < S) (hj : (j : Int) < S) (e : rp S hs i = rp S hs j) : i = j := by
  unfold rp at e
  have e2 : (hs + (i : Nat)).fmod S = (hs + (j : Nat)).fmod S := by omega
  rw [Int.fmod_eq_emod_of_nonneg _ (by omega), Int.fmod_eq_emod_of_nonneg _ (by omega)] at e2
  have e3 := Int.emod_eq_emod_iff_emod_sub_eq_zero.mp e2
  have e4 := Int.dvd_of_emod_eq_zero e3
  by_cases z : i = j
  · exact z
  · exfalso
    have : (hs + (i : Nat)) - (hs + (j : Nat)) ≠ 0 := by omega
    have h5 := Int.le_of_dvd (a := S) (b := if hs + (i : Nat) - (hs + (j : Nat)) < 0 then -(hs + (i : Nat) - (hs + (j : Nat))) else hs + (i : Nat) - (hs + (j : Nat))) (by split <;> omega) (by
      split
      · exact (Int.dvd_neg).mpr e4
      · exact e4)
    split at h5 <;> omega
structure RingSt (st : List D) (S hf hs : Int) (L : List D) (a : Nat) : Prop where
  live : ∀ i < a, L[i]? = some (stAt st (rp S hs i))
  dead : ∀ i : Nat, a ≤ i → (i : Int) < S → isLog (stAt st (rp S hs i)) = true → i0D (stAt st (rp S hs i)) < hf
structure RLo (lo : List (Int × D)) (S hs : Int) (L : List D) (a b : Nat) : Prop where
  le : a ≤ b
  len : lo.length = b - a
  row : ∀ i v, a ≤ i → i < b → L[i]? = some v → lo[i - a]? = some (rp S hs i, v)
  up : b ≤ L.length
theorem loAt_none {lo : List (Int × D)} {p : Int} (h : ∀ q ∈ lo, q.1 ≠ p) : loAt lo p = [] := by
  refine List.eq_nil_iff_forall_not_mem.mpr fun v hv => ?_
  obtain ⟨q, hq, _, e⟩ := loAt_mem hv
  exact h q hq e
theorem loAt_single : ∀ {lo : List (Int × D)} {p : Int} {v : D} {i : Nat}, lo[i]? = some (p, v) → (∀ j q, lo[j]? = some q → q.1 = p → j = i) → loAt lo p = [v]
  | [], _, _, _, h, _ => by cases h
  | q :: lo, p, v, 0, h, hu => by
    cases h
    rw [loAt_cons, if_pos rfl, loAt_none]
    intro r hr e
    obtain ⟨j, hj⟩ := List.mem_iff_getElem?.mp hr
    have := hu (j + 1) r hj e
    omega
  | q :: lo, p, v, i + 1, h, hu => by
    rw [loAt_cons, if_neg]
    · exact loAt_single (i := i) h fun j r hj e => by
        have := hu (j + 1) r hj e
        omega
    · intro e
      have := hu 0 q rfl e
      omega
theorem RLo.get {lo : List (Int × D)} {S hs : Int} {L : List D} {a b : Nat} (h : RLo lo S hs L a b) {j : Nat} {q : Int × D} (e : lo[j]? = some q) : a + j < b ∧ q.1 = rp S hs (a + j) ∧ L[a + j]? = some q.2 := by
  have hj : j < lo.length := (List.getElem?_eq_some_iff.mp e).1
  rw [h.len] at hj
  have := h.up
  obtain ⟨v, hv⟩ : ∃ v, L[a + j]? = some v := ⟨_, List.getElem?_eq_getElem (by omega)⟩
  have r := h.row (a + j) v (by omega) (by omega) hv
  rw [show a + j - a = j by omega, e] at r
  cases r
  exact ⟨by omega, rfl, hv⟩
theorem RLo.at_ {lo : List (Int × D)} {S hs : Int} {L : List D} {a b : Nat} (h : RLo lo S hs L a b) (hS : 0 < S) (hb : (b : Int) ≤ S) {i : Nat} (h1 : a ≤ i) (h2 : i < b) {v : D} (hv : L[i]? = some v) : loAt lo (rp S hs i) = [v] := by
  refine loAt_single (h.row i v h1 h2 hv) fun j q hj e => ?_
  obtain ⟨g1, g2, _⟩ := h.get hj
  rw [g2] at e
  have := rp_inj hS (by omega) (by omega) e
  omega
theorem RLo.off {lo : List (Int × D)} {S hs : Int} {L : List D} {a b : Nat} (h : RLo lo S hs L a b) (hS : 0 < S) (hb : (b : Int) ≤ S) {i : Nat} (hi : (i : Int) < S) (h1 : i < a ∨ b ≤ i) : loAt lo (rp S hs i) = [] := by
  refine loAt_none fun q hq e => ?_
  obtain ⟨j, hj⟩ := List.mem_iff_getElem?.mp hq
  obtain ⟨g1, g2, _⟩ := h.get hj
  rw [g2] at e
  have := rp_inj hS (by omega) hi e
  omega
theorem RLo.out {lo : List (Int × D)} {S hs : Int} {L : List D} {a b : Nat} (h : RLo lo S hs L a b) (hS : 0 < S) {p : Int} (hp : p < 2 ∨ 2 + S ≤ p) : loAt lo p = [] := by
  refine loAt_none fun q hq e => ?_
  obtain ⟨j, hj⟩ := List.mem_iff_getElem?.mp hq
  obtain ⟨g1, g2, _⟩ := h.get hj
  have := rp_in (hs := hs) hS (a + j)
  omega
theorem RLo.push {lo : List (Int × D)} {S hs : Int} {L : List D} {a b : Nat} (h : RLo lo S hs L a b) {v : D} (hv : L[b]? = some v) : RLo (lo ++ [(rp S hs b, v)]) S hs L a (b + 1) := by
  have hl := h.le
  refine ⟨by omega, by rw [List.length_append, h.len, List.length_singleton]; omega, fun i w h1 h2 hw => ?_, by have := (List.getElem?_eq_some_iff.mp hv).1; omega⟩
  by_cases e : i < b
  · rw [List.getElem?_append_left (by rw [h.len]; omega)]
    exact h.row i w h1 e hw
  · have : i = b := by omega
    subst this
    rw [hv] at hw
    cases hw
    rw [List.getElem?_append_right (by rw [h.len]; omega), h.len, show i - a - (i - a) = 0 by omega]
    rfl
theorem RLo.grow {lo : List (Int × D)} {S hs : Int} {L : List D} {a b : Nat} (h : RLo lo S hs L a b) (M : List D) : RLo lo S hs (L ++ M) a b := by
  have hu := h.up
  refine ⟨h.le, h.len, fun i v h1 h2 hv => h.row i v h1 h2 ?_, by rw [List.length_append]; omega⟩
  rwa [List.getElem?_append_left (by omega)] at hv
theorem RingSt.grow {st : List D} {S hf hs : Int} {L : List D} {a : Nat} (h : RingSt st S hf hs L a) (M : List D) : RingSt st S hf hs (L ++ M) a := ⟨fun i hi => by
  have e := h.live i hi
  rw [List.getElem?_append_left (List.getElem?_eq_some_iff.mp e).1]
  exact e, h.dead⟩
/-- after a barrier the loose rows are settled -/
theorem RingSt.bar {k : Dk} {S hf hs : Int} {L : List D} {a b : Nat} (h : RingSt k.st S hf hs L a) (l : RLo k.lo S hs L a b) (hS : 0 < S) (hb : (b : Int) ≤ S) (hin : LoIn k) : RingSt k.barrier.st S hf hs L b := by
  have hp := fun i : Nat => (rp_in (S := S) (hs := hs) hS i).1
  refine ⟨fun i hi => ?_, fun i hi hS' => ?_⟩
  · rw [barrier_st hin (by have := hp i; omega)]
    unfold Dk.now
    have hu := l.up
    by_cases e : i < a
    · rw [l.off hS hb (by omega) (.inl e)]
      exact h.live i e
    · obtain ⟨v, hv⟩ : ∃ v, L[i]? = some v := ⟨_, List.getElem?_eq_getElem (by omega)⟩
      rw [l.at_ hS hb (by omega) hi hv]
      exact hv
  · rw [barrier_st hin (by have := hp i; omega)]
    unfold Dk.now
    rw [l.off hS hb hS' (.inr hi)]
    exact h.dead i (by have := l.le; omega) hS'
def presC (cs : List (Int × Int)) (S hs : Int) (a b : Nat) (i : Nat) : Bool := decide (i < a) || (decide (a ≤ i) && decide (i < b) && decide (pickC cs (rp S hs i) = 1))
theorem log_read {k : Dk} {S hf hs : Int} {all : Grs} {a b n : Nat} (hS : 0 < S) (hf0 : 0 ≤ hf) (hq : SeqG hf hs all) (hT : (chSum all : Int) ≤ S) (R : RingSt k.st S hf hs (flat all) a) (l : RLo k.lo S hs (flat all) a b) {cs : List (Int × Int)} (nd : (cs.map (·.1)).Nodup) (ok : ∀ q ∈ cs, chOk k q)
    (hn : n ≤ all.length) (A : ∀ i < chSum (all.take n), presC cs S hs a b i = true) (B : n < all.length → ∃ i, chSum (all.take n) ≤ i ∧ i < chSum (all.take (n + 1)) ∧ presC cs S hs a b i = false) : rdK (k.fall cs) S hf hs = all.take n := by
  have hbT : b ≤ chSum all := by rw [← flat_len]; exact l.up
  have hb : (b : Int) ≤ S := by omega
  have hle := l.le
  have hp := fun i : Nat => (rp_in (S := S) (hs := hs) hS i).1
  have F : ∀ i : Nat, logF (k.fall cs) S (hs + (i : Nat)) = (k.fall cs).now (rp S hs i) := fun i => rfl
  have Q1 : ∀ i, presC cs S hs a b i = true → i < chSum all → (flat all)[i]? = some (logF (k.fall cs) S (hs + (i : Nat))) := fun i hpr hi => by
    rw [F]
    unfold presC at hpr
    simp only [Bool.or_eq_true, Bool.and_eq_true, decide_eq_true_eq] at hpr
    rcases hpr with e | ⟨⟨e1, e2⟩, e3⟩
    · rw [fall_still nd ok (by have := hp i; omega) (l.off hS hb (by omega) (.inl e))]
      exact R.live i e
    · obtain ⟨v, hv⟩ : ∃ v, (flat all)[i]? = some v := ⟨_, List.getElem?_eq_getElem (by rw [flat_len]; exact hi)⟩
      rcases fall_one nd ok (by have := hp i; omega) (l.at_ hS hb e1 e2 hv) with ⟨_, z⟩ | ⟨z, _⟩
      · rw [z, hv]
      · exact absurd e3 z
  have Q2 : ∀ i : Nat, (i : Int) < S → presC cs S hs a b i = false → isLog (logF (k.fall cs) S (hs + (i : Nat))) = true → i0D (logF (k.fall cs) S (hs + (i : Nat))) < hf := fun i hi hpr => by
    rw [F]
    unfold presC at hpr
    simp only [Bool.or_eq_false_iff, Bool.and_eq_false_iff, decide_eq_false_iff_not] at hpr
    obtain ⟨h1, h2⟩ := hpr
    by_cases e : i < b
    · have e3 : pickC cs (rp S hs i) ≠ 1 := by
        rcases h2 with (h2 | h2) | h2
        · omega
        · omega
        · exact h2
      obtain ⟨v, hv⟩ : ∃ v, (flat all)[i]? = some v := ⟨_, List.getElem?_eq_getElem (by rw [flat_len]; omega)⟩
      rcases fall_one nd ok (by have := hp i; omega) (l.at_ hS hb (by omega) e hv) with ⟨z, _⟩ | ⟨_, z⟩
      · exact absurd z e3
      · rcases z with z | z
        · rw [z]
          exact R.dead i (by omega) hi
        · rw [z]
          intro h; cases h
    · rw [fall_still nd ok (by have := hp i; omega) (l.off hS hb hi (.inr (by omega)))]
      exact R.dead i (by omega) hi
  have bound : ∀ i : Nat, (i : Int) < S → isLog (logF (k.fall cs) S (hs + (i : Nat))) = true → i0D (logF (k.fall cs) S (hs + (i : Nat))) < hf + all.length := fun i hi hlog => by
    cases e : presC cs S hs a b i with
    | false => have := Q2 i hi e hlog; omega
    | true =>
      have hi2 : i < chSum all := by
        unfold presC at e
        simp only [Bool.or_eq_true, Bool.and_eq_true, decide_eq_true_eq] at e
        omega
      have := Q1 i e hi2
      exact flat_num hq _ (List.mem_of_getElem? this)
  have eS : ((S.toNat : Nat) : Int) = S := by omega
  have stop : wgT (logF (k.fall cs) S) (S.toNat : Nat) (hs + (chSum all : Nat)) (hf + all.length) = none := by
    refine wgT_none0 fun hlog => ?_
    by_cases e : (chSum all : Int) < S
    · have := bound (chSum all) e hlog
      omega
    · have eT : (chSum all : Int) = S := by omega
      have e2 : logF (k.fall cs) S (hs + (chSum all : Nat)) = logF (k.fall cs) S (hs + (0 : Nat)) := by
        unfold logF
        rw [eT, Int.fmod_eq_emod_of_nonneg _ (by omega), Int.fmod_eq_emod_of_nonneg _ (by omega), Int.add_emod_right, show ((0 : Nat) : Int) = 0 from rfl, Int.add_zero]
      rw [e2] at hlog ⊢
      have := bound 0 (by omega) hlog
      omega
  have := rd_pref (f := logF (k.fall cs) S) (S := S.toNat) hf0 (presC cs S hs a b) all (S.toNat + 1) 0 hf hs n hq (Int.le_refl _) (by omega) (by have := seq_len hq; omega) (fun i hpr hi => Q1 i (by simpa using hpr) hi) (fun i hi hpr => Q2 i (by omega) (by simpa using hpr)) hn (fun i hi => by simpa using A i hi) (fun h => by simpa using B h) (fun _ => stop)
  rw [eS] at this
  exact this
/-- head and home are not touched -/
theorem log_rest {k : Dk} {S hs : Int} {L : List D} {a b : Nat} (hS : 0 < S) (l : RLo k.lo S hs L a b) {cs : List (Int × Int)} (nd : (cs.map (·.1)).Nodup) (ok : ∀ q ∈ cs, chOk k q) (P : Int) : rdH (k.fall cs) = rdH ⟨k.st, []⟩ ∧ homeOf (k.fall cs) P S = homeOf ⟨k.st, []⟩ P S := by
  refine ⟨rdH_congr ?_ ?_, homeOf_congr fun p h1 h2 => ?_⟩
  · rw [fall_still nd ok (by omega) (l.out hS (.inl (by omega)))]; rfl
  · rw [fall_still nd ok (by omega) (l.out hS (.inl (by omega)))]; rfl
  · rw [fall_still nd ok (by omega) (l.out hS (.inr h1))]; rfl
end Lw
set_option Elab.async false
set_option linter.all false
set_option maxRecDepth 100000
set_option maxHeartbeats 4000000
/-! What a fall opens to: the falls' own count, plain law (own work). -/
namespace Lw
open PySem DL
abbrev Pu := List (Int × Int × Int)
abbrev Hist := List (List (List Int))
def stB (p : Nat × Nat) (e : Ev) : Nat × Nat := (p.1 + 1, match e with
  | .b => p.1 + 1
  | .w _ _ => p.2)
def lastB (tr : List Ev) : Nat := (tr.foldl stB (0, 0)).2
theorem stB_len (tr : List Ev) : ∀ p : Nat × Nat, (tr.foldl stB p).1 = p.1 + tr.length := by
  induction tr with
  | nil => intro p; rfl
  | cons e tr ih => intro p; rw [List.foldl_cons, ih, List.length_cons]; show p.1 + 1 + _ = _; omega
theorem lastB_w (tr : List Ev) (p : Int) (v : D) : lastB (tr ++ [.w p v]) = lastB tr := by
  unfold lastB
  rw [List.foldl_append]
  rfl
theorem lastB_b (tr : List Ev) : lastB (tr ++ [.b]) = tr.length + 1 := by
  unfold lastB
  rw [List.foldl_append]
  show (tr.foldl stB (0, 0)).1 + 1 = _
  rw [stB_len]
  omega
theorem list_snoc {α : Type} (P : List α → Prop) (h0 : P []) (h1 : ∀ l a, P l → P (l ++ [a])) : ∀ l, P l := fun l => by
  have : P l.reverse.reverse := by
    induction l.reverse with
    | nil => exact h0
    | cons a t ih => rw [List.reverse_cons]; exact h1 _ _ ih
  rwa [List.reverse_reverse] at this
theorem lastB_le (tr : List Ev) : lastB tr ≤ tr.length := by
  refine list_snoc (fun tr => lastB tr ≤ tr.length) (Nat.le_refl _) (fun l a ih => ?_) tr
  cases a with
  | b => rw [lastB_b, List.length_append]; exact Nat.le_refl _
  | w p v => rw [lastB_w, List.length_append]; exact Nat.le_succ_of_le ih
/-- what is loose was written behind the last barrier -/
theorem lo_len {k : Dk} (h : k.lo = []) (tr : List Ev) : lastB tr + (k.evs tr).lo.length = tr.length := by
  refine list_snoc (fun tr => lastB tr + (k.evs tr).lo.length = tr.length) (by show 0 + k.lo.length = 0; rw [h]; rfl) (fun l a ih => ?_) tr
  rw [evs_snoc]
  cases a with
  | b => rw [lastB_b, List.length_append]; rfl
  | w p v =>
    rw [lastB_w, List.length_append]
    show lastB l + ((k.evs l).lo ++ [(p, v)]).length = _
    rw [List.length_append, List.length_singleton, List.length_singleton]
    omega
def wr (pu : Pu) (m : Nat) : Nat := (pu.filter fun q => decide (q.2.1 ≤ (m : Int))).length
theorem wr_le (pu : Pu) (m : Nat) : wr pu m ≤ pu.length := List.length_filter_le _ _
theorem wr_mono (pu : Pu) {m n : Nat} (h : m ≤ n) : wr pu m ≤ wr pu n := by
  unfold wr
  induction pu with
  | nil => exact Nat.le_refl _
  | cons q pu ih =>
    rw [List.filter_cons, List.filter_cons]
    by_cases h1 : q.2.1 ≤ (m : Int)
    · have h2 : q.2.1 ≤ (n : Int) := by omega
      simp [h1, h2]
      exact ih
    · by_cases h2 : q.2.1 ≤ (n : Int)
      · simp [h1, h2]; omega
      · simp [h1, h2]; exact ih
theorem wr_app (pu ps : Pu) (m : Nat) : wr (pu ++ ps) m = wr pu m + wr ps m := by
  unfold wr
  rw [List.filter_append, List.length_append]
theorem wr_none {ps : Pu} {m : Nat} (h : ∀ q ∈ ps, (m : Int) < q.2.1) : wr ps m = 0 := by
  unfold wr
  rw [List.filter_eq_nil_iff.mpr]
  · rfl
  · intro q hq
    have := h q hq
    simp
    omega
theorem wr_all {ps : Pu} {m : Nat} (h : ∀ q ∈ ps, q.2.1 ≤ (m : Int)) : wr ps m = ps.length := by
  unfold wr
  rw [List.filter_eq_self.mpr]
  intro q hq
  have := h q hq
  simp
  omega
def cntK (lo : List (Int × D)) (p : Int) (i : Nat) : Nat := ((lo.take (i + 1)).filter fun q => decide (q.1 = p)).length
def isW (lb : Nat) (lo : List (Int × D)) (pu : Pu) (cs : List (Int × Int)) (j : Nat) : Bool :=
  match pu[j]? with
  | some be => lo.zipIdx.all fun q => !(decide (be.1 ≤ (lb + q.2 : Nat)) && decide ((lb + q.2 : Nat) < be.2.1)) || decide (pickC cs q.1.1 = cntK lo q.1.1 q.2)
  | none => false
def opL (w : Nat → Bool) : Nat → Nat → Nat
  | g, 0 => g
  | g, n + 1 => if w g = true then opL w (g + 1) n else g
theorem opL_spec (w : Nat → Bool) : ∀ (n g : Nat), g ≤ opL w g n ∧ opL w g n ≤ g + n ∧ (∀ j, g ≤ j → j < opL w g n → w j = true) ∧ (opL w g n < g + n → w (opL w g n) = false)
  | 0, g => ⟨Nat.le_refl _, Nat.le_refl _, fun j h1 h2 => by simp only [opL] at h2; omega, fun h => by simp only [opL] at h; omega⟩
  | n + 1, g => by
    unfold opL
    by_cases h : w g = true
    · rw [if_pos h]
      obtain ⟨a, b, c, d⟩ := opL_spec w n (g + 1)
      refine ⟨by omega, by omega, fun j h1 h2 => ?_, fun h => d (by omega)⟩
      by_cases e : j = g
      · rw [e]; exact h
      · exact c j (by omega) h2
    · rw [if_neg h]
      exact ⟨Nat.le_refl _, by omega, fun j h1 h2 => by omega, fun _ => by simpa using h⟩
theorem opL_congr {w w' : Nat → Bool} : ∀ (n g : Nat), (∀ j, g ≤ j → j < g + n → w j = w' j) → opL w g n = opL w' g n
  | 0, g, _ => rfl
  | n + 1, g, h => by
    unfold opL
    rw [h g (Nat.le_refl _) (by omega), opL_congr n (g + 1) fun j h1 h2 => h j (by omega) (by omega)]
def opened (lb n : Nat) (lo : List (Int × D)) (pu : Pu) (cs : List (Int × Int)) : Nat := opL (isW lb lo pu cs) (wr pu lb) (wr pu n - wr pu lb)
def deedsB (pu : Pu) (g : Nat) : Nat := if g = 0 then 0 else (((pu[g - 1]?).map fun q : Int × Int × Int => q.2.2).getD 0).toNat
theorem opened_le {lb n : Nat} (h : lb ≤ n) (lo : List (Int × D)) (pu : Pu) (cs : List (Int × Int)) : wr pu lb ≤ opened lb n lo pu cs ∧ opened lb n lo pu cs ≤ wr pu n := by
  have := wr_mono pu h
  obtain ⟨a, b, _, _⟩ := opL_spec (isW lb lo pu cs) (wr pu n - wr pu lb) (wr pu lb)
  unfold opened
  omega
theorem deedsB_app {pu : Pu} (ps : Pu) {g : Nat} (h : g ≤ pu.length) : deedsB (pu ++ ps) g = deedsB pu g := by
  unfold deedsB
  split
  · rfl
  · rw [List.getElem?_append_left (by omega)]
theorem opened_app {lb n : Nat} (h : lb ≤ n) (lo : List (Int × D)) {pu ps : Pu} (hp : ∀ q ∈ ps, (n : Int) < q.2.1) (cs : List (Int × Int)) : opened lb n lo (pu ++ ps) cs = opened lb n lo pu cs := by
  have e1 : wr (pu ++ ps) n = wr pu n := by rw [wr_app, wr_none (ps := ps) hp]; rfl
  have e2 : wr (pu ++ ps) lb = wr pu lb := by rw [wr_app, wr_none (ps := ps) (fun q hq => by have := hp q hq; omega)]; rfl
  unfold opened
  rw [e1, e2]
  refine opL_congr _ _ fun j h1 h2 => ?_
  have := wr_le pu n
  unfold isW
  rw [List.getElem?_append_left (by omega)]
/-- each fall opens to the home behind the groups that the falls tell -/
def Crash (P S : Int) (k : Dk) (lb n : Nat) (pu : Pu) (hist : Hist) (h0 : Int) : Prop :=
  ∀ cs : List (Int × Int), (cs.map (·.1)).Nodup → (∀ q ∈ cs, chOk k q) → ∃ h, rdH (k.fall cs) = some h ∧ h0 ≤ h.1 ∧ hist[deedsB pu (opened lb n k.lo pu cs)]? = some (opens P S (k.fall cs) h)
theorem Crash.grow {P S : Int} {k : Dk} {lb n : Nat} {pu ps : Pu} {hist hs : Hist} {h0 : Int} (c : Crash P S k lb n pu hist h0) (h : lb ≤ n) (hp : ∀ q ∈ ps, (n : Int) < q.2.1) : Crash P S k lb n (pu ++ ps) (hist ++ hs) h0 := fun cs nd ok => by
  obtain ⟨hd, r, h1, h2⟩ := c cs nd ok
  refine ⟨hd, r, h1, ?_⟩
  have := (opened_le h k.lo pu cs).2
  have := wr_le pu n
  rw [opened_app h _ hp, deedsB_app _ (by omega)]
  have h3 := (List.getElem?_eq_some_iff.mp h2).1
  rw [List.getElem?_append_left h3]
  exact h2
/-- all groups settled -/
theorem Crash.of_all {P S : Int} {k : Dk} {lb n : Nat} {pu : Pu} {hist : Hist} {h0 : Int} (h : lb ≤ n) (hall : ∀ q ∈ pu, q.2.1 ≤ (lb : Int)) (c : ∀ cs : List (Int × Int), (cs.map (·.1)).Nodup → (∀ q ∈ cs, chOk k q) → ∃ h, rdH (k.fall cs) = some h ∧ h0 ≤ h.1 ∧ hist[deedsB pu pu.length]? = some (opens P S (k.fall cs) h)) : Crash P S k lb n pu hist h0 := fun cs nd ok => by
  have e : opened lb n k.lo pu cs = pu.length := by
    obtain ⟨h1, h2⟩ := opened_le h k.lo pu cs
    rw [wr_all hall] at h1
    have := wr_le pu n
    omega
  rw [e]
  exact c cs nd ok
theorem find_grp (gs : Grs) : ∀ (n sg i : Nat), chSum (gs.take sg) ≤ i → i < chSum (gs.take n) → ∃ j, sg ≤ j ∧ j < n ∧ chSum (gs.take j) ≤ i ∧ i < chSum (gs.take (j + 1))
  | 0, sg, i, _, h => by simp [chSum] at h
  | n + 1, sg, i, h1, h2 => by
    by_cases e : i < chSum (gs.take n)
    · obtain ⟨j, a, b, c, d⟩ := find_grp gs n sg i h1 e
      exact ⟨j, a, by omega, c, d⟩
    · refine ⟨n, ?_, by omega, by omega, h2⟩
      by_cases z : sg ≤ n
      · exact z
      · exfalso
        have hm : ∀ (a b : Nat), a ≤ b → chSum (gs.take a) ≤ chSum (gs.take b) := fun a b hab => by
          have := chSum_take (gs.take b) a
          rwa [List.take_take, Nat.min_eq_left hab] at this
        have := hm (n + 1) sg (by omega)
        omega
theorem chSum_mono (gs : Grs) {a b : Nat} (hab : a ≤ b) : chSum (gs.take a) ≤ chSum (gs.take b) := by
  have := chSum_take (gs.take b) a
  rwa [List.take_take, Nat.min_eq_left hab] at this
theorem cnt_one {lo : List (Int × D)} {S hs : Int} {L : List D} {a b : Nat} (l : RLo lo S hs L a b) (hS : 0 < S) (hb : (b : Int) ≤ S) {j : Nat} {q : Int × D} (e : lo[j]? = some q) : cntK lo q.1 j = 1 := by
  have hj : j < lo.length := (List.getElem?_eq_some_iff.mp e).1
  have h1 : loAt (lo.take (j + 1)) q.1 = [q.2] := by
    refine loAt_single (i := j) ?_ fun i r hr hq => ?_
    · rw [List.getElem?_take, if_pos (by omega)]
      exact e
    · rw [List.getElem?_take] at hr
      split at hr
      · obtain ⟨g1, g2, _⟩ := l.get hr
        obtain ⟨g3, g4, _⟩ := l.get e
        rw [g2, g4] at hq
        have := rp_inj hS (by omega) (by omega) hq
        omega
      · cases hr
  have h2 := congrArg List.length h1
  unfold loAt at h2
  rw [List.length_map] at h2
  exact h2
theorem crash_log {P S : Int} {k : Dk} {hn hf hs h0 : Int} {all : Grs} {a b sg nW off lb n : Nat} {pu : Pu} {hist : Hist} (hS : 0 < S) (hf0 : 0 ≤ hf) (hq : SeqG hf hs all) (hT : (chSum all : Int) ≤ S) (R : RingSt k.st S hf hs (flat all) a) (l : RLo k.lo S hs (flat all) a b)
    (hlb : lb ≤ n) (hH : rdH ⟨k.st, []⟩ = some (hn, hf, hs)) (hh : h0 ≤ hn)
    (p1 : off + nW = pu.length) (p2 : sg ≤ nW) (p3 : nW ≤ all.length) (p4 : a = chSum (all.take sg)) (p5 : chSum (all.take nW) ≤ b) (p6 : nW < all.length → b < chSum (all.take (nW + 1)))
    (w1 : wr pu lb = off + sg) (w2 : wr pu n = pu.length)
    (pe : ∀ j, sg ≤ j → j < nW → ∃ d, pu[off + j]? = some (((lb + (chSum (all.take j) - a) : Nat) : Int), ((lb + (chSum (all.take (j + 1)) - a) : Nat) : Int), d))
    (ph : ∀ j, sg ≤ j → j ≤ nW → hist[deedsB pu (off + j)]? = some (layC (homeOf ⟨k.st, []⟩ P S) (mergedG (all.take j)))) :
    Crash P S k lb n pu hist h0 := fun cs nd ok => by
  have hbT : b ≤ chSum all := by rw [← flat_len]; exact l.up
  have hb : (b : Int) ≤ S := by omega
  have hle := l.le
  obtain ⟨r1, r2⟩ := log_rest hS l nd ok P
  obtain ⟨s1, s2, s3, s4⟩ := opL_spec (isW lb k.lo pu cs) (wr pu n - wr pu lb) (wr pu lb)
  have eo : opL (isW lb k.lo pu cs) (wr pu lb) (wr pu n - wr pu lb) = opened lb n k.lo pu cs := rfl
  rw [eo, w1] at s1 s3
  rw [eo, w1, w2] at s2 s4
  generalize hx : opened lb n k.lo pu cs = x at *
  obtain ⟨m, rfl⟩ : ∃ m, x = off + m := ⟨x - off, by omega⟩
  have hmW : m ≤ nW := by omega
  have zi : ∀ i, i < k.lo.length → ∃ q, k.lo[i]? = some q ∧ (q, i) ∈ k.lo.zipIdx := fun i hi => ⟨_, List.getElem?_eq_getElem hi, by
    refine List.mem_iff_getElem?.mpr ⟨i, ?_⟩
    rw [List.getElem?_zipIdx, List.getElem?_eq_getElem hi]
    simp⟩
  have rd := log_read (n := m) hS hf0 hq hT R l nd ok (by omega) (fun i hi => by
    unfold presC
    simp only [Bool.or_eq_true, Bool.and_eq_true, decide_eq_true_eq]
    by_cases e : i < a
    · exact .inl e
    · right
      obtain ⟨j, j1, j2, j3, j4⟩ := find_grp all m sg i (by omega) hi
      have hib : i < b := by have := chSum_mono all (show m ≤ nW by omega); omega
      refine ⟨⟨by omega, hib⟩, ?_⟩
      have hw := s3 (off + j) (by omega) (by omega)
      obtain ⟨d, hd⟩ := pe j j1 (by omega)
      unfold isW at hw
      rw [hd] at hw
      simp only at hw
      have hlen := l.len
      obtain ⟨q, hq1, hq2⟩ := zi (i - a) (by omega)
      have hv := List.all_eq_true.mp hw (q, i - a) hq2
      simp only [Bool.or_eq_true, Bool.not_eq_true', Bool.and_eq_false_iff, decide_eq_false_iff_not, decide_eq_true_eq] at hv
      have hc := cnt_one l hS hb hq1
      obtain ⟨g1, g2, _⟩ := l.get hq1
      rw [show a + (i - a) = i by omega] at g2
      rcases hv with (hv | hv) | hv
      · omega
      · omega
      · rw [hc, g2] at hv
        exact hv) (fun hma => by
    by_cases e : m < nW
    · have hw := s4 (by omega)
      obtain ⟨d, hd⟩ := pe m (by omega) e
      unfold isW at hw
      rw [hd] at hw
      simp only at hw
      rw [List.all_eq_false] at hw
      obtain ⟨⟨q, i⟩, hq2, hv⟩ := hw
      have hq1 : k.lo[i]? = some q := by
        have := List.mem_zipIdx_iff_getElem?.mp hq2
        simpa using this
      simp only [Bool.or_eq_true, Bool.not_eq_true', Bool.and_eq_false_iff, decide_eq_false_iff_not, decide_eq_true_eq, not_or, Decidable.not_not] at hv
      have hc := cnt_one l hS hb hq1
      obtain ⟨g1, g2, _⟩ := l.get hq1
      obtain ⟨⟨v1, v2⟩, v3⟩ := hv
      have hmono : a ≤ chSum (all.take m) := by rw [p4]; exact chSum_mono all (by omega)
      refine ⟨a + i, by omega, by omega, ?_⟩
      unfold presC
      simp only [Bool.or_eq_false_iff, Bool.and_eq_false_iff, decide_eq_false_iff_not]
      refine ⟨by omega, .inr ?_⟩
      rw [hc, g2] at v3
      exact v3
    · have em : m = nW := by omega
      subst em
      refine ⟨b, p5, p6 hma, ?_⟩
      unfold presC
      simp only [Bool.or_eq_false_iff, Bool.and_eq_false_iff, decide_eq_false_iff_not]
      exact ⟨by omega, .inl (.inr (by omega))⟩)
  refine ⟨(hn, hf, hs), r1.trans hH, hh, ?_⟩
  rw [ph m (by omega) hmW, opens_eq, r2, rd]
end Lw
set_option Elab.async false
set_option linter.all false
set_option maxRecDepth 100000
set_option maxHeartbeats 4000000
/-! Many writes, barriers, the past: plain law (own work). -/
namespace Lw
open PySem DL
def evW (q : Int × D) : Ev := .w q.1 q.2
def Dk.more (k : Dk) (l : List (Int × D)) : Dk := ⟨k.st, k.lo ++ l⟩
def Sto.ws (S : Sto) (l : List (Int × D)) : Sto := { S with dev := S.dev.more l, tr := S.tr ++ l.map evW }
theorem evs_ws : ∀ (l : List (Int × D)) (k : Dk), k.evs (l.map evW) = k.more l
  | [], k => by show k = ⟨k.st, k.lo ++ []⟩; rw [List.append_nil]
  | q :: l, k => by
    show (k.write q.1 q.2).evs (l.map evW) = _
    rw [evs_ws l]
    show (⟨k.st, (k.lo ++ [(q.1, q.2)]) ++ l⟩ : Dk) = ⟨k.st, k.lo ++ q :: l⟩
    rw [List.append_assoc]
    rfl
theorem lastB_ws (l : List (Int × D)) : ∀ tr : List Ev, lastB (tr ++ l.map evW) = lastB tr := by
  induction l with
  | nil => intro tr; rw [List.map_nil, List.append_nil]
  | cons q l ih =>
    intro tr
    rw [List.map_cons, show tr ++ evW q :: l.map evW = (tr ++ [evW q]) ++ l.map evW by simp, ih]
    exact lastB_w _ _ _
theorem ws_nil (S : Sto) : S.ws [] = S := by
  unfold Sto.ws Dk.more
  simp
theorem ws_ws (S : Sto) (l m : List (Int × D)) : (S.ws l).ws m = S.ws (l ++ m) := by
  unfold Sto.ws Dk.more
  simp
theorem wr_ws (S : Sto) (p : Int) (v : D) : S.wr p v = S.ws [(p, v)] := rfl
def homeW (P S : Int) (mg : Chg) (ks : List Int) : List (Int × D) := (ks.filter fun p => decide (p < P)).map fun p => (2 + S + p, rowD (getA mg p))
theorem whs_ws (mg : Chg) : ∀ (ks : List Int) (S : Sto), whs mg S ks = S.ws (homeW S.P S.S mg ks)
  | [], S => (ws_nil S).symm
  | p :: ks, S => by
    show whs mg (wh1 mg S p) ks = _
    rw [whs_ws mg ks]
    unfold wh1 homeW
    rw [List.filter_cons]
    by_cases h : p < S.P
    · simp only [h, if_true, decide_true, List.map_cons]
      rw [wr_ws, ws_ws]
      rfl
    · simp only [h, if_false, decide_false]
      rfl
theorem wrs_ws (g n m : Int) : ∀ (l : List ((Int × List Int) × Nat)) (S : Sto), wrs g n m S l = S.ws (l.map fun q => (2 + (n + (q.2 : Nat)).fmod S.S, lpD g (q.2 : Nat) m q.1))
  | [], S => (ws_nil S).symm
  | q :: l, S => by
    show wrs g n m (wr1 g n m S q) l = _
    rw [wrs_ws g n m l]
    unfold wr1
    rw [wr_ws, ws_ws]
    rfl
/-! the past -/
def Past (P S : Int) (beg : Dk) (tr : List Ev) (pu : Pu) (hist : Hist) (h0 : Int) : Prop := ∀ m ≤ tr.length, Crash P S (beg.evs (tr.take m)) (lastB (tr.take m)) m pu hist h0
theorem lastB_take (tr : List Ev) {m : Nat} (h : m ≤ tr.length) : lastB (tr.take m) ≤ m := by
  have := lastB_le (tr.take m)
  rw [List.length_take] at this
  omega
theorem Past.ws {P S : Int} {beg : Dk} {tr : List Ev} {pu ps : Pu} {hist hs : Hist} {h0 : Int} (past : Past P S beg tr pu hist h0) (l : List (Int × D)) (hp : ∀ q ∈ ps, (tr.length : Int) < q.2.1)
    (c : ∀ j, 0 < j → j ≤ l.length → Crash P S ((beg.evs tr).more (l.take j)) (lastB tr) (tr.length + j) (pu ++ ps) (hist ++ hs) h0) : Past P S beg (tr ++ l.map evW) (pu ++ ps) (hist ++ hs) h0 := fun m hm => by
  by_cases e : m ≤ tr.length
  · rw [List.take_append_of_le_length e]
    refine (past m e).grow (lastB_take tr e) fun q hq => ?_
    have := hp q hq
    omega
  · rw [List.length_append, List.length_map] at hm
    have := c (m - tr.length) (by omega) (by omega)
    rw [List.take_append, List.take_of_length_le (by omega), ← List.map_take, evs_app, evs_ws, lastB_ws]
    rwa [show tr.length + (m - tr.length) = m by omega] at this
theorem Past.ws0 {P S : Int} {beg : Dk} {tr : List Ev} {pu : Pu} {hist : Hist} {h0 : Int} (past : Past P S beg tr pu hist h0) (l : List (Int × D))
    (c : ∀ j, 0 < j → j ≤ l.length → Crash P S ((beg.evs tr).more (l.take j)) (lastB tr) (tr.length + j) pu hist h0) : Past P S beg (tr ++ l.map evW) pu hist h0 := by
  have := Past.ws (ps := []) (hs := []) past l (fun q hq => (by cases hq)) (by simpa using c)
  simpa using this
theorem Past.bar {P S : Int} {beg : Dk} {tr : List Ev} {pu : Pu} {hist : Hist} {h0 : Int} (past : Past P S beg tr pu hist h0)
    (c : Crash P S (beg.evs tr).barrier (tr.length + 1) (tr.length + 1) pu hist h0) : Past P S beg (tr ++ [.b]) pu hist h0 := fun m hm => by
  by_cases e : m ≤ tr.length
  · rw [List.take_append_of_le_length e]
    exact past m e
  · rw [List.length_append, List.length_singleton] at hm
    have em : m = tr.length + 1 := by omega
    subst em
    rw [List.take_of_length_le (by simp), lastB_b, evs_snoc]
    exact c
theorem Past.nil {P S : Int} {beg : Dk} {pu : Pu} {hist : Hist} {h0 : Int} (c : Crash P S beg 0 0 pu hist h0) : Past P S beg [] pu hist h0 := fun m hm => by
  have : m = 0 := Nat.le_zero.mp hm
  subst this
  exact c
theorem Past.app {P S : Int} {beg : Dk} {tr : List Ev} {pu : Pu} {hist : Hist} {h0 : Int} (past : Past P S beg tr pu hist h0) (hs : Hist) : Past P S beg tr pu (hist ++ hs) h0 := fun m hm => by
  have := (past m hm).grow (ps := []) (hs := hs) (lastB_take tr hm) (fun q hq => (by cases hq))
  simpa using this
/-! nothing of the ring is loose -/
structure Calm (P S : Int) (st : List D) (hn hf hs : Int) (grs : Grs) (ng : Int) (c : List (List Int)) : Prop where
  hd : rdH ⟨st, []⟩ = some (hn, hf, hs)
  rd : rdK ⟨st, []⟩ S hf hs = grs
  seen : ∀ p, 2 ≤ p → p < 2 + S → isLog (stAt st p) = true → i0D (stAt st p) < ng
  home : layC (homeOf ⟨st, []⟩ P S) (mergedG grs) = c
  gk : GrK grs
/-- a fall with home plates loose, of what is laid over -/
theorem Calm.home_fall {P S hn hf hs ng : Int} {k : Dk} {grs : Grs} {c : List (List Int)} (hS : 0 < S) (C : Calm P S k.st hn hf hs grs ng c) (hlo : ∀ q ∈ k.lo, ∃ p : Int, q.1 = 2 + S + p ∧ 0 ≤ p ∧ p < P ∧ fA (mergedG grs) p ≠ none) {cs : List (Int × Int)} (nd : (cs.map (·.1)).Nodup) (ok : ∀ q ∈ cs, chOk k q) : rdH (k.fall cs) = some (hn, hf, hs) ∧ opens P S (k.fall cs) (hn, hf, hs) = c ∧ rdK (k.fall cs) S hf hs = grs := by
  have off : ∀ p, 0 ≤ p → p < 2 + S → (k.fall cs).now p = (⟨k.st, []⟩ : Dk).now p := fun p h0 h1 => by
    rw [fall_still nd ok h0 (loAt_none fun q hq e => by
      obtain ⟨r, e1, e2, e3, _⟩ := hlo q hq
      omega)]
    rfl
  have e1 : rdH (k.fall cs) = some (hn, hf, hs) := (rdH_congr (off 0 (by omega) (by omega)) (off 1 (by omega) (by omega))).trans C.hd
  have e2 : rdK (k.fall cs) S hf hs = grs := (rdK_congr hS (fun p h1 h2 => off p (by omega) h2) hf hs).trans C.rd
  refine ⟨e1, ?_, e2⟩
  rw [opens_eq]
  show layC _ (mergedG (rdK (k.fall cs) S hf hs)) = c
  rw [e2, ← C.home]
  refine layC_over (mergedG_nd grs) (mergedG_k C.gk) (by rw [homeOf_len, homeOf_len]) fun i hi hn => ?_
  rw [homeOf_len] at hi
  unfold homeOf
  rw [List.getElem?_map, List.getElem?_map, List.getElem?_range hi]
  show some (cellsOf ((k.fall cs).now (2 + S + (i : Nat)))) = some (cellsOf ((⟨k.st, []⟩ : Dk).now (2 + S + (i : Nat))))
  rw [fall_still nd ok (by omega) (loAt_none fun q hq e => by
    obtain ⟨r, e1, e2, e3, e4⟩ := hlo q hq
    have : r = (i : Nat) := by omega
    rw [this] at e4
    exact e4 hn)]
  rfl
theorem rowD_cells {c : List Int} (h : c.length = 8) : cellsOf (rowD c) = c := by
  have e : isCells (rowD c) = true := by
    unfold rowD isCells
    simp [h, isInt]
  have hb := cells_back e
  unfold cellsOf
  rw [if_pos e]
  have h1 : ((intsD (rowD c)).map D.int) = c.map D.int := by
    have := hb.1
    unfold rowD at this ⊢
    exact D.tup.inj this
  exact (List.map_inj_right fun x y h => by cases h; rfl).mp h1
theorem homeW_lo {P S : Int} {mg : Chg} {ks : List Int} (h : ∀ k ∈ ks, 0 ≤ k) (hk : ∀ k ∈ ks, k ∈ mg.map (·.1)) : ∀ q ∈ homeW P S mg ks, ∃ p : Int, q.1 = 2 + S + p ∧ 0 ≤ p ∧ p < P ∧ fA mg p ≠ none := fun q hq => by
  obtain ⟨p, hp, rfl⟩ := List.mem_map.mp hq
  have hp := List.mem_filter.mp hp
  exact ⟨p, rfl, h p hp.1, by simpa using hp.2, fun e => fA_none.mp e (hk p hp.1)⟩
theorem homeW_at {P S : Int} {mg : Chg} : ∀ {ks : List Int}, ks.Nodup → ∀ p : Int, p < P → loAt (homeW P S mg ks) (2 + S + p) = if p ∈ ks then [rowD (getA mg p)] else []
  | [], _, p, _ => rfl
  | k :: ks, nd, p, hp => by
    rw [List.nodup_cons] at nd
    have ih := homeW_at (P := P) (S := S) (mg := mg) nd.2 p hp
    unfold homeW at ih ⊢
    rw [List.filter_cons]
    by_cases e : k = p
    · subst e
      simp only [hp, decide_true, if_true, List.map_cons]
      rw [loAt_cons, if_pos rfl, ih, if_neg nd.1, if_pos List.mem_cons_self]
    · have e2 : (p ∈ k :: ks) ↔ p ∈ ks := by
        rw [List.mem_cons]
        constructor
        · rintro (h | h)
          · exact absurd h.symm e
          · exact h
        · exact .inr
      by_cases hk : k < P
      · simp only [hk, decide_true, if_true, List.map_cons]
        rw [loAt_cons, if_neg (by show ¬ (2 + S + k = 2 + S + p); omega), ih]
        by_cases z : p ∈ ks
        · rw [if_pos z, if_pos (e2.mpr z)]
        · rw [if_neg z, if_neg (fun h => z (e2.mp h))]
      · simp only [hk, decide_false, Bool.false_eq_true, if_false]
        rw [ih]
        by_cases z : p ∈ ks
        · rw [if_pos z, if_pos (e2.mpr z)]
        · rw [if_neg z, if_neg (fun h => z (e2.mp h))]
/-- the home is laid -/
theorem Calm.home_bar {P S hn hf hs ng : Int} {k : Dk} {grs : Grs} {c : List (List Int)} (hS : 0 < S) (hP : 0 ≤ P) (C : Calm P S k.st hn hf hs grs ng c) (h8 : ∀ g ∈ grs, ∀ q ∈ g.2.2, q.2.length = 8) (hin : LoIn k) (hl : (k.st.length : Int) = 2 + S + P) (hlo : k.lo = homeW P S (mergedG grs) (sortK (mergedG grs))) :
    Calm P S k.barrier.st hn hf hs grs ng c ∧ homeOf ⟨k.barrier.st, []⟩ P S = c := by
  have hk0 : ∀ x ∈ sortK (mergedG grs), 0 ≤ x := fun x hx => by
    obtain ⟨q, hq, rfl⟩ := List.mem_map.mp (sortI_mem.mp hx)
    exact mergedG_k C.gk q hq
  have hlo' : ∀ q ∈ k.lo, ∃ p : Int, q.1 = 2 + S + p ∧ 0 ≤ p ∧ p < P ∧ fA (mergedG grs) p ≠ none := by
    rw [hlo]
    exact homeW_lo hk0 fun x hx => sortI_mem.mp hx
  have off : ∀ p, 0 ≤ p → p < 2 + S → stAt k.barrier.st p = stAt k.st p := fun p h0 h1 => by
    rw [barrier_st hin h0]
    unfold Dk.now
    rw [loAt_none fun q hq e => by
      obtain ⟨r, e1, e2, e3, _⟩ := hlo' q hq
      omega]
    rfl
  have nds : (sortK (mergedG grs)).Nodup := ((List.mergeSort_perm _ _).nodup_iff).mpr (mergedG_nd grs)
  have hH : homeOf ⟨k.barrier.st, []⟩ P S = c := by
    rw [← C.home]
    refine List.ext_getElem? fun i => ?_
    by_cases hi : i < P.toNat
    · have e1 : (homeOf ⟨k.barrier.st, []⟩ P S)[i]? = some (cellsOf (k.now (2 + S + (i : Nat)))) := by
        unfold homeOf
        rw [List.getElem?_map, List.getElem?_range hi]
        show some (cellsOf (stAt k.barrier.st (2 + S + (i : Nat)))) = _
        rw [barrier_st hin (by omega)]
      have e2 : (homeOf ⟨k.st, []⟩ P S)[i]? = some (cellsOf (stAt k.st (2 + S + (i : Nat)))) := by
        unfold homeOf
        rw [List.getElem?_map, List.getElem?_range hi]
        rfl
      rw [e1, layC_nd e2 (mergedG_k C.gk) (mergedG_nd grs)]
      unfold Dk.now
      rw [hlo, homeW_at nds _ (by omega)]
      cases hf : fA (mergedG grs) (i : Nat) with
      | none =>
        have : ((i : Nat) : Int) ∉ sortK (mergedG grs) := fun z => fA_none.mp hf (sortI_mem.mp z)
        rw [if_neg this]
        rfl
      | some v =>
        have hm : ((i : Nat) : Int) ∈ (mergedG grs).map (·.1) := by
          by_cases z : ((i : Nat) : Int) ∈ (mergedG grs).map (·.1)
          · exact z
          · rw [fA_none.mpr z] at hf; cases hf
        rw [if_pos (show ((i : Nat) : Int) ∈ sortK (mergedG grs) from sortI_mem.mpr hm)]
        have eg : getA (mergedG grs) (i : Nat) = v := by rw [← fA_getA, hf]; rfl
        show some (cellsOf (rowD (getA (mergedG grs) (i : Nat)))) = _
        rw [rowD_cells, eg]
        · rfl
        · have hmem := getA_mem hm
          obtain ⟨g, hg, hq⟩ := mergedG_mem hmem
          exact h8 g hg _ hq
    · rw [List.getElem?_eq_none (by rw [homeOf_len]; omega), List.getElem?_eq_none (by rw [layC_len, homeOf_len]; omega)]
  have offN : ∀ p, 0 ≤ p → p < 2 + S → (⟨k.barrier.st, []⟩ : Dk).now p = (⟨k.st, []⟩ : Dk).now p := fun p h0 h1 => by
    rw [now_nil rfl, now_nil rfl]
    exact off p h0 h1
  refine ⟨⟨(rdH_congr (offN 0 (by omega) (by omega)) (offN 1 (by omega) (by omega))).trans C.hd, (rdK_congr hS (fun p h1 h2 => offN p (by omega) h2) hf hs).trans C.rd, fun p h1 h2 => by rw [off p (by omega) h2]; exact C.seen p h1 h2, ?_, C.gk⟩, hH⟩
  rw [hH, ← C.home]
  refine layC_ext (by rw [layC_len]) fun i hi => ?_
  rw [layC_len] at hi
  have e : (homeOf ⟨k.st, []⟩ P S)[i]? = some (homeOf ⟨k.st, []⟩ P S)[i] := List.getElem?_eq_getElem hi
  rw [layC_nd (layC_nd e (mergedG_k C.gk) (mergedG_nd grs)) (mergedG_k C.gk) (mergedG_nd grs), layC_nd e (mergedG_k C.gk) (mergedG_nd grs)]
  cases fA (mergedG grs) (i : Nat) <;> rfl
end Lw
set_option Elab.async false
set_option linter.all false
set_option maxRecDepth 100000
set_option maxHeartbeats 4000000
/-! The head is turned: plain law (own work). -/
namespace Lw
open PySem DL
theorem par (n : Int) : (n.fmod 2 = 0 ∧ (n + 1).fmod 2 = 1) ∨ (n.fmod 2 = 1 ∧ (n + 1).fmod 2 = 0) := by
  rw [Int.fmod_eq_emod_of_nonneg _ (by decide), Int.fmod_eq_emod_of_nonneg _ (by decide)]
  omega
theorem isHead_hd {n f s : Int} (h0 : 0 ≤ n) (h1 : 0 ≤ f) (h2 : 0 ≤ s) : isHead (n.fmod 2) (hdD n f s) = true := by
  simp [isHead, hdD, isInt, iAt, h0, h1, h2]
theorem h3_hd (n f s : Int) : h3 (hdD n f s) = (n, f, s) := rfl
theorem rdH_spec {k : Dk} {n f s : Int} (h : rdH k = some (n, f, s)) : k.now (n.fmod 2) = hdD n f s ∧ 0 ≤ n ∧ 0 ≤ f ∧ 0 ≤ s ∧ (isHead ((n + 1).fmod 2) (k.now ((n + 1).fmod 2)) = true → (h3 (k.now ((n + 1).fmod 2))).1 < n) := by
  have one : ∀ p, isHead p (k.now p) = true → h3 (k.now p) = (n, f, s) → n.fmod 2 = p ∧ k.now p = hdD n f s ∧ 0 ≤ n ∧ 0 ≤ f ∧ 0 ≤ s := fun p z e => by
    obtain ⟨n', f', s', v, a, b, c, d⟩ := head_form z
    rw [v] at e
    cases e
    exact ⟨d, v, a, b, c⟩
  have pn := par n
  unfold rdH at h
  by_cases z0 : isHead 0 (k.now 0) = true
  · by_cases z1 : isHead 1 (k.now 1) = true
    · rw [if_pos z0, if_pos z1] at h
      have h := Option.some.inj h
      obtain ⟨n0, f0, s0, v0, a0, b0, c0, d0⟩ := head_form z0
      obtain ⟨n1, f1, s1, v1, a1, b1, c1, d1⟩ := head_form z1
      split at h
      · rename_i lt
        obtain ⟨e, e1, e2, e3, e4⟩ := one 1 z1 h
        rw [e]
        refine ⟨e1, e2, e3, e4, fun _ => ?_⟩
        have : (n + 1).fmod 2 = 0 := by omega
        rw [this]
        rw [h] at lt
        exact lt
      · rename_i lt
        obtain ⟨e, e1, e2, e3, e4⟩ := one 0 z0 h
        rw [e]
        refine ⟨e1, e2, e3, e4, fun _ => ?_⟩
        have : (n + 1).fmod 2 = 1 := by omega
        rw [this]
        rw [h] at lt
        have hne : n1 ≠ n := by
          rintro rfl
          omega
        rw [v1] at lt ⊢
        show n1 < n
        have : ¬ (n < n1) := lt
        omega
    · rw [if_pos z0, if_neg z1] at h
      have h := Option.some.inj h
      obtain ⟨e, e1, e2, e3, e4⟩ := one 0 z0 h
      rw [e]
      refine ⟨e1, e2, e3, e4, fun z => ?_⟩
      have : (n + 1).fmod 2 = 1 := by omega
      rw [this] at z
      exact absurd z z1
  · rw [if_neg z0] at h
    by_cases z1 : isHead 1 (k.now 1) = true
    · rw [if_pos z1] at h
      have h := Option.some.inj h
      obtain ⟨e, e1, e2, e3, e4⟩ := one 1 z1 h
      rw [e]
      refine ⟨e1, e2, e3, e4, fun z => ?_⟩
      have : (n + 1).fmod 2 = 0 := by omega
      rw [this] at z
      exact absurd z z0
    · rw [if_neg z1] at h
      cases h
theorem rdH_of {k : Dk} {n f s : Int} (h1 : k.now (n.fmod 2) = hdD n f s) (h2 : 0 ≤ n) (h3' : 0 ≤ f) (h4 : 0 ≤ s) (h5 : isHead ((n + 1).fmod 2) (k.now ((n + 1).fmod 2)) = true → (h3 (k.now ((n + 1).fmod 2))).1 < n) : rdH k = some (n, f, s) := by
  have hh : isHead (n.fmod 2) (k.now (n.fmod 2)) = true := by rw [h1]; exact isHead_hd h2 h3' h4
  have ht : h3 (k.now (n.fmod 2)) = (n, f, s) := by rw [h1]; rfl
  unfold rdH
  rcases par n with ⟨e0, e1⟩ | ⟨e0, e1⟩
  · rw [e0] at hh ht
    rw [e1] at h5
    rw [if_pos hh, ht]
    by_cases z1 : isHead 1 (k.now 1) = true
    · rw [if_pos z1, if_neg]
      have := h5 z1
      show ¬ (n < _)
      omega
    · rw [if_neg z1]
  · rw [e0] at hh ht
    rw [e1] at h5
    rw [if_pos hh, if_pos hh, ht]
    by_cases z0 : isHead 0 (k.now 0) = true
    · rw [if_pos z0, if_pos (h5 z0)]
    · rw [if_neg z0]
theorem rdK_none {k : Dk} {S f s : Int} (h : isLog (logF k S s) = true → i0D (logF k S s) ≠ f) : rdK k S f s = [] := by
  unfold rdK rdG
  rw [wgT_none0 h]
theorem Calm.head_fall {P S hn hf hs ng ns : Int} {k : Dk} {grs : Grs} {c : List (List Int)} (hS : 0 < S) (C : Calm P S k.st hn hf hs grs ng c) (hH : homeOf ⟨k.st, []⟩ P S = c) (hg : 0 ≤ ng) (hn' : 0 ≤ ns) (hlo : k.lo = [((hn + 1).fmod 2, hdD (hn + 1) ng ns)]) {cs : List (Int × Int)} (nd : (cs.map (·.1)).Nodup) (ok : ∀ q ∈ cs, chOk k q) :
    ∃ h, rdH (k.fall cs) = some h ∧ hn ≤ h.1 ∧ opens P S (k.fall cs) h = c := by
  obtain ⟨s1, s2, s3, s4, s5⟩ := rdH_spec C.hd
  have f2 := fmod2 (hn + 1)
  have pn := par hn
  have off : ∀ p, 0 ≤ p → p ≠ (hn + 1).fmod 2 → (k.fall cs).now p = (⟨k.st, []⟩ : Dk).now p := fun p h0 h1 => by
    rw [fall_still nd ok h0 (by rw [hlo]; exact loAt_none fun q hq e => by rcases List.mem_singleton.mp hq with rfl; exact h1 e.symm)]
    rfl
  have e2 : rdK (k.fall cs) S hf hs = grs := (rdK_congr hS (fun p h1 h2 => off p (by omega) (by omega)) hf hs).trans C.rd
  have e3 : homeOf (k.fall cs) P S = c := (homeOf_congr fun p h1 h2 => off p (by omega) (by omega)).trans hH
  have one : loAt k.lo ((hn + 1).fmod 2) = [hdD (hn + 1) ng ns] := by
    rw [hlo, loAt_cons, if_pos rfl]
    rfl
  have old : opens P S (k.fall cs) (hn, hf, hs) = c := by
    rw [opens_eq, e3]
    show layC c (mergedG (rdK (k.fall cs) S hf hs)) = c
    rw [e2]
    have h := C.home
    rw [hH] at h
    exact h
  rcases fall_one nd ok f2.1 one with ⟨_, z⟩ | ⟨_, z⟩
  · refine ⟨(hn + 1, ng, ns), ?_, by show hn ≤ hn + 1; omega, ?_⟩
    · refine rdH_of z (by omega) hg hn' fun _ => ?_
      have e : (hn + 1 + 1).fmod 2 = hn.fmod 2 := by
        have := par (hn + 1)
        omega
      rw [e, off _ (by omega) (by omega), s1]
      show hn < hn + 1
      omega
    · rw [opens_eq, e3]
      show layC c (mergedG (rdK (k.fall cs) S ng ns)) = c
      rw [rdK_none]
      · rfl
      · have m0 := Int.fmod_nonneg_of_pos ns hS
        have m1 := Int.fmod_lt_of_pos ns hS
        unfold logF
        rw [off _ (by omega) (by omega), now_nil rfl]
        intro hlog
        have := C.seen _ (by omega) (by omega) hlog
        show i0D (stAt k.st (2 + ns.fmod S)) ≠ ng
        omega
  · refine ⟨(hn, hf, hs), ?_, Int.le_refl _, old⟩
    refine rdH_of ((off _ (by omega) (by omega)).trans s1) s2 s3 s4 fun zh => ?_
    rcases z with z | z
    · rw [z] at zh ⊢
      exact s5 zh
    · rw [z] at zh
      cases zh
theorem Calm.head_bar {P S hn hf hs ng ns : Int} {k : Dk} {grs : Grs} {c : List (List Int)} (hS : 0 < S) (C : Calm P S k.st hn hf hs grs ng c) (hH : homeOf ⟨k.st, []⟩ P S = c) (hg : 0 ≤ ng) (hn' : 0 ≤ ns) (hin : LoIn k) (hlo : k.lo = [((hn + 1).fmod 2, hdD (hn + 1) ng ns)]) :
    Calm P S k.barrier.st (hn + 1) ng ns [] ng c ∧ homeOf ⟨k.barrier.st, []⟩ P S = c := by
  obtain ⟨s1, s2, s3, s4, s5⟩ := rdH_spec C.hd
  have f2 := fmod2 (hn + 1)
  have pn := par hn
  have off : ∀ p, 0 ≤ p → p ≠ (hn + 1).fmod 2 → stAt k.barrier.st p = stAt k.st p := fun p h0 h1 => by
    rw [barrier_st hin h0]
    unfold Dk.now
    rw [hlo, loAt_none fun q hq e => by rcases List.mem_singleton.mp hq with rfl; exact h1 e.symm]
    rfl
  have on : stAt k.barrier.st ((hn + 1).fmod 2) = hdD (hn + 1) ng ns := by
    rw [barrier_st hin f2.1]
    unfold Dk.now
    rw [hlo, loAt_cons, if_pos rfl]
    rfl
  have offN : ∀ p, 0 ≤ p → p ≠ (hn + 1).fmod 2 → (⟨k.barrier.st, []⟩ : Dk).now p = (⟨k.st, []⟩ : Dk).now p := fun p h0 h1 => by
    rw [now_nil rfl, now_nil rfl]
    exact off p h0 h1
  have e3 : homeOf ⟨k.barrier.st, []⟩ P S = c := (homeOf_congr fun p h1 h2 => offN p (by omega) (by omega)).trans hH
  have seen : ∀ p, 2 ≤ p → p < 2 + S → isLog (stAt k.barrier.st p) = true → i0D (stAt k.barrier.st p) < ng := fun p h1 h2 => by
    rw [off p (by omega) (by omega)]
    exact C.seen p h1 h2
  refine ⟨⟨?_, ?_, seen, ?_, fun g hg => (by cases hg)⟩, e3⟩
  · refine rdH_of ?_ (by omega) hg hn' fun _ => ?_
    · rw [now_nil rfl]; exact on
    · have e : (hn + 1 + 1).fmod 2 = hn.fmod 2 := by
        have := par (hn + 1)
        omega
      rw [e, offN _ (by omega) (by omega), s1]
      show hn < hn + 1
      omega
  · refine rdK_none ?_
    have m0 := Int.fmod_nonneg_of_pos ns hS
    have m1 := Int.fmod_lt_of_pos ns hS
    unfold logF
    rw [now_nil rfl]
    intro hlog
    have := seen _ (by omega) (by omega) hlog
    show i0D (stAt k.barrier.st (2 + ns.fmod S)) ≠ ng
    omega
  · rw [e3]; rfl
end Lw
set_option Elab.async false
set_option linter.all false
set_option maxRecDepth 100000
set_option maxHeartbeats 4000000
/-! Laying and turning keep the meaning: plain law (own work). -/
namespace Lw
open PySem DL
theorem whome_eq (S : Sto) : S.whome = (S.ws (homeW S.P S.S (mergedG S.grs) (sortK (mergedG S.grs)))).bar := by
  unfold Sto.whome
  rw [whs_ws]
theorem ev_bar (k : Dk) (tr : List Ev) : k.evs (tr ++ [.b]) = (k.evs tr).barrier := evs_snoc k tr .b
theorem LoIn.more {k : Dk} (h : LoIn k) {l : List (Int × D)} (hl : ∀ q ∈ l, 0 ≤ q.1 ∧ q.1 < k.st.length) : LoIn (k.more l) := fun q hq => by
  rcases List.mem_append.mp hq with e | e
  · exact h q e
  · exact hl q e
theorem LoIn.bar (k : Dk) : LoIn k.barrier := fun q hq => by cases hq
theorem bar_len (k : Dk) : k.barrier.st.length = k.st.length := setAll_len _ _
structure Calmly (S : Sto) (hist : Hist) (h0 : Int) (c : List (List Int)) : Prop where
  P0 : 0 < S.P
  S0 : 0 < S.S
  link : S.dev = S.beg.evs S.tr
  lo : S.dev.lo = []
  len : (S.dev.st.length : Int) = 2 + S.S + S.P
  calm : Calm S.P S.S S.dev.st S.hn S.hf S.hs S.grs S.ng c
  ends : ∀ q ∈ S.pu, q.2.1 ≤ (lastB S.tr : Int)
  last : hist[deedsB S.pu S.pu.length]? = some c
  hh : h0 ≤ S.hn
  ng0 : 0 ≤ S.ng
  ns0 : 0 ≤ S.ns
  h8 : ∀ g ∈ S.grs, ∀ q ∈ g.2.2, q.2.length = 8
  past : Past S.P S.S S.beg S.tr S.pu hist h0
theorem calm_crash {P S hn hf hs ng h0 : Int} {k : Dk} {grs : Grs} {c : List (List Int)} {pu : Pu} {hist : Hist} {lb n : Nat} (hS : 0 < S) (C : Calm P S k.st hn hf hs grs ng c) (hh : h0 ≤ hn) (hle : lb ≤ n) (ends : ∀ q ∈ pu, q.2.1 ≤ (lb : Int)) (last : hist[deedsB pu pu.length]? = some c)
    (hlo : ∀ q ∈ k.lo, ∃ p : Int, q.1 = 2 + S + p ∧ 0 ≤ p ∧ p < P ∧ fA (mergedG grs) p ≠ none) : Crash P S k lb n pu hist h0 :=
  Crash.of_all hle ends fun cs nd ok => by
    obtain ⟨h1, h2, _⟩ := C.home_fall hS hlo nd ok
    exact ⟨_, h1, hh, by rw [h2]; exact last⟩
theorem turn_eq (S : Sto) : S.turn = { ((S.hd1.ws [((S.hn + 1).fmod 2, hdD (S.hn + 1) S.ng S.ns)]).bar) with grs := [] } := rfl
/-- the home is written -/
theorem Calmly.whome {S : Sto} {hist : Hist} {h0 : Int} {c : List (List Int)} (C : Calmly S hist h0 c) : Calmly S.whome hist h0 c ∧ homeOf ⟨S.whome.dev.st, []⟩ S.P S.S = c := by
  have hk0 : ∀ x ∈ sortK (mergedG S.grs), 0 ≤ x := fun x hx => by
    obtain ⟨q, hq, rfl⟩ := List.mem_map.mp (sortI_mem.mp hx)
    exact mergedG_k C.calm.gk q hq
  have hW := homeW_lo (P := S.P) (S := S.S) (mg := mergedG S.grs) (ks := sortK (mergedG S.grs)) hk0 fun x hx => sortI_mem.mp hx
  rw [whome_eq]
  generalize hWe : homeW S.P S.S (mergedG S.grs) (sortK (mergedG S.grs)) = W at hW ⊢
  have hS := C.S0
  have hP := C.P0
  have hlen := C.len
  have hlo := C.lo
  have hin : LoIn (S.dev.more W) := LoIn.more (fun q hq => by rw [hlo] at hq; cases hq) fun q hq => by
    obtain ⟨p, e, h1, h2, _⟩ := hW q hq
    omega
  have hloW : (S.dev.more W).lo = W := by
    show S.dev.lo ++ W = W
    rw [hlo]; rfl
  have hst : (S.dev.more W).st = S.dev.st := rfl
  have CW : Calm S.P S.S (S.dev.more W).st S.hn S.hf S.hs S.grs S.ng c := C.calm
  obtain ⟨Cb, Hb⟩ := CW.home_bar hS (by omega) C.h8 hin (by rw [hst]; exact hlen) (by rw [hloW, hWe])
  have linkW : (S.ws W).dev = (S.ws W).beg.evs (S.ws W).tr := by
    show S.dev.more W = S.beg.evs (S.tr ++ W.map evW)
    rw [evs_app, evs_ws, ← C.link]
  have past1 : Past S.P S.S S.beg (S.tr ++ W.map evW) S.pu hist h0 := C.past.ws0 W fun j hj hj2 => by
    rw [← C.link]
    refine calm_crash hS C.calm C.hh (by have := lastB_le S.tr; omega) C.ends C.last fun q hq => ?_
    have : q ∈ W.take j := by
      have : q ∈ S.dev.lo ++ W.take j := hq
      rwa [hlo, List.nil_append] at this
    exact hW q (List.mem_of_mem_take this)
  have hends : ∀ q ∈ S.pu, q.2.1 ≤ (((S.tr ++ W.map evW).length + 1 : Nat) : Int) := fun q hq => by
    have := C.ends q hq
    have := lastB_le S.tr
    rw [List.length_append]
    omega
  refine ⟨⟨hP, hS, ?_, rfl, ?_, Cb, ?_, C.last, C.hh, C.ng0, C.ns0, C.h8, ?_⟩, Hb⟩
  · show (S.dev.more W).barrier = S.beg.evs ((S.tr ++ W.map evW) ++ [.b])
    rw [ev_bar]
    exact congrArg Dk.barrier linkW
  · show ((S.dev.more W).barrier.st.length : Int) = _
    rw [bar_len]; exact hlen
  · show ∀ q ∈ S.pu, q.2.1 ≤ (lastB ((S.tr ++ W.map evW) ++ [.b]) : Int)
    rw [lastB_b]
    exact hends
  · show Past S.P S.S S.beg ((S.tr ++ W.map evW) ++ [.b]) S.pu hist h0
    refine past1.bar ?_
    have e : S.beg.evs (S.tr ++ W.map evW) = S.dev.more W := linkW.symm
    rw [e]
    exact calm_crash (k := (S.dev.more W).barrier) hS Cb C.hh (Nat.le_refl _) hends C.last fun q hq => by cases hq
/-- the head is turned -/
theorem Calmly.turn {S : Sto} {hist : Hist} {h0 : Int} {c : List (List Int)} (C : Calmly S hist h0 c) (H : homeOf ⟨S.dev.st, []⟩ S.P S.S = c) : Calmly S.turn hist h0 c ∧ homeOf ⟨S.turn.dev.st, []⟩ S.P S.S = c ∧ lastB S.turn.tr = S.turn.tr.length := by
  rw [turn_eq]
  have hS := C.S0
  have hP := C.P0
  have hlen := C.len
  have hlo := C.lo
  have f2 := fmod2 (S.hn + 1)
  generalize hWe : [((S.hn + 1).fmod 2, hdD (S.hn + 1) S.ng S.ns)] = W
  have hin : LoIn (S.dev.more W) := LoIn.more (fun q hq => by rw [hlo] at hq; cases hq) fun q hq => by
    rw [← hWe] at hq
    rcases List.mem_singleton.mp hq with rfl
    exact ⟨f2.1, by show (S.hn + 1).fmod 2 < _; omega⟩
  have hloW : (S.dev.more W).lo = [((S.hn + 1).fmod 2, hdD (S.hn + 1) S.ng S.ns)] := by
    show S.dev.lo ++ W = _
    rw [hlo, hWe]; rfl
  have CW : Calm S.P S.S (S.dev.more W).st S.hn S.hf S.hs S.grs S.ng c := C.calm
  obtain ⟨Cb, Hb⟩ := CW.head_bar hS H C.ng0 C.ns0 hin hloW
  have linkW : S.dev.more W = S.beg.evs (S.tr ++ W.map evW) := by
    rw [evs_app, evs_ws, ← C.link]
  have past1 : Past S.P S.S S.beg (S.tr ++ W.map evW) S.pu hist h0 := C.past.ws0 W fun j hj hj2 => by
    rw [← C.link]
    have l1 : W.length = 1 := by rw [← hWe]; rfl
    have e : W.take j = W := List.take_of_length_le (by omega)
    rw [e]
    refine Crash.of_all (by have := lastB_le S.tr; omega) C.ends fun cs nd ok => ?_
    obtain ⟨h, h1, h2, h3⟩ := CW.head_fall hS H C.ng0 C.ns0 hloW nd ok
    have := C.hh
    exact ⟨h, h1, by omega, by rw [h3]; exact C.last⟩
  have hends : ∀ q ∈ S.pu, q.2.1 ≤ (((S.tr ++ W.map evW).length + 1 : Nat) : Int) := fun q hq => by
    have := C.ends q hq
    have := lastB_le S.tr
    rw [List.length_append]
    omega
  have hh := C.hh
  refine ⟨⟨hP, hS, ?_, rfl, ?_, Cb, ?_, C.last, by show h0 ≤ S.hn + 1; omega, C.ng0, C.ns0, fun g hg => (by cases hg), ?_⟩, Hb, ?_⟩
  · show (S.dev.more W).barrier = S.beg.evs ((S.tr ++ W.map evW) ++ [.b])
    rw [ev_bar]
    exact congrArg Dk.barrier linkW
  · show ((S.dev.more W).barrier.st.length : Int) = _
    rw [bar_len]; exact hlen
  · show ∀ q ∈ S.pu, q.2.1 ≤ (lastB ((S.tr ++ W.map evW) ++ [.b]) : Int)
    rw [lastB_b]
    exact hends
  · show Past S.P S.S S.beg ((S.tr ++ W.map evW) ++ [.b]) S.pu hist h0
    refine past1.bar ?_
    rw [← linkW]
    exact calm_crash (k := (S.dev.more W).barrier) hS Cb (by omega) (Nat.le_refl _) hends C.last fun q hq => by cases hq
  · show lastB ((S.tr ++ W.map evW) ++ [.b]) = ((S.tr ++ W.map evW) ++ [Ev.b]).length
    rw [lastB_b]
    exact (List.length_append (as := S.tr ++ W.map evW) (bs := [Ev.b])).symm
end Lw
set_option Elab.async false
set_option linter.all false
set_option maxRecDepth 100000
set_option maxHeartbeats 4000000
/-! The store's life: plain law (own work). -/
namespace Lw
open PySem DL
/-- the deeds and the homes behind them -/
structure Deeds (S : Sto) (hist : Hist) : Prop where
  hl : (hist.length : Int) = S.de + 1
  dd : (deedsB S.pu S.pu.length : Int) = S.de - S.rd
  cel : hist[S.de.toNat]? = some S.cells
  run : ∃ h, hist[deedsB S.pu S.pu.length]? = some h ∧ layC h S.run = S.cells
  run0 : S.rd = 0 ↔ S.run = []
  rdp : 0 ≤ S.rd
  runl : (S.run.length : Int) ≤ S.S
  rung : ChgG S.P S.run
structure InvX (S : Sto) (hist : Hist) (h0 : Int) (sg off : Nat) : Prop where
  P0 : 0 < S.P
  S0 : 0 < S.S
  link : S.dev = S.beg.evs S.tr
  blo : S.beg.lo = []
  lin : LoIn S.dev
  len : (S.dev.st.length : Int) = 2 + S.S + S.P
  hd : rdH ⟨S.dev.st, []⟩ = some (S.hn, S.hf, S.hs)
  hh : h0 ≤ S.hn
  seq : SeqG S.hf S.hs S.grs
  sum : (chSum S.grs : Int) ≤ S.S
  ng : S.ng = S.hf + S.grs.length
  ns : S.ns = S.hs + (chSum S.grs : Nat)
  sgl : sg ≤ S.grs.length
  ring : RingSt S.dev.st S.S S.hf S.hs (flat S.grs) (chSum (S.grs.take sg))
  rlo : RLo S.dev.lo S.S S.hs (flat S.grs) (chSum (S.grs.take sg)) (chSum S.grs)
  pul : off + S.grs.length = S.pu.length
  puw : wr S.pu (lastB S.tr) = off + sg
  pue : ∀ q ∈ S.pu, q.2.1 ≤ (S.tr.length : Int)
  pe : ∀ j, sg ≤ j → j < S.grs.length → ∃ d, S.pu[off + j]? = some (((lastB S.tr + (chSum (S.grs.take j) - chSum (S.grs.take sg)) : Nat) : Int), ((lastB S.tr + (chSum (S.grs.take (j + 1)) - chSum (S.grs.take sg)) : Nat) : Int), d)
  ph : ∀ j, j ≤ S.grs.length → hist[deedsB S.pu (off + j)]? = some (layC (homeOf ⟨S.dev.st, []⟩ S.P S.S) (mergedG (S.grs.take j)))
  sd : (deedsB S.pu (off + sg) : Int) = S.sd
theorem InvX.gk {S : Sto} {hist : Hist} {h0 : Int} {sg off : Nat} (I : InvX S hist h0 sg off) : GrK S.grs := fun g hg q hq => by
  obtain ⟨i, hi⟩ := List.mem_iff_getElem?.mp hg
  exact ((seq_num I.seq i g hi).2.2.2 q hq).1
theorem InvX.h8 {S : Sto} {hist : Hist} {h0 : Int} {sg off : Nat} (I : InvX S hist h0 sg off) : ∀ g ∈ S.grs, ∀ q ∈ g.2.2, q.2.length = 8 := fun g hg q hq => by
  obtain ⟨i, hi⟩ := List.mem_iff_getElem?.mp hg
  exact ((seq_num I.seq i g hi).2.2.2 q hq).2
theorem InvX.hd0 {S : Sto} {hist : Hist} {h0 : Int} {sg off : Nat} (I : InvX S hist h0 sg off) : 0 ≤ S.hn ∧ 0 ≤ S.hf ∧ 0 ≤ S.hs := by
  obtain ⟨_, a, b, c, _⟩ := rdH_spec I.hd
  exact ⟨a, b, c⟩
theorem InvX.crash {S : Sto} {hist : Hist} {h0 : Int} {sg off : Nat} (I : InvX S hist h0 sg off) : Crash S.P S.S S.dev (lastB S.tr) S.tr.length S.pu hist h0 :=
  crash_log (nW := S.grs.length) (sg := sg) (off := off) I.S0 I.hd0.2.1 I.seq I.sum I.ring I.rlo (lastB_le _) I.hd I.hh I.pul I.sgl (Nat.le_refl _) rfl (by rw [List.take_length]; exact Nat.le_refl _) (fun h => absurd h (Nat.lt_irrefl _)) I.puw (wr_all I.pue)
    (fun j h1 h2 => I.pe j h1 h2) (fun j h1 h2 => I.ph j h2)
/-- the loose rows do not reach head and home -/
theorem InvX.bar_at {S : Sto} {hist : Hist} {h0 : Int} {sg off : Nat} (I : InvX S hist h0 sg off) {p : Int} (h0' : 0 ≤ p) (hp : p < 2 ∨ 2 + S.S ≤ p) : stAt S.dev.barrier.st p = stAt S.dev.st p := by
  rw [barrier_st I.lin h0']
  unfold Dk.now
  rw [I.rlo.out I.S0 hp]
  rfl
theorem RLo.nil (S hs : Int) (L : List D) {a : Nat} (h : a ≤ L.length) : RLo [] S hs L a a := ⟨Nat.le_refl _, by simp, fun i v h1 h2 => by omega, h⟩
theorem Deeds.settle {S : Sto} {hist : Hist} (d : Deeds S hist) : Deeds S.settle hist := ⟨d.hl, d.dd, d.cel, d.run, d.run0, d.rdp, d.runl, d.rung⟩
theorem InvX.settle {S : Sto} {hist : Hist} {h0 : Int} {sg off : Nat} (I : InvX S hist h0 sg off) (d : Deeds S hist) : InvX S.settle hist h0 S.grs.length off := by
  have hS := I.S0
  have rb := I.ring.bar I.rlo hS I.sum I.lin
  have hsum : chSum (S.grs.take S.grs.length) = chSum S.grs := by rw [List.take_length]
  have now_eq : ∀ p, 0 ≤ p → (p < 2 ∨ 2 + S.S ≤ p) → (⟨S.dev.barrier.st, []⟩ : Dk).now p = (⟨S.dev.st, []⟩ : Dk).now p := fun p h1 h2 => by
    rw [now_nil rfl, now_nil rfl]
    exact I.bar_at h1 h2
  have hH : homeOf ⟨S.dev.barrier.st, []⟩ S.P S.S = homeOf ⟨S.dev.st, []⟩ S.P S.S := homeOf_congr fun p h1 h2 => now_eq p (by omega) (.inr h1)
  refine ⟨I.P0, hS, ?_, I.blo, LoIn.bar _, by show (S.dev.barrier.st.length : Int) = _; rw [bar_len]; exact I.len, ?_, I.hh, I.seq, I.sum, I.ng, I.ns, Nat.le_refl _, ?_, ?_, I.pul, ?_, ?_, ?_, ?_, ?_⟩
  · show S.dev.barrier = S.beg.evs (S.tr ++ [.b])
    rw [ev_bar, ← I.link]
  · exact (rdH_congr (now_eq 0 (by omega) (.inl (by omega))) (now_eq 1 (by omega) (.inl (by omega)))).trans I.hd
  · show RingSt S.dev.barrier.st S.S S.hf S.hs (flat S.grs) (chSum (S.grs.take S.grs.length))
    rw [hsum]; exact rb
  · show RLo [] S.S S.hs (flat S.grs) (chSum (S.grs.take S.grs.length)) (chSum S.grs)
    rw [hsum]
    exact RLo.nil _ _ _ (by rw [flat_len]; exact Nat.le_refl _)
  · show wr S.pu (lastB (S.tr ++ [.b])) = off + S.grs.length
    rw [lastB_b, I.pul]
    exact wr_all fun q hq => by have := I.pue q hq; omega
  · intro q hq
    have := I.pue q hq
    show q.2.1 ≤ ((S.tr ++ [Ev.b]).length : Int)
    rw [List.length_append, List.length_singleton]
    omega
  · intro j h1 h2
    exact absurd h2 (by show ¬ j < S.grs.length; omega)
  · intro j hj
    show _ = some (layC (homeOf ⟨S.dev.barrier.st, []⟩ S.P S.S) _)
    rw [hH]
    exact I.ph j hj
  · show (deedsB S.pu (off + S.grs.length) : Int) = S.de - S.rd
    rw [I.pul]
    exact d.dd
theorem InvX.settle_past {S : Sto} {hist : Hist} {h0 : Int} {sg off : Nat} (I : InvX S hist h0 sg off) (d : Deeds S hist) (p : Past S.P S.S S.beg S.tr S.pu hist h0) : Past S.P S.S S.beg S.settle.tr S.pu hist h0 := by
  refine p.bar ?_
  have c := (I.settle d).crash
  have e : S.settle.dev = (S.beg.evs S.tr).barrier := by rw [← I.link]; rfl
  have e2 : lastB S.settle.tr = S.tr.length + 1 := lastB_b _
  have e3 : S.settle.tr.length = S.tr.length + 1 := by show (S.tr ++ [Ev.b]).length = _; simp
  rw [e, e2, e3] at c
  exact c
theorem rp_onto {S hs p : Int} (hS : 0 < S) (h1 : 2 ≤ p) (h2 : p < 2 + S) : ∃ i : Nat, (i : Int) < S ∧ rp S hs i = p := by
  have m0 := Int.emod_nonneg (p - 2 - hs) (show S ≠ 0 by omega)
  have m1 := Int.emod_lt_of_pos (p - 2 - hs) hS
  refine ⟨((p - 2 - hs) % S).toNat, by omega, ?_⟩
  unfold rp
  rw [Int.fmod_eq_emod_of_nonneg _ (by omega), show (((p - 2 - hs) % S).toNat : Int) = (p - 2 - hs) % S by omega, Int.add_emod_emod, show hs + (p - 2 - hs) = p - 2 by omega, Int.emod_eq_of_lt (by omega) (by omega)]
  omega
/-- all groups settled: the store is calm -/
theorem InvX.calm {S : Sto} {hist : Hist} {h0 : Int} {off : Nat} (I : InvX S hist h0 S.grs.length off) (p : Past S.P S.S S.beg S.tr S.pu hist h0) : ∃ c, Calmly S hist h0 c := by
  have hS := I.S0
  have hsum : chSum (S.grs.take S.grs.length) = chSum S.grs := by rw [List.take_length]
  have ring := I.ring
  have rlo := I.rlo
  rw [hsum] at ring rlo
  have hd0 := I.hd0
  have hlo : S.dev.lo = [] := List.eq_nil_of_length_eq_zero (by rw [rlo.len]; omega)
  have hall : ∀ q ∈ S.pu, q.2.1 ≤ (lastB S.tr : Int) := by
    have h1 := I.puw
    rw [I.pul] at h1
    intro q hq
    have : (S.pu.filter fun q => decide (q.2.1 ≤ (lastB S.tr : Int))) = S.pu := List.filter_eq_self.mpr fun a ha => List.all_eq_true.mp (by
      have h2 := List.length_filter_eq_length_iff.mp h1
      exact List.all_eq_true.mpr h2) a ha
    have := List.filter_eq_self.mp this q hq
    simpa using this
  have hph := I.ph S.grs.length (Nat.le_refl _)
  rw [I.pul, List.take_length] at hph
  refine ⟨_, I.P0, hS, I.link, hlo, I.len, ⟨I.hd, ?_, fun q h1 h2 => ?_, rfl, I.gk⟩, hall, hph, I.hh, by rw [I.ng]; omega, by rw [I.ns]; omega, I.h8, p⟩
  · have := log_read (k := ⟨S.dev.st, []⟩) (n := S.grs.length) (cs := []) hS hd0.2.1 I.seq I.sum ring (RLo.nil _ _ _ (by rw [flat_len]; exact Nat.le_refl _)) (by simp) (fun q hq => by cases hq) (Nat.le_refl _) (fun i hi => by
      rw [hsum] at hi
      unfold presC
      simp [hi]) (fun h => absurd h (Nat.lt_irrefl _))
    rw [List.take_length] at this
    exact this
  · obtain ⟨i, hi, rfl⟩ := rp_onto (hs := S.hs) hS h1 h2
    intro hlog
    rw [I.ng]
    by_cases e : i < chSum S.grs
    · exact flat_num I.seq _ (List.mem_of_getElem? (ring.live i e))
    · have := ring.dead i (by omega) hi hlog
      omega
/-- a calm store without groups, its numbers the head's -/
theorem InvX.of_calm {S : Sto} {hist : Hist} {h0 : Int} {c : List (List Int)} (C : Calmly S hist h0 c) (hg : S.grs = []) (h1 : S.ng = S.hf) (h2 : S.ns = S.hs) (hb : S.beg.lo = []) (sd : (deedsB S.pu S.pu.length : Int) = S.sd) : InvX S hist h0 0 S.pu.length := by
  have e0 : chSum ([] : Grs) = 0 := rfl
  have hall := C.ends
  have hlo := C.lo
  have hcalm := C.calm
  rw [hg] at hcalm
  have hseen := hcalm.seen
  rw [h1] at hseen
  have hhome : homeOf ⟨S.dev.st, []⟩ S.P S.S = c := hcalm.home
  refine ⟨C.P0, C.S0, C.link, hb, fun q hq => (by rw [hlo] at hq; cases hq), C.len, hcalm.hd, C.hh, by rw [hg]; trivial, by rw [hg]; have := C.S0; show (0 : Int) ≤ _; omega, by rw [hg, h1]; simp, by rw [hg, h2]; simp [chSum], Nat.zero_le _, ?_, ?_, by rw [hg]; rfl, wr_all hall, fun q hq => by have := hall q hq; have := lastB_le S.tr; omega, fun j h1 h2 => by rw [hg] at h2; exact absurd h2 (Nat.not_lt_zero _), fun j hj => ?_, sd⟩
  · rw [hg]
    refine ⟨fun i hi => absurd hi (Nat.not_lt_zero _), fun i _ hi => ?_⟩
    have := rp_in (hs := S.hs) C.S0 i
    exact hseen _ this.1 this.2
  · rw [hg, hlo]
    exact RLo.nil _ _ _ (Nat.le_refl _)
  · rw [hg] at hj ⊢
    have : j = 0 := Nat.le_zero.mp hj
    subst this
    show hist[deedsB S.pu S.pu.length]? = some (homeOf _ _ _)
    rw [hhome]
    exact C.last
end Lw
set_option Elab.async false
set_option linter.all false
set_option maxRecDepth 100000
set_option maxHeartbeats 4000000
/-! Lay, push, put: plain law (own work). -/
namespace Lw
open PySem DL
def Inv (S : Sto) (hist : Hist) (h0 : Int) : Prop := ∃ sg off, InvX S hist h0 sg off ∧ Deeds S hist ∧ Past S.P S.S S.beg S.tr S.pu hist h0
theorem Inv.settle {S : Sto} {hist : Hist} {h0 : Int} (I : Inv S hist h0) : Inv S.settle hist h0 := by
  obtain ⟨sg, off, a, b, c⟩ := I
  exact ⟨_, _, a.settle b, b.settle, a.settle_past b c⟩
theorem whome_turn (S : Sto) : S.whome.turn.grs = [] ∧ S.whome.turn.ng = S.whome.turn.hf ∧ S.whome.turn.ns = S.whome.turn.hs ∧ S.whome.turn.beg = S.beg ∧ S.whome.turn.pu = S.pu ∧ S.whome.turn.sd = S.sd ∧ S.whome.turn.P = S.P ∧ S.whome.turn.S = S.S ∧ S.whome.turn.de = S.de ∧ S.whome.turn.rd = S.rd ∧ S.whome.turn.run = S.run ∧ S.whome.turn.cells = S.cells ∧ S.whome.turn.hn = S.hn + 1 ∧ S.whome.turn.hf = S.ng ∧ S.whome.turn.hs = S.ns := by
  rw [whome_eq]
  exact ⟨rfl, rfl, rfl, rfl, rfl, rfl, rfl, rfl, rfl, rfl, rfl, rfl, rfl, rfl, rfl⟩
theorem Calmly.turned {S : Sto} {hist : Hist} {h0 : Int} {c : List (List Int)} (C : Calmly S hist h0 c) (hb : S.beg.lo = []) (sd : (deedsB S.pu S.pu.length : Int) = S.sd) : InvX S.whome.turn hist h0 0 S.pu.length ∧ Past S.P S.S S.beg S.whome.turn.tr S.pu hist h0 ∧ Calmly S.whome.turn hist h0 c := by
  obtain ⟨e1, e2, e3, e4, e5, e6, e7, e8, _⟩ := whome_turn S
  obtain ⟨C1, H1⟩ := C.whome
  have w1 : S.whome.P = S.P ∧ S.whome.S = S.S := by rw [whome_eq]; exact ⟨rfl, rfl⟩
  obtain ⟨C2, H2, _⟩ := C1.turn (by rw [w1.1, w1.2]; exact H1)
  have := InvX.of_calm C2 e1 e2 e3 (by rw [e4]; exact hb) (by rw [e5, e6]; exact sd)
  rw [e5] at this
  have p := C2.past
  rw [e4, e5, e7, e8] at p
  exact ⟨this, p, C2⟩
theorem Deeds.same {S T : Sto} {hist : Hist} (d : Deeds S hist) (h1 : T.pu = S.pu) (h2 : T.P = S.P) (h3 : T.S = S.S) (h4 : T.de = S.de) (h5 : T.rd = S.rd) (h6 : T.run = S.run) (h7 : T.cells = S.cells) : Deeds T hist := by
  refine ⟨?_, ?_, ?_, ?_, ?_, ?_, ?_, ?_⟩
  · rw [h4]; exact d.hl
  · rw [h1, h4, h5]; exact d.dd
  · rw [h4, h7]; exact d.cel
  · rw [h1, h6, h7]; exact d.run
  · rw [h5, h6]; exact d.run0
  · rw [h5]; exact d.rdp
  · rw [h6, h3]; exact d.runl
  · rw [h6, h2]; exact d.rung
theorem Inv.lay {S : Sto} {hist : Hist} {h0 : Int} (I : Inv S hist h0) : Inv S.lay hist h0 := by
  unfold Sto.lay
  split
  · exact I
  · obtain ⟨sg, off, a, b, c⟩ := I.settle
    obtain ⟨sg0, off0, a0, b0, c0⟩ := I
    have a1 := a0.settle b0
    have p1 := a0.settle_past b0 c0
    obtain ⟨cc, C⟩ := InvX.calm (S := S.settle) a1 p1
    obtain ⟨t1, t2, _⟩ := C.turned a1.blo (by
      have := a1.sd
      have hp : off0 + S.settle.grs.length = S.settle.pu.length := a1.pul
      rw [show off0 + S.grs.length = S.settle.pu.length from hp] at this
      exact this)
    obtain ⟨e1, e2, e3, e4, e5, e6, e7, e8, e9, e10, e11, e12, _⟩ := whome_turn S.settle
    refine ⟨_, _, t1, b.same e5 e7 e8 e9 e10 e11 e12, ?_⟩
    rw [e4, e5, e7, e8]
    exact t2
theorem lay_grs (S : Sto) : S.lay.grs = [] := by
  unfold Sto.lay
  split
  · rename_i h; exact h
  · exact (whome_turn S.settle).1
theorem lay_same (S : Sto) : S.lay.P = S.P ∧ S.lay.S = S.S ∧ S.lay.de = S.de ∧ S.lay.rd = S.rd ∧ S.lay.run = S.run ∧ S.lay.cells = S.cells ∧ S.lay.pu = S.pu ∧ S.lay.beg = S.beg := by
  unfold Sto.lay
  split
  · exact ⟨rfl, rfl, rfl, rfl, rfl, rfl, rfl, rfl⟩
  · obtain ⟨e1, e2, e3, e4, e5, e6, e7, e8, e9, e10, e11, e12, _⟩ := whome_turn S.settle
    exact ⟨e7, e8, e9, e10, e11, e12, e5, e4⟩
theorem flat_app (a b : Grs) : flat (a ++ b) = flat a ++ flat b := by
  induction a with
  | nil => rfl
  | cons x t ih => rw [List.cons_append, flat, flat, ih, List.append_assoc]
theorem chSum_app (a b : Grs) : chSum (a ++ b) = chSum a + chSum b := by unfold chSum; rw [List.map_append, List.sum_append]
def rowsR (S : Sto) (ch : Chg) : List (Int × D) := ch.zipIdx.map fun q => (2 + (S.ns + (q.2 : Nat)).fmod S.S, lpD S.ng (q.2 : Nat) ch.length q.1)
theorem rows_eq (S : Sto) (ch : Chg) : S.rows ch = S.ws (rowsR S ch) := wrs_ws _ _ _ _ _
theorem rowsR_get {S : Sto} {ch : Chg} {i : Nat} {q : Int × List Int} (h : ch[i]? = some q) : (rowsR S ch)[i]? = some (2 + (S.ns + (i : Nat)).fmod S.S, lpD S.ng (i : Nat) ch.length q) := by
  unfold rowsR
  rw [List.getElem?_map, List.getElem?_zipIdx, h]
  simp
theorem rowsR_len (S : Sto) (ch : Chg) : (rowsR S ch).length = ch.length := by unfold rowsR; rw [List.length_map, List.length_zipIdx]
def Sto.pendW (S : Sto) (b : Int) (ch : Chg) (R : List (Int × D)) : Sto := { S.ws R with grs := S.grs ++ [(S.ng, S.ns, ch)], pu := S.pu ++ [(b, ((S.ws R).tr.length : Int), S.de)], ng := S.ng + 1, ns := S.ns + ch.length, run := [], rd := 0 }
theorem pend_ws (S : Sto) (b : Int) (ch : Chg) : S.pend b ch = S.pendW b ch (rowsR S ch) := by
  unfold Sto.pend
  rw [rows_eq]
  rfl
theorem Inv.pend {S : Sto} {hist : Hist} {h0 : Int} (I : Inv S hist h0) {ch : Chg} (hne : ch ≠ []) (hch : ch = srtA S.run) (hsum : (chSum S.grs : Int) + ch.length ≤ S.S) : Inv (S.pend (S.tr.length : Int) ch) hist h0 := by
  obtain ⟨sg, off, X, d, past⟩ := I
  have h8 : ∀ q ∈ ch, 0 ≤ q.1 ∧ q.2.length = 8 := by
    rw [hch]
    exact fun q hq => by
      obtain ⟨a, _, c⟩ := srtA_8 d.rung q hq
      exact ⟨a, c⟩
  have hlen : 0 < ch.length := List.length_pos_iff.mpr hne
  rw [pend_ws]
  generalize hR : rowsR S ch = R
  have hRl : R.length = ch.length := by rw [← hR, rowsR_len]
  obtain ⟨new, hnew⟩ : ∃ x : Int × Int × Chg, x = (S.ng, S.ns, ch) := ⟨_, rfl⟩
  have hnum := X.ng
  have hnss := X.ns
  have hseq : SeqG S.hf S.hs (S.grs ++ [new]) := seq_app X.seq (by rw [hnew]; exact hnum) (by rw [hnew]; exact hnss) (by rw [hnew]; exact hne) (by rw [hnew]; exact h8)
  have hT : chSum (S.grs ++ [new]) = chSum S.grs + ch.length := by rw [chSum_app, hnew]; simp [chSum]
  have hflat : flat (S.grs ++ [new]) = flat S.grs ++ rowsFrom S.ng ch.length 0 ch := by
    rw [flat_app, hnew]
    show flat S.grs ++ (rowsFrom S.ng ch.length 0 ch ++ []) = _
    rw [List.append_nil]
  have htk : ∀ j, j ≤ S.grs.length → (S.grs ++ [new]).take j = S.grs.take j := fun j hj => List.take_append_of_le_length hj
  have hfull : (S.grs ++ [new]).take (S.grs.length + 1) = S.grs ++ [new] := List.take_of_length_le (by simp)
  have htk1 : (S.grs ++ [new]).take S.grs.length = S.grs := by rw [htk _ (Nat.le_refl _), List.take_length]
  generalize ha : chSum (S.grs.take sg) = a at *
  have hring : RingSt S.dev.st S.S S.hf S.hs (flat (S.grs ++ [new])) a := by
    have := X.ring
    rw [ha] at this
    rw [hflat]
    exact this.grow _
  have hrlo0 : RLo S.dev.lo S.S S.hs (flat (S.grs ++ [new])) a (chSum S.grs) := by
    have := X.rlo
    rw [ha] at this
    rw [hflat]
    exact this.grow _
  have hrlo : ∀ j, j ≤ ch.length → RLo (S.dev.lo ++ R.take j) S.S S.hs (flat (S.grs ++ [new])) a (chSum S.grs + j) := by
    intro j
    induction j with
    | zero => intro _; rw [List.take_zero, List.append_nil]; exact hrlo0
    | succ j ih =>
      intro hj
      obtain ⟨q, hq⟩ : ∃ q, ch[j]? = some q := ⟨_, List.getElem?_eq_getElem hj⟩
      have hr := rowsR_get (S := S) hq
      rw [hR] at hr
      have hL : (flat (S.grs ++ [new]))[chSum S.grs + j]? = some (lpD S.ng (j : Nat) ch.length q) := by
        rw [hflat, List.getElem?_append_right (by rw [flat_len]; omega), flat_len, show chSum S.grs + j - chSum S.grs = j by omega]
        have := rowsFrom_get S.ng ch.length ch 0 j q hq
        simpa using this
      have := (ih (by omega)).push hL
      rw [take_snoc hr, ← List.append_assoc]
      have e : rp S.S S.hs (chSum S.grs + j) = 2 + (S.ns + (j : Nat)).fmod S.S := by
        unfold rp
        rw [hnss, Int.add_assoc]
        rfl
      rw [e] at this
      exact this
  have hkey : ∀ j, j ≤ S.grs.length → hist[deedsB S.pu (off + j)]? = some (layC (homeOf ⟨S.dev.st, []⟩ S.P S.S) (mergedG ((S.grs ++ [new]).take j))) := fun j hj => by
    rw [htk j hj]; exact X.ph j hj
  have hlolen := X.rlo.len
  rw [ha] at hlolen
  have hlb := lo_len X.blo S.tr
  rw [← X.link] at hlb
  have hle : a ≤ chSum S.grs := by
    have := X.rlo.le
    rwa [ha] at this
  have hpe : ∀ j, sg ≤ j → j < S.grs.length → ∃ d, S.pu[off + j]? = some (((lastB S.tr + (chSum ((S.grs ++ [new]).take j) - a) : Nat) : Int), ((lastB S.tr + (chSum ((S.grs ++ [new]).take (j + 1)) - a) : Nat) : Int), d) := fun j h1 h2 => by
    rw [htk j (by omega), htk (j + 1) (by omega)]
    have := X.pe j h1 h2
    rwa [ha] at this
  have hsgl := X.sgl
  have hpul := X.pul
  have hde : 0 ≤ S.de := by
    have h1 := d.hl
    have h2 := (List.getElem?_eq_some_iff.mp d.cel).1
    omega
  have hn := ((S.ws R).tr.length : Int)
  have etr : (S.ws R).tr = S.tr ++ R.map evW := rfl
  have etl : ((S.ws R).tr.length : Int) = S.tr.length + ch.length := by rw [etr, List.length_append, List.length_map, hRl]; omega
  have edev : (S.ws R).dev = S.dev.more R := rfl
  have elb : lastB (S.ws R).tr = lastB S.tr := by rw [etr, lastB_ws]
  have epu : (S.pendW (S.tr.length : Int) ch R).pu = S.pu ++ [((S.tr.length : Int), ((S.ws R).tr.length : Int), S.de)] := rfl
  have egr : (S.pendW (S.tr.length : Int) ch R).grs = S.grs ++ [new] := by rw [hnew]; rfl
  have hpuw : wr (S.pendW (S.tr.length : Int) ch R).pu (lastB (S.ws R).tr) = off + sg := by
    rw [epu, elb, wr_app, X.puw, wr_none]
    · rfl
    · intro q hq
      rcases List.mem_singleton.mp hq with rfl
      have := lastB_le S.tr
      show (lastB S.tr : Int) < ((S.ws R).tr.length : Int)
      omega
  have hrlen : (rowsR S ch).take ch.length = rowsR S ch := List.take_of_length_le (by rw [rowsR_len]; exact Nat.le_refl _)
  obtain ⟨h, hh1, hh2⟩ := d.run
  have hhome : h = layC (homeOf ⟨S.dev.st, []⟩ S.P S.S) (mergedG S.grs) := by
    have := X.ph S.grs.length (Nat.le_refl _)
    rw [hpul, hh1, List.take_length] at this
    exact Option.some.inj this
  have hcells : layC (homeOf ⟨S.dev.st, []⟩ S.P S.S) (mergedG (S.grs ++ [new])) = S.cells := by
    rw [layC_more (fun g hg q hq => by
      obtain ⟨i, hi⟩ := List.mem_iff_getElem?.mp hg
      exact ((seq_num hseq i g hi).2.2.2 q hq).1), ← hhome, ← hh2, hnew]
    show layC h ch = _
    rw [hch]
    exact layC_srt d.rung.nd (fun q hq => (d.rung.key q hq).1) h
  have hdB : deedsB (S.pendW (S.tr.length : Int) ch R).pu (off + (S.grs.length + 1)) = S.de.toNat := by
    rw [epu]
    unfold deedsB
    rw [if_neg (by omega), show off + (S.grs.length + 1) - 1 = S.pu.length by omega, List.getElem?_append_right (Nat.le_refl _), Nat.sub_self]
    rfl
  have X' : InvX (S.pendW (S.tr.length : Int) ch R) hist h0 sg off := by
    refine ⟨X.P0, X.S0, ?_, X.blo, ?_, ?_, ?_, X.hh, ?_, ?_, ?_, ?_, ?_, ?_, ?_, ?_, ?_, ?_, ?_, ?_, ?_⟩
    · show (S.ws R).dev = (S.ws R).beg.evs (S.ws R).tr
      rw [edev, etr]
      have : (S.ws R).beg = S.beg := rfl
      rw [this, evs_app, evs_ws, ← X.link]
    · show LoIn (S.ws R).dev
      rw [edev]
      refine X.lin.more fun q hq => ?_
      rw [← hR] at hq
      obtain ⟨z, _, rfl⟩ := List.mem_map.mp hq
      have m0 := Int.fmod_nonneg_of_pos (S.ns + (z.2 : Nat)) X.S0
      have m1 := Int.fmod_lt_of_pos (S.ns + (z.2 : Nat)) X.S0
      have := X.len
      have := X.P0
      exact ⟨by show 0 ≤ 2 + (S.ns + (z.2 : Nat)).fmod S.S; omega, by show 2 + (S.ns + (z.2 : Nat)).fmod S.S < _; omega⟩
    · show ((S.ws R).dev.st.length : Int) = _
      rw [edev]; exact X.len
    · show rdH ⟨(S.ws R).dev.st, []⟩ = _
      rw [edev]; exact X.hd
    · rw [egr]; exact hseq
    · rw [egr, hT]
      show ((chSum S.grs + ch.length : Nat) : Int) ≤ S.S
      omega
    · rw [egr]
      show S.ng + 1 = S.hf + ((S.grs ++ [new]).length : Nat)
      rw [List.length_append, List.length_singleton]
      omega
    · rw [egr, hT]
      show S.ns + ch.length = S.hs + ((chSum S.grs + ch.length : Nat) : Int)
      omega
    · rw [egr, List.length_append]; omega
    · rw [egr, htk sg hsgl, ha]
      show RingSt (S.ws R).dev.st _ _ _ _ _
      rw [edev]
      exact hring
    · rw [egr, htk sg hsgl, ha, hT]
      show RLo (S.ws R).dev.lo _ _ _ _ _
      rw [edev]
      have := hrlo ch.length (Nat.le_refl _)
      rw [List.take_of_length_le (by omega)] at this
      exact this
    · rw [egr, epu, List.length_append, List.length_append]
      show off + (S.grs.length + 1) = S.pu.length + 1
      omega
    · exact hpuw
    · intro q hq
      rw [epu] at hq
      show q.2.1 ≤ ((S.ws R).tr.length : Int)
      rcases List.mem_append.mp hq with e | e
      · have := X.pue q e
        omega
      · rcases List.mem_singleton.mp e with rfl
        exact Int.le_refl _
    · intro j h1 h2
      rw [egr, List.length_append, List.length_singleton] at h2
      rw [egr, htk sg hsgl, ha, epu]
      show ∃ d, _ = some (((lastB (S.ws R).tr + _ : Nat) : Int), ((lastB (S.ws R).tr + _ : Nat) : Int), d)
      rw [elb]
      by_cases e : j < S.grs.length
      · obtain ⟨d, hd⟩ := hpe j h1 e
        exact ⟨d, by rw [List.getElem?_append_left (List.getElem?_eq_some_iff.mp hd).1]; exact hd⟩
      · have ej : j = S.grs.length := by omega
        subst ej
        refine ⟨S.de, ?_⟩
        rw [htk1, hfull, hT, List.getElem?_append_right (by omega), show off + S.grs.length - S.pu.length = 0 by omega]
        show some _ = some _
        have z1 : ((lastB S.tr + (chSum S.grs - a) : Nat) : Int) = S.tr.length := by omega
        have z2 : ((lastB S.tr + (chSum S.grs + ch.length - a) : Nat) : Int) = (S.ws R).tr.length := by omega
        rw [z1, z2]
    · intro j hj
      rw [egr, List.length_append, List.length_singleton] at hj
      rw [egr]
      show _ = some (layC (homeOf ⟨(S.ws R).dev.st, []⟩ S.P S.S) _)
      rw [edev]
      by_cases e : j ≤ S.grs.length
      · rw [epu, deedsB_app _ (by omega)]
        exact hkey j e
      · have ej : j = S.grs.length + 1 := by omega
        subst ej
        rw [hdB, hfull]
        show _ = some (layC (homeOf ⟨S.dev.st, []⟩ S.P S.S) _)
        rw [hcells]
        exact d.cel
    · rw [epu, deedsB_app _ (by omega)]
      exact X.sd
  have D' : Deeds (S.pendW (S.tr.length : Int) ch R) hist := by
    have hl2 : (S.pendW (S.tr.length : Int) ch R).pu.length = off + (S.grs.length + 1) := by
      rw [epu, List.length_append, List.length_singleton]; omega
    refine ⟨d.hl, ?_, d.cel, ⟨S.cells, ?_, rfl⟩, ⟨fun _ => rfl, fun _ => rfl⟩, Int.le_refl _, ?_, ⟨fun q hq => (by cases hq), Nat.zero_le _, List.nodup_nil⟩⟩
    · rw [hl2, hdB]
      show (S.de.toNat : Int) = S.de - 0
      omega
    · rw [hl2, hdB]
      exact d.cel
    · have := X.S0
      show ((0 : Nat) : Int) ≤ S.S
      omega
  refine ⟨sg, off, X', D', ?_⟩
  show Past S.P S.S S.beg (S.ws R).tr (S.pendW (S.tr.length : Int) ch R).pu hist h0
  rw [epu, etr]
  have hps : ∀ q ∈ [((S.tr.length : Int), ((S.ws R).tr.length : Int), S.de)], (S.tr.length : Int) < q.2.1 := fun q hq => by
    rcases List.mem_singleton.mp hq with rfl
    show (S.tr.length : Int) < ((S.ws R).tr.length : Int)
    omega
  have := Past.ws (hs := []) past R (ps := [((S.tr.length : Int), ((S.ws R).tr.length : Int), S.de)]) hps (fun j hj hj2 => by
    rw [List.append_nil, ← X.link]
    rw [hRl] at hj2
    by_cases e : j = ch.length
    · have c := X'.crash
      have e1 : (S.pendW (S.tr.length : Int) ch R).dev = S.dev.more R := edev
      have e2 : (S.pendW (S.tr.length : Int) ch R).tr = S.tr ++ R.map evW := etr
      rw [e1, e2, epu, lastB_ws, List.length_append, List.length_map, hRl] at c
      rw [e, List.take_of_length_le (by omega)]
      exact c
    · have c := crash_log (k := S.dev.more (R.take j)) (P := S.P) (n := S.tr.length + j) (nW := S.grs.length) (sg := sg) (off := off) (lb := lastB S.tr) (pu := S.pu) (hist := hist) (h0 := h0) (hn := S.hn) X.S0 X.hd0.2.1 hseq (by rw [hT]; omega) hring (hrlo j (by omega)) (by have := lastB_le S.tr; omega) X.hd X.hh hpul hsgl (by simp) (by rw [htk sg hsgl, ha]) (by rw [htk1]; omega) (fun _ => by rw [hfull, hT]; omega) X.puw (wr_all fun q hq => by have := X.pue q hq; omega) hpe (fun j _ h2 => hkey j h2)
      have := c.grow (ps := [((S.tr.length : Int), ((S.ws R).tr.length : Int), S.de)]) (hs := []) (by have := lastB_le S.tr; omega) (fun q hq => by
        rcases List.mem_singleton.mp hq with rfl
        show ((S.tr.length + j : Nat) : Int) < ((S.ws R).tr.length : Int)
        omega)
      rwa [List.append_nil] at this)
  rwa [List.append_nil] at this
end Lw
set_option Elab.async false
set_option linter.all false
set_option maxRecDepth 100000
set_option maxHeartbeats 4000000
/-! Push and put, opening: plain law (own work). -/
namespace Lw
open PySem DL
theorem putA_step (kvs : Chg) (k : Int) (v : List Int) : (putA kvs k v).map (·.1) = PyProof.Rows.step_dedup (kvs.map (·.1)) k := by
  have e : (kvs.map (·.1)).any (· == k) = kvs.any fun q => decide (q.1 = k) := by
    rw [List.any_map]
    rfl
  unfold putA PyProof.Rows.step_dedup
  rw [e]
  by_cases h : (kvs.any fun q => decide (q.1 = k)) = true
  · rw [if_pos h, if_pos h, List.map_map]
    refine List.map_congr_left fun q _ => ?_
    show (if q.1 = k then (q.1, v) else q).1 = q.1
    split <;> rfl
  · rw [if_neg h, if_neg h, List.map_append]
    rfl
theorem mergeA_step : ∀ (told run : Chg), (mergeA run told).map (·.1) = (told.map (·.1)).foldl PyProof.Rows.step_dedup (run.map (·.1))
  | [], _ => rfl
  | q :: told, run => by
    show (mergeA (putA run q.1 q.2) told).map (·.1) = _
    rw [mergeA_step told, putA_step]
    rfl
theorem dedup_nd : ∀ (l acc : List Int), (acc ++ l).Nodup → l.foldl PyProof.Rows.step_dedup acc = acc ++ l
  | [], acc, _ => by rw [List.append_nil]; rfl
  | x :: l, acc, h => by
    have hx : x ∉ acc := fun z => by
      have := (List.nodup_append.mp h).2.2 x z x List.mem_cons_self
      exact this rfl
    have e : PyProof.Rows.step_dedup acc x = acc ++ [x] := by
      unfold PyProof.Rows.step_dedup
      rw [if_neg]
      intro z
      obtain ⟨y, hy, e⟩ := List.any_eq_true.mp z
      have : y = x := by simpa using e
      exact hx (this ▸ hy)
    show l.foldl PyProof.Rows.step_dedup (PyProof.Rows.step_dedup acc x) = _
    rw [e, dedup_nd l (acc ++ [x]) (by rw [List.append_assoc]; exact h), List.append_assoc]
    rfl
theorem setN_fold (ns : List Int) : setN ns = ns.foldl PyProof.Rows.step_dedup [] := by
  unfold setN PyProof.Rows.firstMet
  have : (List.range ns.length).map (fun i => ns.getD i 0) = ns := by
    refine List.ext_getElem? fun i => ?_
    by_cases h : i < ns.length
    · rw [List.getElem?_map, List.getElem?_range h, List.getElem?_eq_getElem h]
      show some (ns.getD i 0) = _
      rw [List.getD_eq_getElem?_getD, List.getElem?_eq_getElem h]
      rfl
    · rw [List.getElem?_eq_none (by simp; omega), List.getElem?_eq_none (by omega)]
  rw [this]
theorem keyN_eq {run told : Chg} (nd : (run.map (·.1)).Nodup) : keyN run told = (mergeA run told).length := by
  unfold keyN
  rw [setN_fold, List.foldl_append, dedup_nd _ [] (by simpa using nd), List.nil_append, ← mergeA_step, List.length_map]
theorem push_grow (S : Sto) : S.push.run = S.run ∨ S.push.run = [] := by
  unfold Sto.push
  split
  · exact .inl rfl
  · exact .inr rfl
theorem Inv.push {S : Sto} {hist : Hist} {h0 : Int} (I : Inv S hist h0) : Inv S.push hist h0 := by
  unfold Sto.push
  split
  · exact I
  · rename_i hrd
    have hne : S.run ≠ [] := by
      obtain ⟨sg, off, X, d, p⟩ := I
      exact fun e => hrd (d.run0.mpr e)
    have hrl : (S.run.length : Int) ≤ S.S := by
      obtain ⟨sg, off, X, d, p⟩ := I
      exact d.runl
    have hsl := srtA_len S.run
    have hne2 : srtA S.run ≠ [] := fun e => hne (List.eq_nil_of_length_eq_zero (by rw [← hsl, e]; rfl))
    have key : Inv (S.room (srtA S.run)) hist h0 ∧ (S.room (srtA S.run)).run = S.run ∧ (chSum (S.room (srtA S.run)).grs : Int) + (srtA S.run).length ≤ (S.room (srtA S.run)).S := by
      unfold Sto.room
      split
      · refine ⟨I.lay, (lay_same S).2.2.2.2.1, ?_⟩
        rw [lay_grs, (lay_same S).2.1]
        show (0 : Int) + _ ≤ _
        omega
      · exact ⟨I, rfl, by omega⟩
    obtain ⟨k1, k2, k3⟩ := key
    exact k1.pend hne2 (by rw [k2]) k3
theorem push_S (S : Sto) : S.push.S = S.S := (push_same S).2.1
theorem Inv.full {S : Sto} {hist : Hist} {h0 : Int} (I : Inv S hist h0) {told : Chg} (hl : (told.length : Int) ≤ S.S) (nd : (told.map (·.1)).Nodup) : Inv (S.full told) hist h0 ∧ (S.full told).P = S.P ∧ (S.full told).S = S.S ∧ (S.full told).cells = S.cells ∧ ((mergeA (S.full told).run told).length : Int) ≤ S.S := by
  have hmt : (mergeA [] told).length ≤ told.length := by simpa using mergeA_len told []
  have hrd : S.rd = 0 → S.run = [] := by
    obtain ⟨_, _, _, d, _⟩ := I
    exact d.run0.mp
  unfold Sto.full
  split
  · obtain ⟨a, b, c⟩ := push_same S
    refine ⟨I.push, a, b, c, ?_⟩
    have e : S.push.run = [] := by
      unfold Sto.push
      split
      · rename_i z; exact hrd z
      · rfl
    rw [e]
    omega
  · rename_i h
    refine ⟨I, rfl, rfl, rfl, ?_⟩
    obtain ⟨sg, off, X, d, p⟩ := I
    rw [keyN_eq d.rung.nd] at h
    omega
theorem InvX.app {S : Sto} {hist : Hist} {h0 : Int} {sg off : Nat} (I : InvX S hist h0 sg off) (hs : Hist) : InvX S (hist ++ hs) h0 sg off :=
  { I with
    ph := fun j hj => by
      have := I.ph j hj
      rw [List.getElem?_append_left (List.getElem?_eq_some_iff.mp this).1]
      exact this }
theorem Inv.doit {S : Sto} {hist : Hist} {h0 : Int} (I : Inv S hist h0) {told : Chg} (hne : told ≠ []) (hk : ∀ q ∈ told, 0 ≤ q.1 ∧ q.1 < S.P ∧ q.2.length = 8) (hP : S.P ≤ 100) (hl : ((mergeA S.run told).length : Int) ≤ S.S) : Inv (S.doit told) (hist ++ [(S.doit told).cells]) h0 := by
  obtain ⟨sg, off, X, d, p⟩ := I
  have hde : 0 ≤ S.de := by
    have h1 := d.hl
    have h2 := (List.getElem?_eq_some_iff.mp d.cel).1
    omega
  have X' := X.app [(S.doit told).cells]
  refine ⟨sg, off, ⟨X'.P0, X'.S0, X'.link, X'.blo, X'.lin, X'.len, X'.hd, X'.hh, X'.seq, X'.sum, X'.ng, X'.ns, X'.sgl, X'.ring, X'.rlo, X'.pul, X'.puw, X'.pue, X'.pe, X'.ph, X'.sd⟩, ?_, ?_⟩
  · obtain ⟨h, hh1, hh2⟩ := d.run
    have hrdp := d.rdp
    refine ⟨?_, ?_, ?_, ⟨h, ?_, ?_⟩, ⟨fun z => ?_, fun z => ?_⟩, ?_, hl, mergeA_ok hP d.rung hk⟩
    · have := d.hl
      rw [List.length_append]
      show ((hist.length + 1 : Nat) : Int) = S.de + 1 + 1
      omega
    · have := d.dd
      show (deedsB S.pu S.pu.length : Int) = S.de + 1 - (S.rd + 1)
      omega
    · have := d.hl
      show (hist ++ [(S.doit told).cells])[(S.de + 1).toNat]? = some (S.doit told).cells
      rw [show (S.de + 1).toNat = hist.length by omega]
      simp
    · show (hist ++ _)[deedsB S.pu S.pu.length]? = some h
      rw [List.getElem?_append_left (List.getElem?_eq_some_iff.mp hh1).1]
      exact hh1
    · show layC h (mergeA S.run told) = layC S.cells told
      rw [layC_merge (fun q hq => (d.rung.key q hq).1) (fun q hq => (hk q hq).1) d.rung.nd, hh2]
    · have z : S.rd + 1 = 0 := z
      omega
    · exfalso
      have z : mergeA S.run told = [] := z
      obtain ⟨q, t, rfl⟩ := List.exists_cons_of_ne_nil hne
      have h1 := fA_mergeA (q :: t) S.run q.1
      rw [z] at h1
      have : ∀ (ch : Chg) (a : List Int) (i : Int), ∃ b, lastW ch i (some a) = some b := by
        intro ch
        induction ch with
        | nil => intro a i; exact ⟨a, rfl⟩
        | cons r ch ih =>
          intro a i
          show ∃ b, lastW ch i (if r.1 = i then some r.2 else some a) = some b
          split
          · exact ih r.2 i
          · exact ih a i
      obtain ⟨b, hb⟩ := this t q.2 q.1
      have h2 : lastW (q :: t) q.1 (fA S.run q.1) = lastW t q.1 (some q.2) := by
        show lastW t q.1 (if q.1 = q.1 then some q.2 else _) = _
        rw [if_pos rfl]
      rw [h2, hb] at h1
      cases h1
    · show 0 ≤ S.rd + 1
      omega
  · exact p.app [(S.doit told).cells]
def histP (S : Sto) (ch : Chg) (hist : Hist) : Hist := if ch = [] then hist else hist ++ [layC S.cells (srtA ch)]
theorem put_cells (S : Sto) (ch : Chg) : (S.put ch).cells = if ch = [] then S.cells else layC S.cells (srtA ch) := by
  unfold Sto.put
  split
  · rfl
  · show layC (S.full (srtA ch)).cells (srtA ch) = _
    unfold Sto.full
    split
    · rw [(push_same S).2.2]
    · rfl
theorem Inv.put {S : Sto} {hist : Hist} {h0 : Int} (I : Inv S hist h0) {ch : Chg} (hP : S.P ≤ 100) (hc : ChgG S.P ch) (hle : (ch.length : Int) ≤ S.S) : Inv (S.put ch) (histP S ch hist) h0 := by
  have pc := put_cells S ch
  unfold Sto.put histP at *
  by_cases h : ch = []
  · rw [if_pos h, if_pos h]; exact I
  · rw [if_neg h] at pc ⊢
    rw [if_neg h] at pc ⊢
    have hsl := srtA_len ch
    obtain ⟨a, b, c, d, e⟩ := I.full (told := srtA ch) (by omega) (srt_nd hc.nd)
    have := a.doit (told := srtA ch) (fun z => h (List.eq_nil_of_length_eq_zero (by rw [← hsl, z]; rfl))) (by rw [b]; exact srtA_8 hc) (by rw [b]; exact hP) (by rw [c]; exact e)
    rwa [pc] at this
theorem Inv.sync {S : Sto} {hist : Hist} {h0 : Int} (I : Inv S hist h0) : Inv S.sync hist h0 := I.push.settle
/-! opening -/
theorem maxI_ge (m : Int) (ns : List Int) : m ≤ maxI m ns ∧ ∀ x ∈ ns, x ≤ maxI m ns := by
  unfold maxI
  induction ns generalizing m with
  | nil => exact ⟨Int.le_refl _, fun x hx => by cases hx⟩
  | cons n ns ih =>
    rw [List.foldl_cons]
    obtain ⟨a, b⟩ := ih (max m n)
    refine ⟨by omega, fun x hx => ?_⟩
    rcases List.mem_cons.mp hx with rfl | hx
    · omega
    · exact b x hx
theorem seenK_ge {k : Dk} {S : Int} (hlo : k.lo = []) {p : Int} (h1 : 2 ≤ p) (h2 : p < 2 + S) (hlog : isLog (stAt k.st p) = true) : i0D (stAt k.st p) ≤ seenK k S := by
  unfold seenK
  refine (maxI_ge _ _).2 _ (List.mem_map.mpr ⟨stAt k.st p, List.mem_filter.mpr ⟨?_, hlog⟩, rfl⟩)
  unfold logRow
  refine List.mem_map.mpr ⟨(p - 2).toNat, List.mem_range.mpr (by omega), ?_⟩
  rw [now_nil hlo, show (2 + (((p - 2).toNat : Nat) : Int)) = p by omega]
theorem openS_calm {P S : Int} {k : Dk} {h : Int × Int × Int} (hP : 0 < P) (hS : 0 < S) (hlo : k.lo = []) (hl : (k.st.length : Int) = 2 + S + P) (r : rdH k = some h) : Calmly (openS P S k h) [opens P S k h] h.1 (opens P S k h) := by
  obtain ⟨n, f, s⟩ := h
  have hk : k = ⟨k.st, []⟩ := by
    cases k
    cases hlo
    rfl
  obtain ⟨_, r0, r1, r2, _⟩ := rdH_spec r
  have C : Calm P S k.st n f s (rdK k S f s) (1 + max (f - 1) (seenK k S)) (opens P S k (n, f, s)) := by
    refine ⟨by rw [← hk]; exact r, by rw [← hk], fun p h1 h2 hlog => ?_, by rw [← hk]; rfl, fun g hg q hq => (rdK_g _ _ _ _ g hg q hq).1⟩
    have := seenK_ge hlo h1 h2 hlog
    omega
  refine ⟨hP, hS, rfl, hlo, hl, C, fun q hq => (by cases hq), rfl, Int.le_refl _, by show 0 ≤ 1 + max (f - 1) _; omega, by show 0 ≤ s + _; omega, fun g hg q hq => (rdK_g _ _ _ _ g hg q hq).2, ?_⟩
  refine Past.nil (calm_crash hS C (Int.le_refl _) (Nat.le_refl _) (fun q hq => (by cases hq)) rfl fun q hq => ?_)
  have hq : q ∈ k.lo := hq
  rw [hlo] at hq
  cases hq
theorem deeds0 {S : Sto} {c : List (List Int)} (h1 : S.pu = []) (h2 : S.de = 0) (h3 : S.rd = 0) (h4 : S.run = []) (h5 : S.cells = c) (hS : 0 < S.S) : Deeds S [c] := by
  refine ⟨by rw [h2]; rfl, by rw [h1, h2, h3]; rfl, by rw [h2, h5]; rfl, ⟨c, by rw [h1]; rfl, by rw [h4, h5]; rfl⟩, by rw [h3, h4]; simp, by rw [h3]; omega, by rw [h4]; show (0 : Int) ≤ _; omega, by rw [h4]; exact ⟨fun q hq => (by cases hq), Nat.zero_le _, List.nodup_nil⟩⟩
/-- a store opened over a fallen disk -/
theorem open_inv {P S : Int} {k : Dk} {h : Int × Int × Int} (hP : 0 < P) (hS : 0 < S) (hlo : k.lo = []) (hl : (k.st.length : Int) = 2 + S + P) (r : rdH k = some h) : Inv (openS P S k h).whome.turn [opens P S k h] h.1 := by
  have C := openS_calm hP hS hlo hl r
  obtain ⟨t1, t2, _⟩ := C.turned hlo rfl
  obtain ⟨e1, e2, e3, e4, e5, e6, e7, e8, e9, e10, e11, e12, _⟩ := whome_turn (openS P S k h)
  refine ⟨_, _, t1, deeds0 e5 e9 e10 e11 e12 (by rw [e8]; exact hS), ?_⟩
  rw [e4, e5, e7, e8]
  exact t2
end Lw
set_option Elab.async false
set_option linter.all false
set_option maxRecDepth 100000
set_option maxHeartbeats 4000000
/-! A fresh store: plain law (own work). -/
namespace Lw
open PySem DL
theorem told_at (S : Int) : ∀ {told : Chg} {p : Int}, (told.map (·.1)).Nodup → loAt (told.map fun q => (2 + S + q.1, rowD q.2)) (2 + S + p) = match fA told p with
    | some v => [rowD v]
    | none => []
  | [], _, _ => rfl
  | q :: told, p, nd => by
    rw [List.map_cons, List.nodup_cons] at nd
    have ih := told_at S (p := p) nd.2
    rw [List.map_cons, loAt_cons, fA_cons]
    by_cases e : q.1 = p
    · subst e
      rw [if_pos rfl, if_pos rfl, ih, fA_none.mpr nd.1]
    · rw [if_neg (by show ¬ (2 + S + q.1 = 2 + S + p); omega), if_neg e, ih]
theorem freshK_st {P S : Int} (hP : 0 < P) (hS : 0 < S) {told : Chg} (nd : (told.map (·.1)).Nodup) (hk : ∀ q ∈ told, 0 ≤ q.1 ∧ q.1 < P ∧ q.2.length = 8) : ((freshK P S told).st.length : Int) = 2 + S + P ∧ stAt (freshK P S told).st 0 = hdD 0 0 0 ∧ (∀ p, 0 < p → p < 2 + S → stAt (freshK P S told).st p = .tup []) ∧ ∀ p v, fA told p = some v → 0 ≤ p → p < P → stAt (freshK P S told).st (2 + S + p) = rowD v := by
  have hk1 := frsK_st S told (blank P S)
  have e1 : ((frsK S (blank P S) told).write 0 (hdD 0 0 0)).st = (blank P S).st := hk1.1
  have e2 : ((frsK S (blank P S) told).write 0 (hdD 0 0 0)).lo = (told.map fun q => (2 + S + q.1, rowD q.2)) ++ [(0, hdD 0 0 0)] := by
    show (frsK S (blank P S) told).lo ++ _ = _
    rw [hk1.2]
    rfl
  have hbl : ((blank P S).st.length : Int) = 2 + S + P := by show ((List.replicate _ _).length : Int) = _; rw [List.length_replicate]; omega
  have hin : LoIn ((frsK S (blank P S) told).write 0 (hdD 0 0 0)) := fun q hq => by
    rw [e1]
    rw [e2] at hq
    rcases List.mem_append.mp hq with h | h
    · obtain ⟨r, hr, rfl⟩ := List.mem_map.mp h
      have := hk r hr
      exact ⟨by show 0 ≤ 2 + S + r.1; omega, by show 2 + S + r.1 < _; omega⟩
    · rcases List.mem_singleton.mp h with rfl
      exact ⟨Int.le_refl _, by show (0 : Int) < _; omega⟩
  have blankAt : ∀ p, 0 ≤ p → p < 2 + S + P → stAt (blank P S).st p = .tup [] := fun p h0 h1 => by
    unfold stAt blank
    rw [List.getElem?_replicate, if_pos (by omega)]
    rfl
  have off : ∀ p : Int, p < 2 + S → loAt (told.map fun q => (2 + S + q.1, rowD q.2)) p = [] := fun p h1 => loAt_none fun q hq e => by
    obtain ⟨r, hr, rfl⟩ := List.mem_map.mp hq
    have := hk r hr
    have e : 2 + S + r.1 = p := e
    omega
  have now : ∀ p, 0 ≤ p → stAt (freshK P S told).st p = ((loAt (told.map fun q => (2 + S + q.1, rowD q.2)) p ++ if (0 : Int) = p then [hdD 0 0 0] else []).getLast?).getD (stAt (blank P S).st p) := fun p h0 => by
    unfold freshK
    rw [barrier_st hin h0]
    unfold Dk.now
    rw [e1, e2, loAt_app]
    have : loAt [((0 : Int), hdD 0 0 0)] p = if (0 : Int) = p then [hdD 0 0 0] else [] := by
      rw [loAt_cons]
      rfl
    rw [this]
  refine ⟨?_, ?_, fun p h0 h1 => ?_, fun p v hf h0 h1 => ?_⟩
  · unfold freshK
    rw [bar_len, e1]
    exact hbl
  · rw [now 0 (Int.le_refl _), off 0 (by omega)]
    rfl
  · rw [now p (by omega), off p h1, if_neg (by omega), List.append_nil]
    exact blankAt p (by omega) (by omega)
  · rw [now _ (by omega), told_at S nd, hf, if_neg (by omega)]
    rfl
theorem fresh_head {P S : Int} (hP : 0 < P) (hS : 0 < S) {told : Chg} (nd : (told.map (·.1)).Nodup) (hk : ∀ q ∈ told, 0 ≤ q.1 ∧ q.1 < P ∧ q.2.length = 8) : rdH (freshK P S told) = some (0, 0, 0) := by
  obtain ⟨_, h0, h1, _⟩ := freshK_st hP hS nd hk
  refine rdH_of ?_ (Int.le_refl _) (Int.le_refl _) (Int.le_refl _) fun z => ?_
  · rw [now_nil rfl]; exact h0
  · rw [now_nil rfl, show ((0 : Int) + 1).fmod 2 = 1 from rfl, h1 1 (by omega) (by omega)] at z
    exact absurd z (by decide)
theorem fresh_inv {P S : Int} (hP : 0 < P) (hS : 0 < S) {told : Chg} (nd : (told.map (·.1)).Nodup) (hk : ∀ q ∈ told, 0 ≤ q.1 ∧ q.1 < P ∧ q.2.length = 8) : Inv (openS P S (freshK P S told) (0, 0, 0)) [homeOf (freshK P S told) P S] 0 ∧ (openS P S (freshK P S told) (0, 0, 0)).cells = homeOf (freshK P S told) P S := by
  obtain ⟨hl, _, h1, _⟩ := freshK_st hP hS nd hk
  have r := fresh_head hP hS nd hk
  have C := openS_calm hP hS (k := freshK P S told) rfl hl r
  have nolog : ∀ p, 2 ≤ p → p < 2 + S → isLog ((freshK P S told).now p) = false := fun p h2 h3 => by
    rw [now_nil rfl, h1 p (by omega) h3]
    rfl
  have hg : rdK (freshK P S told) S 0 0 = [] := rdK_none fun z => by
    unfold logF at z
    have m0 := Int.fmod_nonneg_of_pos 0 hS
    have m1 := Int.fmod_lt_of_pos 0 hS
    rw [nolog _ (by omega) (by omega)] at z
    cases z
  have hs : seenK (freshK P S told) S = -1 := by
    have : (logRow (freshK P S told) S).filter isLog = [] := List.filter_eq_nil_iff.mpr fun v hv => by
      obtain ⟨i, hi, rfl⟩ := List.mem_map.mp hv
      have := List.mem_range.mp hi
      rw [nolog _ (by omega) (by omega)]
      exact Bool.noConfusion
    unfold seenK seenI
    rw [this]
    rfl
  have hc : opens P S (freshK P S told) (0, 0, 0) = homeOf (freshK P S told) P S := by
    rw [opens_eq]
    show layC _ (mergedG (rdK (freshK P S told) S 0 0)) = _
    rw [hg]
    rfl
  refine ⟨?_, hc⟩
  rw [← hc]
  refine ⟨_, _, InvX.of_calm C hg ?_ ?_ rfl rfl, deeds0 rfl rfl rfl rfl rfl hS, C.past⟩
  · show 1 + max ((0 : Int) - 1) (seenK (freshK P S told) S) = 0
    rw [hs]
    rfl
  · show (0 : Int) + (chSum (rdK (freshK P S told) S 0 0) : Nat) = 0
    rw [hg]
    rfl
theorem fresh_home {P S : Int} (hP : 0 < P) (hS : 0 < S) {told : Chg} (nd : (told.map (·.1)).Nodup) (hk : ∀ q ∈ told, 0 ≤ q.1 ∧ q.1 < P ∧ q.2.length = 8) {i : Nat} (hi : (i : Int) < P) {v : List Int} (hv : fA told (i : Nat) = some v) : (homeOf (freshK P S told) P S)[i]? = some v := by
  obtain ⟨_, _, _, h2⟩ := freshK_st hP hS nd hk
  unfold homeOf
  rw [List.getElem?_map, List.getElem?_range (by omega)]
  show some (cellsOf ((freshK P S told).now (2 + S + (i : Nat)))) = _
  rw [now_nil rfl, h2 _ v hv (by omega) hi, rowD_cells]
  have hm : ((i : Nat) : Int) ∈ told.map (·.1) := by
    by_cases z : ((i : Nat) : Int) ∈ told.map (·.1)
    · exact z
    · rw [fA_none.mpr z] at hv; cases hv
  have e : getA told (i : Nat) = v := by rw [← fA_getA, hv]; rfl
  rw [← e]
  exact (hk _ (getA_mem hm)).2.2
end Lw
set_option Elab.async false
set_option linter.all false
set_option maxRecDepth 100000
set_option maxHeartbeats 4000000
/-! How a life goes on: plain law (own work). -/
namespace Lw
open PySem DL
/-- the later store: the same beginning, a longer trace, more pushed -/
structure Later (Q T : Sto) : Prop where
  P : T.P = Q.P
  S : T.S = Q.S
  beg : T.beg = Q.beg
  tr : ∃ es, T.tr = Q.tr ++ es
  pu : ∃ ps, T.pu = Q.pu ++ ps
theorem Later.refl (S : Sto) : Later S S := ⟨rfl, rfl, rfl, ⟨[], by simp⟩, ⟨[], by simp⟩⟩
theorem Later.trans {S T U : Sto} (h : Later S T) (k : Later T U) : Later S U := by
  obtain ⟨a, b, c, ⟨es, d⟩, ⟨ps, e⟩⟩ := h
  obtain ⟨a', b', c', ⟨es', d'⟩, ⟨ps', e'⟩⟩ := k
  exact ⟨a'.trans a, b'.trans b, c'.trans c, ⟨es ++ es', by rw [d', d, List.append_assoc]⟩, ⟨ps ++ ps', by rw [e', e, List.append_assoc]⟩⟩
theorem later_settle (S : Sto) : Later S S.settle := ⟨rfl, rfl, rfl, ⟨[.b], rfl⟩, ⟨[], by show S.pu = _; simp⟩⟩
theorem later_whome (S : Sto) : Later S S.whome := by
  rw [whome_eq]
  exact ⟨rfl, rfl, rfl, ⟨_, List.append_assoc _ _ _⟩, ⟨[], by show S.pu = _; simp⟩⟩
theorem later_turn (S : Sto) : Later S S.turn := ⟨rfl, rfl, rfl, ⟨_, List.append_assoc _ _ _⟩, ⟨[], by show S.pu = _; simp⟩⟩
theorem later_lay (S : Sto) : Later S S.lay := by
  unfold Sto.lay
  split
  · exact .refl S
  · exact (later_settle S).trans ((later_whome _).trans (later_turn _))
theorem later_room (S : Sto) (ch : Chg) : Later S (S.room ch) := by
  unfold Sto.room
  split
  · exact later_lay S
  · exact .refl S
theorem later_pend (S : Sto) (b : Int) (ch : Chg) : Later S (S.pend b ch) := by
  rw [pend_ws]
  exact ⟨rfl, rfl, rfl, ⟨_, rfl⟩, ⟨_, rfl⟩⟩
theorem later_push (S : Sto) : Later S S.push := by
  unfold Sto.push
  split
  · exact .refl S
  · exact (later_room S _).trans (later_pend _ _ _)
theorem later_put (S : Sto) (ch : Chg) : Later S (S.put ch) := by
  unfold Sto.put
  split
  · exact .refl S
  · have h : Later S (S.full (srtA ch)) := by
      unfold Sto.full
      split
      · exact later_push S
      · exact .refl S
    exact h.trans ⟨rfl, rfl, rfl, ⟨[], by show (S.full _).tr = _; simp⟩, ⟨[], by show (S.full _).pu = _; simp⟩⟩
theorem later_sync (S : Sto) : Later S S.sync := (later_push S).trans (later_settle _)
/-- the pushed groups' deeds grow -/
structure PuM (S : Sto) : Prop where
  up : S.pu.Pairwise fun a b => a.2.2 < b.2.2
  top : ∀ q ∈ S.pu, 0 < q.2.2 ∧ q.2.2 ≤ S.de - S.rd
theorem PuM.same {S T : Sto} (m : PuM S) (h1 : T.pu = S.pu) (h2 : T.de - T.rd = S.de - S.rd) : PuM T := ⟨by rw [h1]; exact m.up, by rw [h1, h2]; exact m.top⟩
theorem PuM.settle {S : Sto} (m : PuM S) : PuM S.settle := ⟨m.up, m.top⟩
theorem PuM.lay {S : Sto} (m : PuM S) : PuM S.lay := by
  obtain ⟨_, _, e1, e2, _, _, e3, _⟩ := lay_same S
  exact m.same e3 (by rw [e1, e2])
theorem PuM.push {S : Sto} {hist : Hist} {h0 : Int} (m : PuM S) (I : Inv S hist h0) : PuM S.push := by
  unfold Sto.push
  split
  · exact m
  · rename_i hrd
    obtain ⟨sg, off, X, d, _⟩ := I
    have hrdp := d.rdp
    have hdd := d.dd
    have key : PuM (S.room (srtA S.run)) ∧ (S.room (srtA S.run)).de = S.de ∧ (S.room (srtA S.run)).rd = S.rd := by
      unfold Sto.room
      split
      · exact ⟨m.lay, (lay_same S).2.2.1, (lay_same S).2.2.2.1⟩
      · exact ⟨m, rfl, rfl⟩
    obtain ⟨k1, k2, k3⟩ := key
    rw [pend_ws]
    refine ⟨?_, fun q hq => ?_⟩
    · show ((S.room _).pu ++ [_]).Pairwise _
      rw [List.pairwise_append]
      refine ⟨k1.up, List.pairwise_singleton _ _, fun a ha b hb => ?_⟩
      rcases List.mem_singleton.mp hb with rfl
      have := (k1.top a ha).2
      show a.2.2 < (S.room _).de
      omega
    · show 0 < q.2.2 ∧ q.2.2 ≤ (S.room _).de - 0
      rcases List.mem_append.mp hq with h | h
      · have := k1.top q h
        omega
      · rcases List.mem_singleton.mp h with rfl
        show 0 < (S.room _).de ∧ (S.room _).de ≤ (S.room _).de - 0
        omega
theorem PuM.put {S : Sto} {hist : Hist} {h0 : Int} (m : PuM S) (I : Inv S hist h0) (ch : Chg) : PuM (S.put ch) := by
  unfold Sto.put
  split
  · exact m
  · have : PuM (S.full (srtA ch)) := by
      unfold Sto.full
      split
      · exact m.push I
      · exact m
    exact ⟨this.up, fun q hq => by
      have := this.top q hq
      show 0 < q.2.2 ∧ q.2.2 ≤ (S.full _).de + 1 - ((S.full _).rd + 1)
      omega⟩
theorem PuM.nil {S : Sto} (h : S.pu = []) : PuM S := ⟨by rw [h]; exact List.Pairwise.nil, by rw [h]; exact fun q hq => by cases hq⟩
theorem PuM.mono {S : Sto} (m : PuM S) {i j : Nat} (h : i ≤ j) (hj : j ≤ S.pu.length) : deedsB S.pu i ≤ deedsB S.pu j := by
  unfold deedsB
  by_cases e0 : i = 0
  · rw [if_pos e0]; exact Nat.zero_le _
  · rw [if_neg e0, if_neg (by omega)]
    have h1 : i - 1 < S.pu.length := by omega
    have h2 : j - 1 < S.pu.length := by omega
    rw [List.getElem?_eq_getElem h1, List.getElem?_eq_getElem h2]
    show (S.pu[i - 1]).2.2.toNat ≤ (S.pu[j - 1]).2.2.toNat
    by_cases e : i = j
    · subst e; exact Nat.le_refl _
    · have := (List.pairwise_iff_getElem.mp m.up) (i - 1) (j - 1) h1 h2 (by omega)
      omega
/-- so many deeds are settled at a moment -/
def Syn (S : Sto) (e n : Int) : Prop := 0 ≤ e ∧ e ≤ S.tr.length ∧ ∃ g, g ≤ S.pu.length ∧ (deedsB S.pu g : Int) = n ∧ g ≤ wr S.pu (lastB (S.tr.take e.toNat))
theorem Syn.later {S T : Sto} {e n : Int} (h : Syn S e n) (l : Later S T) : Syn T e n := by
  obtain ⟨a, b, g, c, d, f⟩ := h
  obtain ⟨es, he⟩ := l.tr
  obtain ⟨ps, hp⟩ := l.pu
  refine ⟨a, by rw [he, List.length_append]; omega, g, by rw [hp, List.length_append]; omega, by rw [hp, deedsB_app _ c]; exact d, ?_⟩
  rw [hp, wr_app, he, List.take_append_of_le_length (by omega)]
  omega
theorem lastB_mono (tr es : List Ev) : lastB tr ≤ lastB (tr ++ es) := by
  refine list_snoc (fun es => lastB tr ≤ lastB (tr ++ es)) (by rw [List.append_nil]; exact Nat.le_refl _) (fun l a ih => ?_) es
  rw [← List.append_assoc]
  cases a with
  | b =>
    rw [lastB_b, List.length_append]
    have := lastB_le tr
    omega
  | w p v => rw [lastB_w]; exact ih
theorem lastB_take_mono (tr : List Ev) {i j : Nat} (h : i ≤ j) : lastB (tr.take i) ≤ lastB (tr.take j) := by
  have := lastB_mono ((tr.take j).take i) ((tr.take j).drop i)
  rwa [List.take_append_drop, List.take_take, Nat.min_eq_left h] at this
theorem push_rd (S : Sto) : S.push.rd = 0 := by
  unfold Sto.push
  split
  · rename_i h; exact h
  · rfl
theorem push_de (S : Sto) : S.push.de = S.de := by
  unfold Sto.push
  split
  · rfl
  · rw [pend_ws]
    show (S.room _).de = S.de
    unfold Sto.room
    split
    · exact (lay_same S).2.2.1
    · rfl
theorem Syn.sync {S : Sto} {hist : Hist} {h0 : Int} (I : Inv S hist h0) : Syn S.sync S.sync.tr.length S.de := by
  obtain ⟨sg, off, X, d, _⟩ := I.push
  have X2 := X.settle d
  refine ⟨by omega, Int.le_refl _, S.sync.pu.length, Nat.le_refl _, ?_, ?_⟩
  · have := d.dd
    show (deedsB S.push.pu S.push.pu.length : Int) = S.de
    rw [push_rd, push_de] at this
    omega
  · have := X2.puw
    rw [Int.toNat_natCast, List.take_length]
    have e : off + S.push.grs.length = S.push.pu.length := X.pul
    show S.push.pu.length ≤ wr S.push.settle.pu (lastB S.push.settle.tr)
    rw [this]
    omega
/-- what a fall opens to has so many deeds at least -/
theorem Syn.open_ {S : Sto} {e n : Int} (h : Syn S e n) (m : PuM S) {mo : Nat} (h1 : e ≤ mo) (h2 : mo ≤ S.tr.length) (lo : List (Int × D)) (cs : List (Int × Int)) : n ≤ (deedsB S.pu (opened (lastB (S.tr.take mo)) mo lo S.pu cs) : Int) := by
  obtain ⟨a, b, g, c, d, f⟩ := h
  have h3 := lastB_take S.tr h2
  have h4 := opened_le h3 lo S.pu cs
  have h5 := wr_mono S.pu (lastB_take_mono S.tr (show e.toNat ≤ mo by omega))
  have := m.mono (i := g) (j := opened (lastB (S.tr.take mo)) mo lo S.pu cs) (by omega) (by have := wr_le S.pu mo; omega)
  omega
end Lw
set_option Elab.async false
set_option linter.all false
set_option maxRecDepth 100000
set_option maxHeartbeats 4000000
/-! Draws; the choice of a fall (own work). -/
namespace Lw
open PySem DL
theorem Nx1.refl {ns : List Int} {A : AH} (h : Drw ns A) : Nx1 A A := by
  obtain ⟨n, h0, e⟩ := h.d
  refine ⟨n, h0, ?_⟩
  apply List.ext_getElem?
  intro i
  by_cases z : 1 = i
  · subst z
    rw [List.getElem?_set_self h.lt, e]
  · rw [List.getElem?_set_ne z]
theorem Nx1.trans {A B C : AH} (x : Nx1 A B) (y : Nx1 B C) : Nx1 A C := by
  obtain ⟨n, h0, rfl⟩ := x
  obtain ⟨m, h1, rfl⟩ := y
  exact ⟨m, h1, by rw [List.set_set]⟩
theorem Nx1.split {A G B : AH} (l : 1 < A.length) (x : Nx1 (A ++ G) B) : ∃ A', B = A' ++ G ∧ Nx1 A A' := by
  obtain ⟨n, h0, rfl⟩ := x
  exact ⟨_, by rw [List.set_append_left _ _ l], n, h0, rfl⟩
theorem set_at {A A' G : AH} {o o' : O} (h : A'.length = A.length) : (A' ++ o :: G).set A.length o' = A' ++ o' :: G := by
  rw [← h]
  exact set_mid _ _ _ _
theorem get_at {A A' G : AH} {o : O} (h : A'.length = A.length) : (A' ++ o :: G)[A.length]? = some o := by
  rw [← h]
  exact at_mid _ _ _
theorem Nx1.okPre {A B : AH} (x : Nx1 A B) (l : 1 < A.length) : okPre A B := by
  obtain ⟨n, h0, rfl⟩ := x
  exact okPre_set l (by simp [O.bd]; omega)
theorem gc_nx1 {A B : AH} {d : D} (x : Nx1 A B) (l : 1 < A.length) (G : AH) (hd : d.bd A.length = true) : gc A d (B ++ G) = .ok d B := by
  have e : (B ++ G).take A.length = B := by rw [← x.len, List.take_left]
  rw [gc_val hd (by rw [e]; exact x.okPre l), e]
theorem gcE_nx1 {A B : AH} {E : DL.Env} (x : Nx1 A B) (l : 1 < A.length) (G : AH) (h : envBd A.length E = true) : gcE A E (B ++ G) = B := by
  have e : (B ++ G).take A.length = B := by rw [← x.len, List.take_left]
  rw [gcE_ok' h (by rw [e]; exact x.okPre l), e]
theorem gcE_nx1' {A B : AH} {E : DL.Env} (x : Nx1 A B) (l : 1 < A.length) (h : envBd A.length E = true) : gcE A E B = B := by
  have := gcE_nx1 x l [] h
  rwa [List.append_nil] at this
theorem gc_new1 {A B G : AH} {j : Nat} {o : O} (x : Nx1 A B) (l : 1 < A.length) (e : G[j]? = some o) (m : o.mut = true) (h : o.bd A.length = true) : gc A (.ref (A.length + j)) (B ++ G) = .ok (.ref A.length) (B ++ [o]) := by
  have e1 : (B ++ G).take A.length = B := by rw [← x.len, List.take_left]
  unfold gc
  rw [if_neg (fun z => by have q := z.1; rw [bd_ref, decide_eq_true_eq] at q; omega)]
  have : refO A (B ++ G) (.ref (A.length + j)) = some o := by
    show (if A.length ≤ A.length + j then (B ++ G)[A.length + j]? else none) = _
    rw [if_pos (by omega), ← x.len, List.getElem?_append_right (by omega), show B.length + j - B.length = j by omega]
    exact e
  rw [this]
  unfold gcO
  dsimp only
  rw [if_pos ⟨m, h, by rw [e1]; exact x.okPre l⟩, e1]
/-! dicts of ints -/
def putI (kvs : List (Int × Int)) (k v : Int) : List (Int × Int) := if (kvs.any fun q => decide (q.1 = k)) = true then kvs.map (fun q => if q.1 = k then (q.1, v) else q) else kvs ++ [(k, v)]
theorem putF_chD (kvs : List (Int × Int)) (k v : Int) : putF' keyD (kvs.map chD) (.int k) (.int v) = (putI kvs k v).map chD := by
  have h1 : ((kvs.map chD).any fun p => keqF keyD p.1 (.int k)) = kvs.any fun q => decide (q.1 = k) := by
    rw [List.any_map]
    congr 1
    funext q
    simp [chD]
  unfold putF' putI
  rw [h1]
  split
  · rw [List.map_map, List.map_map]
    congr 1
    funext q
    simp only [Function.comp, chD, keqF_int, decide_eq_true_eq]
    by_cases z : q.1 = k <;> simp [z]
  · rw [List.map_append]
    rfl
def mergeI (kvs more : List (Int × Int)) : List (Int × Int) := more.foldl (fun acc q => putI acc q.1 q.2) kvs
theorem mergeF_chD : ∀ (more kvs : List (Int × Int)), mergeF (kvs.map chD) (more.map chD) = (mergeI kvs more).map chD
  | [], _ => rfl
  | q :: more, kvs => by
    show mergeF (putF' keyD (kvs.map chD) (.int q.1) (.int q.2)) (more.map chD) = _
    rw [putF_chD]
    exact mergeF_chD more (putI kvs q.1 q.2)
theorem putI_mem {kvs : List (Int × Int)} {k v : Int} {q : Int × Int} (h : q ∈ putI kvs k v) : q ∈ kvs ∨ q = (k, v) := by
  unfold putI at h
  split at h
  · obtain ⟨r, hr, rfl⟩ := List.mem_map.mp h
    split
    · rename_i e
      right
      rw [e]
    · exact .inl hr
  · rcases List.mem_append.mp h with h | h
    · exact .inl h
    · exact .inr (List.mem_singleton.mp h)
theorem putI_nd {kvs : List (Int × Int)} {k v : Int} (h : (kvs.map (·.1)).Nodup) : ((putI kvs k v).map (·.1)).Nodup := by
  unfold putI
  split
  · rw [List.map_map]
    have : ((fun x : Int × Int => x.1) ∘ fun q : Int × Int => if q.1 = k then (q.1, v) else q) = fun q => q.1 := by
      funext q
      show (if q.1 = k then (q.1, v) else q).1 = q.1
      split <;> rfl
    rw [this]
    exact h
  · rename_i z
    rw [List.map_append, List.nodup_append]
    refine ⟨h, List.nodup_cons.mpr ⟨fun e => (by cases e), List.nodup_nil⟩, fun a ha b hb e => ?_⟩
    have hb : b = k := List.mem_singleton.mp hb
    refine z ?_
    obtain ⟨q, hq, e2⟩ := List.mem_map.mp ha
    exact List.any_eq_true.mpr ⟨q, hq, decide_eq_true (by rw [e2, e, hb])⟩
theorem mergeI_ok {P : Int × Int → Prop} : ∀ {more kvs : List (Int × Int)}, (∀ q ∈ kvs, P q) → (∀ q ∈ more, P q) → (kvs.map (·.1)).Nodup → (∀ q ∈ mergeI kvs more, P q) ∧ ((mergeI kvs more).map (·.1)).Nodup
  | [], kvs, h, _, nd => ⟨h, nd⟩
  | q :: more, kvs, h, k, nd => mergeI_ok (more := more) (kvs := putI kvs q.1 q.2) (fun r hr => by
      rcases putI_mem hr with e | e
      · exact h r e
      · rw [e]; exact k q List.mem_cons_self) (fun r hr => k r (List.mem_cons_of_mem _ hr)) (putI_nd nd)
theorem mergeI_len : ∀ (more kvs : List (Int × Int)), (mergeI kvs more).length ≤ kvs.length + more.length
  | [], _ => by simp [mergeI]
  | q :: more, kvs => by
    have h1 := mergeI_len more (putI kvs q.1 q.2)
    have h2 : (putI kvs q.1 q.2).length ≤ kvs.length + 1 := by
      unfold putI
      split <;> simp
    show (mergeI (putI kvs q.1 q.2) more).length ≤ _
    simp only [List.length_cons]
    omega
def pI (q : Int × Int) : D := .tup [.int q.1, .int q.2]
theorem pI_pairs (ps : List (Int × Int)) : allSome ((ps.map pI).map pairD) = some (ps.map chD) := by
  induction ps with
  | nil => rfl
  | cons q ps ih =>
    rw [List.map_cons, List.map_cons]
    have e : pairD (pI q) = some (chD q) := rfl
    rw [e]
    simp only [allSome]
    rw [ih]
    rfl
theorem ch_bd (n : Nat) (cs : List (Int × Int)) : (O.dic (cs.map chD)).bd n = true := by
  simp [O.bd, chD]
theorem vers_len (k : Dk) (p : Int) : (k.vers p).length = (loAt k.lo p).length + (if loAt k.lo p = [] then 1 else 2) := by
  unfold Dk.vers versL
  by_cases h : loAt k.lo p = []
  · rw [h]; rfl
  · have : (loAt k.lo p).isEmpty = false := by
      cases e : loAt k.lo p with
      | nil => exact absurd e h
      | cons _ _ => rfl
    rw [this, if_neg h]
    simp
theorem loAt_ne {lo : List (Int × D)} {q : Int × D} (h : q ∈ lo) : loAt lo q.1 ≠ [] := fun e => by
  have : q.2 ∈ loAt lo q.1 := List.mem_map.mpr ⟨q, List.mem_filter.mpr ⟨h, by simp⟩, rfl⟩
  rw [e] at this
  cases this
theorem choice_sat {ns : List Int} {A : AH} {d : Nat} {k : Dk} (h : Drw ns A) (hd : A[d]? = some (dkO k)) (gA : ∀ A, DkG A k) : (F_L_choice [.ref 1, .ref d] A).sat fun r B => ∃ (cs : List (Int × Int)) (A' : AH), (cs.map (·.1)).Nodup ∧ (∀ q ∈ cs, chOk k q) ∧ r = .ref A.length ∧ Nx1 A A' ∧ B = A' ++ [.dic (cs.map chD)] := by
  refine sat_def rfl ?_
  have hd1 : d ≠ 1 := fun e => by
    obtain ⟨n, _, e2⟩ := h.d
    rw [e, e2] at hd
    cases hd
  have hd' : A[d]? = some (.ins 0 [(0, .tup k.st), (1, .tup (k.lo.map prD))]) := hd
  have hdi : isIns 0 A (.ref d) = true := isIns_of hd
  have hfew := (gA A).few
  simp only [b_L_choice, startE]
  simp [hd']
  refine lc_sat k.lo.length (fun j B => ∃ (A' G : AH) (ps : List (Int × Int)), Nx1 A A' ∧ B = A' ++ .lst (ps.map pI) :: G ∧ ps.length = j ∧ ∀ q ∈ ps, chOk k q) (by simp [Src.size]) ⟨A, [], [], .refl h, rfl, rfl, fun q hq => (by cases hq)⟩ ?_ ?_
  · rintro j B hj ⟨A', G, ps, x, rfl, hl, hps⟩
    obtain ⟨q, hq⟩ : ∃ q, k.lo[j]? = some q := ⟨_, List.getElem?_eq_getElem hj⟩
    have hqm := List.mem_of_getElem? hq
    obtain ⟨q0, q1, _⟩ := (gA A).lo q hqm
    refine ⟨prD q, [some (D.ref 1), some (.ref d), some (prD q)], A' ++ .lst (ps.map pI) :: G, seq_at (by rw [List.getElem?_map, hq]; rfl) _, rfl, ?_⟩
    have hdA : ∀ G : AH, (A' ++ G)[d]? = some (dkO k) := fun G => get_left ((x.get hd1).trans hd)
    have hv := versions_ok (hdA (.lst (ps.map pI) :: G)) (gA _) q0 q1
    have a0 : ∀ C : AH, opIx [prD q, .int 0] C = .ok (.int q.1) C := fun _ => rfl
    have hi : isIns 0 (A' ++ .lst (ps.map pI) :: G) (.ref d) = true := isIns_of (hdA _)
    have hl3 := vers_len k q.1
    rw [if_neg (loAt_ne hqm)] at hl3
    simp [a0, hi, cl, hv, hl3]
    refine ⟨fun _ => ?_, by simp [line]⟩
    have hlA := x.len
    have hjj : (A' ++ O.lst (ps.map pI) :: (G ++ [O.lst [D.int 0, D.int (loAt k.lo q.1).length, D.int (-1)]]))[A'.length + (G.length + 1)]? = some (.lst [D.int 0, D.int (loAt k.lo q.1).length, D.int (-1)]) := by
      rw [List.getElem?_append_right (by omega), show A'.length + (G.length + 1) - A'.length = G.length + 1 by omega, List.getElem?_cons_succ]
      simp
    have hlt := h.lt
    refine (pick_sat ((h.nx x).app _) hjj (by omega) (by simp) (by simp)).mono ?_
    rintro v C ⟨hv, y⟩
    obtain ⟨A2, rfl, x2⟩ := y.split (h.nx x).lt
    obtain ⟨w, rfl, hw⟩ : ∃ w : Int, v = .int w ∧ chOk k (q.1, w) := by
      have hne := loAt_ne hqm
      rcases List.mem_cons.mp hv with rfl | hv
      · exact ⟨0, rfl, q0, q1, .inr ⟨Int.le_refl _, by omega⟩⟩
      · rcases List.mem_cons.mp hv with rfl | hv
        · exact ⟨_, rfl, q0, q1, .inr ⟨by omega, Int.le_refl _⟩⟩
        · rcases List.mem_singleton.mp hv with rfl
          exact ⟨-1, rfl, q0, q1, .inl ⟨rfl, hne⟩⟩
    have hl2 : A2.length = A.length := x2.len.trans hlA
    refine ⟨fun _ => ⟨ps.map pI, get_at hl2, by rw [List.length_map]; simp only [line]; omega, A2, x.trans x2, G ++ [O.lst [D.int 0, D.int (loAt k.lo q.1).length, D.int (-1)]], ps ++ [(q.1, w)], ?_, by simp [hl], ?_⟩, by simp [line]⟩
    · rw [set_at hl2, List.map_append]
      rfl
    · intro a b hab
      rcases List.mem_append.mp hab with e | e
      · exact hps _ e
      · rcases List.mem_singleton.mp e with e
        cases e
        exact hw
  · rintro B ⟨A', G, ps, x, rfl, hl, hps⟩
    refine ⟨by rw [← List.length_map (f := prD)]; exact seq_end _ _, ?_⟩
    have hlA := x.len
    have hpp := pI_pairs ps
    rw [List.map_map] at hpp
    obtain ⟨m1, m2⟩ := mergeI_ok (P := chOk k) (kvs := []) (more := ps) (fun q hq => by cases hq) hps List.nodup_nil
    simp [get_at hlA, hpp]
    have em : mergeF [] (ps.map chD) = (mergeI [] ps).map chD := mergeF_chD ps []
    rw [em]
    have hg := gc_new1 (A := A) (G := O.lst (ps.map pI) :: (G ++ [O.dic ((mergeI [] ps).map chD)])) (j := G.length + 1) (o := O.dic ((mergeI [] ps).map chD)) x h.lt (by simp) rfl (ch_bd _ _)
    rw [show A'.length + (G.length + 1) = A.length + (G.length + 1) by omega, hg]
    exact ⟨mergeI [] ps, m2, fun a b hab => m1 _ hab, rfl, A', x, rfl⟩
end Lw
set_option Elab.async false
set_option linter.all false
set_option maxRecDepth 100000
set_option maxHeartbeats 4000000
/-! The law's own heap: stores, dicts, draws (own work). -/
namespace Lw
open PySem DL
/-- good in whatever heap -/
def SGA (N : Nat) (S : Sto) : Prop := ∀ A, SG A N S
theorem freshK_g (A : AH) {P S : Int} (hP0 : 0 < P) (hP1 : P ≤ 100) (hS0 : 0 < S) (hS1 : S ≤ 100) {told : Chg} (hl : told.length ≤ 1000) (hk : ∀ q ∈ told, 0 ≤ q.1 ∧ q.1 < P ∧ q.2.length = 8) : DkG A (freshK P S told) := by
  have hk1 := frsK_st S told (blank P S)
  have e1 : ((frsK S (blank P S) told).write 0 (hdD 0 0 0)).st = (blank P S).st := hk1.1
  have e2 : ((frsK S (blank P S) told).write 0 (hdD 0 0 0)).lo = (told.map fun q => (2 + S + q.1, rowD q.2)) ++ [(0, hdD 0 0 0)] := by
    show (frsK S (blank P S) told).lo ++ _ = _
    rw [hk1.2]
    rfl
  have hbl : ((blank P S).st.length : Int) = 2 + S + P := by show ((List.replicate _ _).length : Int) = _; rw [List.length_replicate]; omega
  refine DkG.bar ⟨?_, ?_, ?_, ?_⟩
  · rw [e1]
    intro v hv
    rw [List.eq_of_mem_replicate hv]
    exact .inr (.inl ⟨[], rfl, rfl, by decide⟩)
  · rw [e1, e2]
    intro q hq
    rcases List.mem_append.mp hq with h | h
    · obtain ⟨r, hr, rfl⟩ := List.mem_map.mp h
      have := hk r hr
      exact ⟨by show 0 ≤ 2 + S + r.1; omega, by show 2 + S + r.1 < _; omega, row_PV A (by omega)⟩
    · rcases List.mem_singleton.mp h with rfl
      exact ⟨Int.le_refl _, by show (0 : Int) < _; omega, hd_PV A 0 0 0⟩
  · rw [e2, List.length_append, List.length_map, List.length_singleton]
    omega
  · rw [e1]; omega
theorem SGA.beg {N : Nat} {S : Sto} (h : SGA N S) {m : Nat} (hN : S.beg.lo.length + N ≤ 1000000) (A : AH) : DkG A (S.beg.evs (S.tr.take m)) := by
  have g := h A
  have hl := g.len
  have hb := g.blen
  have e0 : S.dev.st.length = S.beg.st.length := by omega
  exact g.beg.evs (fun e he => by rw [← e0]; exact g.tr e (List.mem_of_mem_take he)) (by have := g.trl; rw [List.length_take]; omega)
theorem SGA.put {N : Nat} {S : Sto} (h : SGA N S) {ch : Chg} (hc : ChgG S.P ch) (hN : N + 2005 ≤ 1000000) : SGA (N + 2005) (S.put ch) := fun A => (h A).put hc hN
theorem SGA.push {N : Nat} {S : Sto} (h : SGA N S) (hN : N + 2005 ≤ 1000000) : SGA (N + 2005) S.push := fun A => (h A).push hN
theorem SGA.sync {N : Nat} {S : Sto} (h : SGA N S) (hN : N + 2006 ≤ 1000000) : SGA (N + 2006) S.sync := fun A => ((h A).push (by omega)).settle
theorem SGA.lay {N : Nat} {S : Sto} (h : SGA N S) (hN : N + 1004 ≤ 1000000) : SGA (N + 1004) S.lay := fun A => (h A).lay hN
theorem SGA.mono {N M : Nat} {S : Sto} (h : SGA N S) (hN : N ≤ M) : SGA M S := fun A => (h A).mono hN
/-! letting go behind a statement -/
theorem gc_gcE {A B : AH} {E : DL.Env} (h : envBd A.length E = true) : gc A .non B = .ok .non (gcE A E B) := by
  unfold gc gcE
  by_cases p : okPre A (B.take A.length)
  · rw [if_pos ⟨by simp, p⟩, if_pos ⟨h, p⟩]
  · rw [if_neg (fun z => p z.2), if_neg (fun z => p z.2)]
    rfl
theorem gcE_sto {A B : AH} {E : DL.Env} {x y : SX} {S S' : Sto} (hA : StoAt A x S) (hs : y.s = x.s) (hB : StoAt B y S') (hle : A.length ≤ B.length) : StoAt (gcE A E B) y S' ∧ (gcE A E B = B ∨ gcE A E B = B.take A.length) := by
  cases h : envBd A.length E with
  | false => rw [gcE_keep h]; exact ⟨hB, .inl rfl⟩
  | true =>
    have := gc_sto (P := fun _ C => StoAt C y S' ∧ (C = B ∨ C = B.take A.length)) hA hs hB (fun C h1 h2 => ⟨h2, h1.imp id (·.1)⟩) hle
    rw [gc_gcE h] at this
    exact this
/-- what stands low stays, whatever is let go -/
theorem low_of {B C : AH} {n j : Nat} {o : O} (h : C = B ∨ C = B.take n) (hj : j < n) (e : B[j]? = some o) : C[j]? = some o := by
  rcases h with rfl | rfl
  · exact e
  · rw [List.getElem?_take, if_pos hj]; exact e
theorem Drw.low {ns : List Int} {B C : AH} {n : Nat} (h : C = B ∨ C = B.take n) (hn : 1 < n) (D' : Drw ns B) : Drw ns C := ⟨low_of h (by omega) D'.s, by
  obtain ⟨m, h0, e⟩ := D'.d
  exact ⟨m, h0, low_of h hn e⟩⟩
theorem Fr.drw {ns : List Int} {A B : AH} {x : SX} {r : Nat} {S : Sto} (f : Fr A B x r) (h : StoAt A x S) (D' : Drw ns A) : Drw ns B := by
  obtain ⟨m, h0, e⟩ := D'.d
  have k : ∀ (j : Nat) (o : O), A[j]? = some o → (∀ fs, o ≠ O.ins 1 fs) → (∀ fs, o ≠ O.ins 0 fs) → (∀ kvs, o ≠ O.dic kvs) → B[j]? = some o := fun j o ej h1 h2 h3 => by
    refine f.keep j o ej (fun z => ?_) (fun z => ?_) (fun z => ?_) fun z => ?_
    · rw [z, h.s] at ej; exact h1 _ (Option.some.inj ej).symm
    · rw [z, h.d] at ej; exact h2 _ (Option.some.inj ej).symm
    · rw [z, h.c] at ej; exact h3 _ (Option.some.inj ej).symm
    · rw [z, h.r] at ej; exact h3 _ (Option.some.inj ej).symm
  exact ⟨k 0 _ D'.s (fun _ z => by cases z) (fun _ z => by cases z) (fun _ z => by cases z), m, h0, k 1 _ e (fun _ z => by cases z) (fun _ z => by cases z) (fun _ z => by cases z)⟩
theorem Nx1.sto {ns : List Int} {A B : AH} {x : SX} {S : Sto} (n : Nx1 A B) (d : Drw ns A) (h : StoAt A x S) : StoAt B x S := by
  obtain ⟨m, h0, e⟩ := d.d
  refine ⟨(n.get fun z => ?_).trans h.s, (n.get fun z => ?_).trans h.b, (n.get fun z => ?_).trans h.d, (n.get fun z => ?_).trans h.c, (n.get fun z => ?_).trans h.r, h.ne⟩
  · have := h.s; rw [z, e] at this; cases this
  · have := h.b; rw [z, e] at this; cases this
  · have := h.d; rw [z, e] at this; cases this
  · have := h.c; rw [z, e] at this; cases this
  · have := h.r; rw [z, e] at this; cases this
/-! dicts told alike -/
theorem fA_of_mem {l : Chg} (nd : (l.map (·.1)).Nodup) {q : Int × List Int} (h : q ∈ l) : fA l q.1 = some q.2 := by
  induction l with
  | nil => cases h
  | cons r l ih =>
    rw [List.map_cons, List.nodup_cons] at nd
    rw [fA_cons]
    rcases List.mem_cons.mp h with rfl | h
    · rw [if_pos rfl]
    · rw [if_neg (fun e => nd.1 (List.mem_map.mpr ⟨q, h, e.symm⟩)), ih nd.2 h]
theorem eqPs_dicA (A : AH) (l : Chg) : ∀ r : Chg, (∀ q ∈ r, fA l q.1 = some q.2) → eqPs A (dicA l) (dicA r) = some true
  | [], _ => rfl
  | q :: r, h => by
    have hq := h q List.mem_cons_self
    have hm : q.1 ∈ l.map (·.1) := by
      by_cases z : q.1 ∈ l.map (·.1)
      · exact z
      · rw [fA_none.mpr z] at hq; cases hq
    have hg : getA l q.1 = q.2 := by rw [← fA_getA, hq]; rfl
    show (match valF keyD (dicA l) (.int q.1) with
      | none => some false
      | some u => match toPy A 60 (.tup (q.2.map D.int)), toPy A 60 u, eqPs A (dicA l) (dicA r) with
        | some a, some b, some c => some (PyData.eqv a b && c)
        | _, _, _ => none) = some true
    rw [valF_dicA _ _ hm, hg, eqPs_dicA A l r fun s hs => h s (List.mem_cons_of_mem _ hs)]
    have hp : toPy A 60 (.tup (q.2.map D.int)) = some (D.py (.tup (q.2.map D.int))) := toPy_pur (by rw [pur_tup]; exact purs_ints 58 _)
    simp only [hp, eqv_same, Bool.and_self]
theorem eqDD_self {A : AH} {i j : Nat} {l r : Chg} (hi : A[i]? = some (.dic (dicA l))) (hj : A[j]? = some (.dic (dicA r))) (nd : (l.map (·.1)).Nodup) (e : l = r) (f : Bool → Bool) : eqDD f [.ref i, .ref j] A = .ok (.bl (f true)) A := by
  subst e
  show eqDO A f A[i]? A[j]? = _
  rw [hi, hj]
  show okB A (fun b => f ((dicA l).length == (dicA l).length && b)) (eqPs A (dicA l) (dicA l)) = _
  rw [eqPs_dicA A l l fun q hq => fA_of_mem nd hq]
  simp [okB]
theorem mergeF_dicA : ∀ (more kvs : Chg), mergeF (dicA kvs) (dicA more) = dicA (mergeA kvs more)
  | [], _ => rfl
  | q :: more, kvs => by
    show mergeF (putF' keyD (dicA kvs) (.int q.1) (.tup (q.2.map D.int))) (dicA more) = _
    rw [putF_dicA]
    exact mergeF_dicA more (putA kvs q.1 q.2)
theorem mergeA_app : ∀ (more kvs : Chg), ((kvs ++ more).map (·.1)).Nodup → mergeA kvs more = kvs ++ more
  | [], kvs, _ => by rw [List.append_nil]; rfl
  | q :: more, kvs, h => by
    have hq : q.1 ∉ kvs.map (·.1) := fun z => by
      rw [List.map_append, List.nodup_append] at h
      exact h.2.2 q.1 z q.1 List.mem_cons_self rfl
    have e : putA kvs q.1 q.2 = kvs ++ [q] := by
      unfold putA
      rw [if_neg]
      intro z
      obtain ⟨r, hr, e⟩ := List.any_eq_true.mp z
      exact hq (List.mem_map.mpr ⟨r, hr, by simpa using e⟩)
    show mergeA (putA kvs q.1 q.2) more = _
    rw [e, mergeA_app more (kvs ++ [q]) (by rw [List.append_assoc]; exact h), List.append_assoc]
    rfl
/-- a list of pairs, as a list of tuples -/
theorem cg_pairs (l : Chg) : allSome ((l.map cgD).map pairD) = some (dicA l) := by
  induction l with
  | nil => rfl
  | cons q l ih =>
    rw [List.map_cons, List.map_cons]
    have e : pairD (cgD q) = some (.int q.1, .tup (q.2.map D.int)) := rfl
    rw [e]
    simp only [allSome]
    rw [ih]
    rfl
/-- dict(list of pairs) -/
theorem dict_of {A : AH} {i : Nat} {l : Chg} (h : A[i]? = some (.lst (l.map cgD))) (nd : (l.map (·.1)).Nodup) : biDictX [.ref i] A = .ok (.ref A.length) (A ++ [.dic (dicA l)]) := by
  have h1 : isDic A (.ref i) = false := by simp [isDic, h]
  have h2 : seqAt A i = some (l.map cgD) := by unfold seqAt; rw [h]; rfl
  rw [ev_dictX h1, ev_dictP, h2, ev_dicLO, cg_pairs, ev_dicPO]
  have : mergeF [] (dicA l) = dicA l := by
    have := mergeF_dicA l []
    rw [mergeA_app l [] (by simpa using nd)] at this
    exact this
  rw [this]
/-- the same cells on every plate -/
def unif (P : Int) (r : List Int) : Chg := (List.range P.toNat).map fun (i : Nat) => ((i : Int), r)
theorem unif_keys (P : Int) (r : List Int) : (unif P r).map (·.1) = (List.range P.toNat).map fun (i : Nat) => (i : Int) := by
  unfold unif
  rw [List.map_map]
  rfl
theorem unif_nd (P : Int) (r : List Int) : ((unif P r).map (·.1)).Nodup := by
  rw [unif_keys]
  refine List.pairwise_map.mpr (List.nodup_range.imp fun h e => h ?_)
  omega
theorem unif_len (P : Int) (r : List Int) : (unif P r).length = P.toNat := by unfold unif; simp
theorem unif_fA {P : Int} {r : List Int} {i : Nat} (h : (i : Int) < P) : fA (unif P r) (i : Nat) = some r :=
  fA_of_mem (unif_nd P r) (q := ((i : Int), r)) (List.mem_map.mpr ⟨i, List.mem_range.mpr (by omega), rfl⟩)
theorem unif_mem {P : Int} {r : List Int} {q : Int × List Int} (h : q ∈ unif P r) : 0 ≤ q.1 ∧ q.1 < P ∧ q.2 = r := by
  obtain ⟨i, hi, rfl⟩ := List.mem_map.mp h
  have := List.mem_range.mp hi
  exact ⟨by show (0 : Int) ≤ (i : Int); omega, by show (i : Int) < P; omega, rfl⟩
theorem unif_g {P : Int} {r : List Int} (hP : P ≤ 100) (h8 : r.length = 8) : ChgG P (unif P r) := ⟨fun q hq => by
  obtain ⟨a, b, c⟩ := unif_mem hq
  exact ⟨a, b, by rw [c]; exact h8⟩, by rw [unif_len]; omega, unif_nd P r⟩
theorem cells_unif (r : List Int) : ∀ (n k : Nat), cellsA k (List.replicate n r) = (List.range' k n).map fun (i : Nat) => ((i : Int), r)
  | 0, k => rfl
  | n + 1, k => by
    rw [List.replicate_succ, List.range'_succ, List.map_cons]
    show ((k : Int), r) :: cellsA (k + 1) (List.replicate n r) = _
    rw [cells_unif r n (k + 1)]
theorem cells_unif0 (P : Int) (r : List Int) : cellsA 0 (List.replicate P.toNat r) = unif P r := by
  rw [cells_unif]
  unfold unif
  rw [List.range_eq_range']
theorem layC_unif {P : Int} {r : List Int} {cs : List (List Int)} (hl : cs.length = P.toNat) : layC cs (srtA (unif P r)) = List.replicate P.toNat r := by
  rw [layC_srt (unif_nd P r) fun q hq => (unif_mem hq).1]
  refine List.ext_getElem? fun i => ?_
  by_cases hi : i < P.toNat
  · have e : cs[i]? = some (cs[i]'(by omega)) := List.getElem?_eq_getElem (by omega)
    rw [layC_nd e (fun q hq => (unif_mem hq).1) (unif_nd P r), unif_fA (by omega), List.getElem?_replicate, if_pos hi]
    rfl
  · rw [List.getElem?_eq_none (by rw [layC_len]; omega), List.getElem?_eq_none (by rw [List.length_replicate]; omega)]
end Lw
set_option Elab.async false
set_option linter.all false
set_option maxRecDepth 100000
set_option maxHeartbeats 4000000
/-! The law's beginning (own work). -/
namespace Lw
open PySem DL
abbrev E0 (e2 e3 e4 e5 e6 e7 e8 e9 e10 : Option D) : DL.Env := [some (.ref 0), some (.ref 1), e2, e3, e4, e5, e6, e7, e8, e9, e10, none, none, none]
def r8 (n : Int) : List Int := List.replicate 8 n
theorem r8_len (n : Int) : (r8 n).length = 8 := List.length_replicate
def HomeN (P : Int) (i : Int) : List (List Int) := List.replicate P.toNat (r8 i)
structure W7 (ns : List Int) (P S : Int) (A : AH) (x : SX) (j : Nat) (Q : Sto) (hist : Hist) (syn : List (Int × Int)) (N : Nat) : Prop where
  drw : Drw ns A
  sto : StoAt A x Q
  sga : SGA N Q
  eP : Q.P = P
  eS : Q.S = S
  inv : Inv Q hist 0
  pum : PuM Q
  lst : A[j]? = some (.lst (syn.map pI))
  syn0 : ∃ t, syn = (0, 0) :: t
  synl : syn.length ≤ 20
  syns : ∀ q ∈ syn, Syn Q q.1 q.2
  homes : ∀ (i : Nat) h, hist[i]? = some h → h = HomeN P i
def P0 (ns : List Int) (E : DL.Env) (A : AH) : Prop := E = E0 none none none none none none none none none ∧ A.length = 2 ∧ Drw ns A
def P1 (ns : List Int) (P : Int) (E : DL.Env) (A : AH) : Prop := (P = 2 ∨ P = 3 ∨ P = 5) ∧ E = E0 (some (.int P)) none none none none none none none none ∧ A.length = 2 ∧ Drw ns A
def P2 (ns : List Int) (P S : Int) (E : DL.Env) (A : AH) : Prop := (P = 2 ∨ P = 3 ∨ P = 5) ∧ (S = P ∨ S = P + 2 ∨ S = P + 6) ∧ E = E0 (some (.int P)) (some (.int S)) none none none none none none none ∧ A.length = 2 ∧ Drw ns A
theorem s0 {ns : List Int} {R : D → AH → Prop} : (st_law_0 (startE 14 [.ref 0]) [.rol (ns.map D.int)]).sat (P0 ns) R := by
  simp [st_law_0, startE, line]
  rw [gcE_keep (by simp)]
  exact ⟨rfl, rfl, rfl, 0, Int.le_refl _, rfl⟩
theorem s1 {ns : List Int} {E : DL.Env} {A : AH} {R : D → AH → Prop} (h : P0 ns E A) : (st_law_1 E A).sat (fun E A => ∃ P, P1 ns P E A) R := by
  obtain ⟨rfl, hl, hD⟩ := h
  simp [st_law_1, line, cl, hl]
  have hj : (A ++ [O.lst [.int 2, .int 3, .int 5]])[2]? = some (.lst [.int 2, .int 3, .int 5]) := by
    rw [List.getElem?_append_right (by omega), hl]
    rfl
  refine (pick_sat (hD.app _) hj (by decide) (by simp) (by simp)).mono fun d B ⟨hd, x⟩ => ?_
  obtain ⟨A', rfl, y⟩ := x.split hD.lt
  have : ∃ s : Int, d = .int s ∧ (s = 2 ∨ s = 3 ∨ s = 5) := by
    simp at hd
    rcases hd with rfl | rfl | rfl <;> exact ⟨_, rfl, by decide⟩
  obtain ⟨s, rfl, hs⟩ := this
  rw [gcE_nx1 y hD.lt _ (by simp [hl])]
  exact ⟨s, hs, rfl, y.len.trans hl, hD.nx y⟩
theorem s2 {ns : List Int} {P : Int} {E : DL.Env} {A : AH} {R : D → AH → Prop} (h : P1 ns P E A) : (st_law_2 E A).sat (fun E A => ∃ S, P2 ns P S E A) R := by
  obtain ⟨hP, rfl, hl, hD⟩ := h
  simp [st_law_2, line, cl, hl]
  have hj : (A ++ [O.lst [.int P, .int (P + 2), .int (P + 6)]])[2]? = some (.lst [.int P, .int (P + 2), .int (P + 6)]) := by
    rw [List.getElem?_append_right (by omega), hl]
    rfl
  refine (pick_sat (hD.app _) hj (by decide) (by simp) (by simp)).mono fun d B ⟨hd, x⟩ => ?_
  obtain ⟨A', rfl, y⟩ := x.split hD.lt
  have : ∃ s : Int, d = .int s ∧ (s = P ∨ s = P + 2 ∨ s = P + 6) := by
    simp at hd
    rcases hd with rfl | rfl | rfl
    · exact ⟨_, rfl, .inl rfl⟩
    · exact ⟨_, rfl, .inr (.inl rfl)⟩
    · exact ⟨_, rfl, .inr (.inr rfl)⟩
  obtain ⟨s, rfl, hs⟩ := this
  rw [gcE_nx1 y hD.lt _ (by simp [hl])]
  exact ⟨s, hP, hs, rfl, y.len.trans hl, hD.nx y⟩
theorem upto_cg {P : Int} {r : List Int} (f : D → D) (hf : ∀ i : Int, f (.int i) = .tup [.int i, .tup (r.map D.int)]) : (upto 0 P.toNat).map f = (unif P r).map cgD := by
  unfold upto unif
  rw [List.map_map, List.map_map]
  refine List.map_congr_left fun i _ => ?_
  show f (.int (0 + (i : Int))) = _
  rw [hf, Int.zero_add]
  rfl
def cgF (r : List Int) : D → D
  | .int i => .tup [.int i, .tup (r.map D.int)]
  | _ => .non
theorem upto_cgF (P : Int) (r : List Int) : (upto 0 P.toNat).map (cgF r) = (unif P r).map cgD := upto_cg (cgF r) fun _ => rfl
theorem rep8 (n : Int) : rep 8 [D.int n] = (r8 n).map D.int := by
  unfold r8
  rw [List.map_replicate]
  rfl
/-- the home that is told, all plates alike -/
theorem lc_told {E : DL.Env} {A : AH} {P : Int} (hP : P ≤ 100) (y : Ex) (n : Int) (Ed : D → DL.Env) (hE : ∀ d, E.set 11 (some d) = Ed d) (hl : E.length = 14) (hy : ∀ d G, y (Ed d) G = .ok (.int n) G) (h11 : ∀ d, (Ed d)[11]? = some (some d)) :
    kLc (gName 11) tYes (eF mkTup (aCons (eVar 11) (aCons (eF opMul (aCons (eF mkTup (aCons y aNil)) (aCons (eC (.int 8)) aNil))) aNil))) E (Src.seq (upto 0 P.toNat)) A = .ok (.ref A.length) (A ++ [.lst ((unif P (r8 n)).map cgD)]) := by
  rw [← upto_cgF]
  refine lc_map Ed (cgF (r8 n)) (by rw [upto_len]; simp [line]; omega) rfl (fun _ _ => rfl) (fun d _ G => ?_) fun d hd G => ?_
  · show SRes.nx (E.set 11 (some d)) (A ++ G) = _
    rw [hE]
  · obtain ⟨i, rfl⟩ := mem_upto hd
    have := h11 (.int i)
    simp [this, hy, line, ev_mulT, rep8, cgF]
theorem s3 {ns : List Int} {P S : Int} {E : DL.Env} {A : AH} {R : D → AH → Prop} (h : P2 ns P S E A) : (st_law_3 E A).sat (fun E A => ∃ x j Q hist syn, W7 ns P S A x j Q hist syn 100 ∧ Q.de = 0 ∧ syn.length ≤ 1 ∧ E = E0 (some (.int P)) (some (.int S)) (some (.ref x.s)) (some (.ref j)) none none none none none) R := by
  obtain ⟨hP, hS, rfl, hl, hD⟩ := h
  have hP0 : 0 < P := by omega
  have hP1 : P ≤ 100 := by omega
  have hS0 : 0 < S := by omega
  have hS1 : S ≤ 100 := by omega
  have q1 := lc_told (A := A) (E := E0 (some (.int P)) (some (.int S)) none none none none none none none) hP1 (eC (.int 0)) 0 (fun d => [some (.ref 0), some (.ref 1), some (.int P), some (.int S), none, none, none, none, none, none, none, some d, none, none]) (fun _ => rfl) rfl (fun _ _ => rfl) (fun _ => rfl)
  have q2 := dict_of (A := A ++ [.lst ((unif P (r8 0)).map cgD)]) (i := A.length) (l := unif P (r8 0)) (by simp) (unif_nd _ _)
  simp [st_law_3, line, small_of (show (0 : Int) ≤ P by omega) (by omega), q1, q2, cl]
  have hk : ∀ q ∈ srtA (unif P (r8 0)), 0 ≤ q.1 ∧ q.1 < P ∧ q.2.length = 8 := srtA_8 (unif_g hP1 (r8_len 0))
  have hnd := srt_nd (unif_nd P (r8 0))
  have hhead := fresh_head hP0 hS0 hnd hk
  refine (fresh_store_sat (A := A ++ [O.lst ((unif P (r8 0)).map cgD), O.dic (dicA (unif P (r8 0)))]) (c := A.length + 1) (ch := unif P (r8 0)) (P := P) (S := S) (by simp) (unif_g hP1 (r8_len 0)) (by rw [unif_len]; omega) hP0 hP1 hS0 hS1 hhead).mono ?_
  rintro d B ⟨x, rfl, hB, ⟨G, rfl⟩, hxs, _⟩
  simp
  rw [gcE_keep (by simp at hxs ⊢)]
  obtain ⟨I0, c0⟩ := fresh_inv hP0 hS0 hnd hk
  have hst := (freshK_st hP0 hS0 hnd hk).1
  refine ⟨x, A.length + (G.length + 1 + 1), _, _, [(0, 0)], ⟨hD.app _, by have := hB.app [O.lst [D.tup [D.int 0, D.int 0]]]; simpa using this, fun A => openS_g (freshK_g A hP0 hP1 hS0 hS1 (by rw [srtA_len, unif_len]; omega) hk) hP0 hP1 hS0 hS1 hst rfl hhead, rfl, rfl, I0, PuM.nil rfl, ?_, ⟨[], rfl⟩, by decide, ?_, ?_⟩, rfl, by decide, rfl, rfl⟩
  · rw [List.getElem?_append_right (by omega), show A.length + (G.length + 1 + 1) - A.length = G.length + 1 + 1 by omega]
    simp [pI]
  · intro q hq
    rcases List.mem_singleton.mp hq with rfl
    exact ⟨Int.le_refl _, Int.le_refl _, 0, Nat.le_refl _, rfl, Nat.zero_le _⟩
  · intro i h hi
    have : i = 0 := by
      have := (List.getElem?_eq_some_iff.mp hi).1
      simp at this
      exact this
    subst this
    cases hi
    unfold HomeN
    refine List.ext_getElem? fun m => ?_
    by_cases hm : m < P.toNat
    · rw [fresh_home hP0 hS0 hnd hk (by omega) (v := r8 0) (by rw [fA_srt]; exact unif_fA (by omega)), List.getElem?_replicate, if_pos hm]
      rfl
    · rw [List.getElem?_eq_none (by rw [homeOf_len]; omega), List.getElem?_eq_none (by rw [List.length_replicate]; omega)]
end Lw
set_option Elab.async false
set_option linter.all false
set_option maxRecDepth 100000
set_option maxHeartbeats 4000000
/-! The law's first loop (own work). -/
namespace Lw
open PySem DL
theorem W7.j2 {ns : List Int} {P S : Int} {A : AH} {x : SX} {j : Nat} {Q : Sto} {hist : Hist} {syn : List (Int × Int)} {N : Nat} (w : W7 ns P S A x j Q hist syn N) : 2 ≤ j := by
  obtain ⟨t, ht⟩ := w.syn0
  have hl := w.lst
  rw [ht] at hl
  obtain ⟨n, _, e⟩ := w.drw.d
  by_cases h : 2 ≤ j
  · exact h
  · exfalso
    have : j = 0 ∨ j = 1 := by omega
    rcases this with rfl | rfl
    · rw [w.drw.s] at hl; cases hl
    · rw [e] at hl
      simp [pI] at hl
theorem W7.nx {ns : List Int} {P S : Int} {A B : AH} {x : SX} {j : Nat} {Q : Sto} {hist : Hist} {syn : List (Int × Int)} {N : Nat} (w : W7 ns P S A x j Q hist syn N) (n : Nx1 A B) : W7 ns P S B x j Q hist syn N :=
  { w with
    drw := w.drw.nx n
    sto := n.sto w.drw w.sto
    lst := (n.get (by have := w.j2; omega)).trans w.lst }
theorem W7.app {ns : List Int} {P S : Int} {A : AH} {x : SX} {j : Nat} {Q : Sto} {hist : Hist} {syn : List (Int × Int)} {N : Nat} (w : W7 ns P S A x j Q hist syn N) (G : AH) : W7 ns P S (A ++ G) x j Q hist syn N :=
  { w with
    drw := w.drw.app G
    sto := w.sto.app G
    lst := get_left w.lst }
theorem W7.low {ns : List Int} {P S : Int} {A B : AH} {E : DL.Env} {x : SX} {j : Nat} {Q : Sto} {hist : Hist} {syn : List (Int × Int)} {N : Nat} {x' : SX} {Q' : Sto} (hA : StoAt A x' Q') (hs : x.s = x'.s) (hj : j < A.length) (w : W7 ns P S B x j Q hist syn N) (hle : A.length ≤ B.length) (h1 : 1 < A.length) : W7 ns P S (gcE A E B) x j Q hist syn N := by
  obtain ⟨a, b⟩ := gcE_sto (E := E) hA hs w.sto hle
  exact { w with
    drw := Drw.low b h1 w.drw
    sto := a
    lst := low_of b hj w.lst }
theorem W7.step {ns : List Int} {P S : Int} {A B : AH} {x : SX} {r j : Nat} {Q Q' : Sto} {hist hist' : Hist} {syn : List (Int × Int)} {N N' : Nat} (w : W7 ns P S A x j Q hist syn N) (hB : StoAt B { x with r := r } Q') (f : Fr A B x r) (g : SGA N' Q') (l : Later Q Q') (i : Inv Q' hist' 0) (p : PuM Q') (h : ∀ (i : Nat) h, hist'[i]? = some h → h = HomeN P i) : W7 ns P S B { x with r := r } j Q' hist' syn N' :=
  { drw := f.drw w.sto w.drw
    sto := hB
    sga := g
    eP := l.P.trans w.eP
    eS := l.S.trans w.eS
    inv := i
    pum := p
    lst := f.lists w.sto _ _ w.lst
    syn0 := w.syn0
    synl := w.synl
    syns := fun q hq => (w.syns q hq).later l
    homes := h }
theorem W7.more {ns : List Int} {P S : Int} {A : AH} {x : SX} {j : Nat} {Q : Sto} {hist : Hist} {syn : List (Int × Int)} {N : Nat} (w : W7 ns P S A x j Q hist syn N) {q : Int × Int} (hq : Syn Q q.1 q.2) (hl : syn.length < 20) : W7 ns P S (A.set j (.lst ((syn ++ [q]).map pI))) x j Q hist (syn ++ [q]) N := by
  have hj := w.j2
  have hne : ∀ i o, A[i]? = some o → (∀ ds, o ≠ O.lst ds) → i ≠ j := fun i o e h z => by
    rw [z, w.lst] at e
    exact h _ (Option.some.inj e).symm
  have st : ∀ i o, A[i]? = some o → (∀ ds, o ≠ O.lst ds) → (A.set j (.lst ((syn ++ [q]).map pI)))[i]? = some o := fun i o e h => by
    rw [List.getElem?_set_ne (Ne.symm (hne i o e h))]; exact e
  obtain ⟨t, ht⟩ := w.syn0
  exact { w with
    drw := w.drw.set _ hj
    sto := ⟨st _ _ w.sto.s (fun _ z => by cases z), st _ _ w.sto.b (fun _ z => by cases z), st _ _ w.sto.d (fun _ z => by cases z), st _ _ w.sto.c (fun _ z => by cases z), st _ _ w.sto.r (fun _ z => by cases z), w.sto.ne⟩
    lst := List.getElem?_set_self (lt_of w.lst)
    syn0 := ⟨t ++ [q], by rw [ht]; rfl⟩
    synl := by rw [List.length_append, List.length_singleton]; omega
    syns := fun p hp => by
      rcases List.mem_append.mp hp with h | h
      · exact w.syns p h
      · rcases List.mem_singleton.mp h with rfl
        exact hq }
theorem W7.hs {ns : List Int} {P S : Int} {A : AH} {x : SX} {j : Nat} {Q : Sto} {hist : Hist} {syn : List (Int × Int)} {N : Nat} (w : W7 ns P S A x j Q hist syn N) : A[x.s]? = some (.ins 1 [(2, .int Q.P), (3, .int Q.S), (4, .ref x.b), (5, .ref x.d), (6, .tup (Q.tr.map evD)), (7, hdD Q.hn Q.hf Q.hs), (8, .tup (Q.grs.map grD)), (9, .ref x.c), (10, .int Q.ng), (11, .int Q.ns), (12, .ref x.r), (13, .int Q.rd), (14, .tup (Q.pu.map puD)), (15, .int Q.de), (16, .int Q.sd)]) := w.sto.s
theorem put_de (Q : Sto) {ch : Chg} (h : ch ≠ []) : (Q.put ch).de = Q.de + 1 := by
  unfold Sto.put
  rw [if_neg h]
  show (Q.full (srtA ch)).de + 1 = _
  unfold Sto.full
  split
  · rw [push_de]
  · rfl
theorem sync_de (Q : Sto) : Q.sync.de = Q.de := push_de Q
theorem gcE_ge {A B : AH} (E : DL.Env) (h : A.length ≤ B.length) : A.length ≤ (gcE A E B).length := by
  unfold gcE
  split
  · rw [List.length_take]; omega
  · exact h
def F4 (ns : List Int) (P S : Int) (B : AH) (s j : Nat) (e6 e7 : Option D) (d : Int) (M N : Nat) (E : DL.Env) (C : AH) : Prop := ∃ x Q hist syn, W7 ns P S C x j Q hist syn N ∧ x.s = s ∧ Q.de = d ∧ syn.length ≤ M ∧ E = E0 (some (.int P)) (some (.int S)) (some (.ref s)) (some (.ref j)) e6 e7 none none none ∧ B.length ≤ C.length
theorem F4.of {ns : List Int} {P S : Int} {B D2 M : AH} {E : DL.Env} {s j : Nat} {e6 e7 : Option D} {d : Int} {m N : Nat} {x1 x2 : SX} {Q1 Q2 : Sto} {hist1 hist2 : Hist} {syn1 syn2 : List (Int × Int)} {N1 N2 : Nat} (w1 : W7 ns P S D2 x1 j Q1 hist1 syn1 N1) (w2 : W7 ns P S M x2 j Q2 hist2 syn2 N2) (h1 : x1.s = s) (h2 : x2.s = x1.s) (hl : D2.length ≤ M.length) (hB : B.length ≤ D2.length) (hd : Q2.de = d) (hs : syn2.length ≤ m) (hN : N2 ≤ N) (hE : E = E0 (some (.int P)) (some (.int S)) (some (.ref s)) (some (.ref j)) e6 e7 none none none) : F4 ns P S B s j e6 e7 d m N E (gcE D2 E M) := by
  have w3 := W7.low (B := M) (E := E) w1.sto h2 (lt_of w1.lst) w2 hl w1.drw.lt
  exact ⟨x2, Q2, hist2, syn2, { w3 with sga := w3.sga.mono hN }, h2.trans h1, hd, hs, hE, by have := gcE_ge (A := D2) (B := M) E hl; omega⟩
theorem F4.same {ns : List Int} {P S : Int} {B D2 : AH} {E : DL.Env} {s j : Nat} {e6 e7 : Option D} {d : Int} {m N : Nat} {x1 : SX} {Q1 : Sto} {hist1 : Hist} {syn1 : List (Int × Int)} {N1 : Nat} (w1 : W7 ns P S D2 x1 j Q1 hist1 syn1 N1) (h1 : x1.s = s) (hB : B.length ≤ D2.length) (hd : Q1.de = d) (hs : syn1.length ≤ m) (hN : N1 ≤ N) (hE : E = E0 (some (.int P)) (some (.int S)) (some (.ref s)) (some (.ref j)) e6 e7 none none none) : F4 ns P S B s j e6 e7 d m N E D2 :=
  ⟨x1, Q1, hist1, syn1, { w1 with sga := w1.sga.mono hN }, h1, hd, hs, hE, hB⟩
def I4 (ns : List Int) (P S : Int) (e6 e7 : Option D) (k : Nat) (E : DL.Env) (A : AH) : Prop := ∃ x j Q hist syn, W7 ns P S A x j Q hist syn (100 + 10000 * k) ∧ Q.de = (k : Nat) ∧ syn.length ≤ k + 1 ∧ E = E0 (some (.int P)) (some (.int S)) (some (.ref x.s)) (some (.ref j)) e6 e7 none none none
theorem s4 {ns : List Int} {P S : Int} {A : AH} {E : DL.Env} {R : D → AH → Prop} (hP0 : 0 < P) (hP1 : P ≤ 100) (hPS : P ≤ S) (h : I4 ns P S none none 0 E A) : (st_law_4 E A).sat (fun E A => ∃ n, n ≤ 14 ∧ I4 ns P S none none n E A) R := by
  obtain ⟨x, j, Q, hist, syn, w, hde, hsl, rfl⟩ := h
  have hD := w.drw
  simp [st_law_4, cl, line]
  have hj : (A ++ [O.lst [.int 5, .int 9, .int 14]])[A.length]? = some (.lst [.int 5, .int 9, .int 14]) := by simp
  have h1 := hD.lt
  refine (pick_sat (hD.app _) hj (by omega) (by simp) (by simp)).mono fun d B ⟨hd, n1⟩ => ?_
  obtain ⟨A', rfl, y⟩ := n1.split hD.lt
  have : ∃ n : Nat, d = .int (n : Int) ∧ n ≤ 14 := by
    simp at hd
    rcases hd with rfl | rfl | rfl
    · exact ⟨5, rfl, by decide⟩
    · exact ⟨9, rfl, by decide⟩
    · exact ⟨14, rfl, by decide⟩
  obtain ⟨n, rfl, hn⟩ := this
  simp [small_of (show (0 : Int) ≤ (n : Int) by omega) (by omega)]
  refine for_sat n (fun k E A => I4 ns P S none none k E A) (by rw [upto_size]; exact Nat.le_refl _) ⟨x, j, Q, hist, syn, (w.nx y).app _, hde, hsl, rfl⟩ ?_ ?_
  · rintro k E B hk ⟨x, j, Q, hist, syn, w, hde, hsl, rfl⟩
    refine ⟨.int k, upto_at hk _, tsat_of ?_⟩
    have hs := w.hs
    have hr := w.homes
    have h1 := w.drw.lt
    have hjl := lt_of w.lst
    have hxl := lt_of w.sto.s
    obtain ⟨m, hm⟩ : ∃ m : Int, m = (k : Int) + 1 := ⟨_, rfl⟩
    unfold bd_law_4
    show (gcS B (fgR [7, 6] (sSeq _ _ _ B))).sat _ _
    rw [ssat_gcS, ssat_fgR]
    refine SRes.sat.mono (N := F4 ns P S B x.s j (some (.int k)) (some (.int m)) m (k + 2) (5000 + 10000 * k)) (R := R) ?_ ?_ (fun _ _ h => h)
    · refine seq_sat (fun E C => E = E0 (some (.int P)) (some (.int S)) (some (.ref x.s)) (some (.ref j)) (some (.int k)) (some (.int m)) none none none ∧ C = B) (by simp [hs, hde, hm]) ?_
      rintro E C ⟨rfl, rfl⟩
      have q1 := lc_told (A := C) (E := E0 (some (.int P)) (some (.int S)) (some (.ref x.s)) (some (.ref j)) (some (.int k)) (some (.int m)) none none none) hP1 (eVar 7) m (fun d => [some (.ref 0), some (.ref 1), some (.int P), some (.int S), some (.ref x.s), some (.ref j), some (.int k), some (.int m), none, none, none, some d, none, none]) (fun _ => rfl) rfl (fun _ _ => rfl) (fun _ => rfl)
      have q2 := dict_of (A := C ++ [.lst ((unif P (r8 m)).map cgD)]) (i := C.length) (l := unif P (r8 m)) (by simp) (unif_nd _ _)
      have hi : isIns 1 C (.ref x.s) = true := isIns_of w.sto.s
      have hi2 : isIns 1 (C ++ [O.lst ((unif P (r8 m)).map cgD), O.dic (dicA (unif P (r8 m)))]) (.ref x.s) = true := isIns_of (w.sto.app _).s
      have hug : ChgG Q.P (unif P (r8 m)) := by rw [w.eP]; exact unif_g hP1 (r8_len _)
      have hne : unif P (r8 m) ≠ [] := fun e => by
        have := unif_len P (r8 m)
        rw [e] at this
        simp at this
        omega
      have hul : ((unif P (r8 m)).length : Int) ≤ Q.S := by rw [w.eS, unif_len]; omega
      have hcel : Q.cells.length = P.toNat := by rw [← w.eP]; exact (w.sga []).cel
      have hhl : (hist.length : Int) = Q.de + 1 := by
        obtain ⟨_, _, _, d, _⟩ := w.inv
        exact d.hl
      refine seq_sat (F4 ns P S C x.s j (some (.int k)) (some (.int m)) m (k + 1) (2105 + 10000 * k)) ?_ ?_
      · simp [line, small_of (show (0 : Int) ≤ P by omega) (by omega), q1, q2, cl, hi, hi2]
        refine (put_sat (w.sto.app [O.lst ((unif P (r8 m)).map cgD), O.dic (dicA (unif P (r8 m)))]) (w.sga _) (by omega) (cd := C.length + 1) (ch := unif P (r8 m)) (by simp) hug hul).mono ?_
        rintro d D1 ⟨rfl, r, hM, fM, gM⟩
        have hle := fM.le
        simp at hle
        have hpI := w.inv.put (by rw [w.eP]; exact hP1) hug hul
        have w2 := (w.app [O.lst ((unif P (r8 m)).map cgD), O.dic (dicA (unif P (r8 m)))]).step hM fM (w.sga.put hug (by omega)) (later_put _ _) hpI (w.pum.put w.inv _) (fun i h hi => by
          unfold histP at hi
          rw [if_neg hne, layC_unif hcel] at hi
          by_cases e : i < hist.length
          · rw [List.getElem?_append_left e] at hi
            exact hr i h hi
          · have hi2 := (List.getElem?_eq_some_iff.mp hi).1
            rw [List.length_append, List.length_singleton] at hi2
            have ei : i = hist.length := by omega
            subst ei
            simp at hi
            rw [← hi]
            unfold HomeN
            congr 2
            omega)
        exact F4.of w w2 rfl rfl (by omega) (Nat.le_refl _) (by rw [put_de Q hne]; omega) hsl (by omega) rfl
      · rintro E D1 ⟨x1, Q1, hist1, syn1, w1, hx1, hde1, hsl1, rfl, hle1⟩
        simp [cl]
        refine (take_sat w1.drw (by decide)).mono ?_
        rintro d D2 ⟨⟨v, rfl, hv0, hv3⟩, n2⟩
        have w2 := w1.nx n2
        have hs2 := w2.hs
        have hi2' : isIns 1 D2 (.ref x.s) = true := by rw [← hx1]; exact isIns_of w2.sto.s
        rw [hx1] at hs2
        have hle2 : C.length ≤ D2.length := by rw [n2.len]; exact hle1
        have hj2 := lt_of w2.lst
        have h12 := w2.drw.lt
        simp [hi2']
        refine ⟨fun _ => ?_, fun _ => ?_⟩
        · rw [← hx1]
          refine (sync_sat w2.sto (w2.sga _) (by omega)).mono ?_
          rintro d M ⟨rfl, r, hM, fM, gM⟩
          have w3 := w2.step hM fM (w2.sga.sync (by omega)) (later_sync _) w2.inv.sync ((w2.pum.push w2.inv).settle) w2.homes
          have w4 := W7.low (B := M) (E := E0 (some (.int P)) (some (.int S)) (some (.ref x1.s)) (some (.ref j)) (some (.int k)) (some (.int m)) none none none) w2.sto (show ({ x1 with r := r } : SX).s = x1.s from rfl) hj2 w3 fM.le h12
          have hle4 := gcE_ge (A := D2) (B := M) (E0 (some (.int P)) (some (.int S)) (some (.ref x1.s)) (some (.ref j)) (some (.int k)) (some (.int m)) none none none) fM.le
          generalize gcE D2 (E0 (some (.int P)) (some (.int S)) (some (.ref x1.s)) (some (.ref j)) (some (.int k)) (some (.int m)) none none none) M = K at w4 hle4 ⊢
          have hs4 := w4.hs
          have hs4' : K[x1.s]? = _ := hs4
          have hSy : Syn Q1.sync (Q1.sync.tr.length : Int) m := by rw [← hde1]; exact Syn.sync w2.inv
          have w5 := w4.more (q := ((Q1.sync.tr.length : Int), m)) hSy (by omega)
          have hl4 := w4.lst
          have hl20 := w4.synl
          simp [hs4', hl4, kindO, line]
          refine ⟨?_, by omega⟩
          have e5 : syn1.map pI ++ [D.tup [D.int (Q1.sync.tr.length : Int), D.int m]] = (syn1 ++ [((Q1.sync.tr.length : Int), m)]).map pI := by rw [List.map_append]; rfl
          rw [e5]
          intro _
          exact F4.of w4 w5 rfl rfl (by rw [List.length_set]; exact Nat.le_refl _) (by omega) (by rw [sync_de]; exact hde1) (by rw [List.length_append, List.length_singleton]; omega) (by omega) rfl
        · refine (take_sat w2.drw (by decide)).mono ?_
          rintro d D3 ⟨⟨u, rfl, hu0, hu3⟩, n3⟩
          have w3 := w2.nx n3
          have hi3 : isIns 1 D3 (.ref x.s) = true := by rw [← hx1]; exact isIns_of w3.sto.s
          have hle3 : C.length ≤ D3.length := by rw [n3.len]; exact hle2
          simp [hi3]
          refine ⟨fun _ => ?_, fun _ => ?_⟩
          · rw [← hx1]
            refine (push_sat w3.sto (w3.sga _) (by omega)).mono ?_
            rintro d M ⟨rfl, r, hM, fM, gM⟩
            have w4 := w3.step hM fM (w3.sga.push (by omega)) (later_push _) w3.inv.push (w3.pum.push w3.inv) w3.homes
            exact F4.of w3 w4 rfl rfl fM.le hle3 (by rw [push_de]; exact hde1) (by omega) (by omega) rfl
          · refine (take_sat w3.drw (by decide)).mono ?_
            rintro d D4 ⟨⟨z, rfl, hz0, hz3⟩, n4⟩
            have w4 := w3.nx n4
            have hi4 : isIns 1 D4 (.ref x.s) = true := by rw [← hx1]; exact isIns_of w4.sto.s
            have hle4 : C.length ≤ D4.length := by rw [n4.len]; exact hle3
            simp [hi4]
            refine ⟨fun _ => ?_, fun _ => ?_⟩
            · rw [← hx1]
              refine (lay_sat w4.sto (w4.sga _) (by omega)).mono ?_
              rintro d M ⟨rfl, r, hM, fM, gM⟩
              have w5 := w4.step hM fM (w4.sga.lay (by omega)) (later_lay _) w4.inv.lay w4.pum.lay w4.homes
              exact F4.of w4 w5 rfl rfl fM.le hle4 (by rw [(lay_same Q1).2.2.1]; exact hde1) (by omega) (by omega) rfl
            · exact F4.same w4 hx1 hle4 hde1 (by omega) (by omega) rfl
    · rintro E C ⟨x1, Q1, hist1, syn1, w1, hx1, hde1, hsl1, rfl, hle1⟩
      have w3 := W7.low (E := fgE [7, 6] (E0 (some (.int P)) (some (.int S)) (some (.ref x.s)) (some (.ref j)) (some (.int k)) (some (.int m)) none none none)) w.sto hx1 hjl w1 (by omega) h1
      exact ⟨x1, j, Q1, hist1, syn1, { w3 with sga := w3.sga.mono (by omega) }, by rw [hde1, hm]; rfl, hsl1, by rw [hx1]; rfl⟩
  · rintro E B h
    exact ⟨upto_end _, n, hn, h⟩
end Lw
set_option Elab.async false
set_option linter.all false
set_option maxRecDepth 100000
set_option maxHeartbeats 4000000
/-! The law's second loop (own work). -/
namespace Lw
open PySem DL
def I5 (ns : List Int) (P S : Int) (x : SX) (j : Nat) (Q : Sto) (hist : Hist) (syn : List (Int × Int)) (E : DL.Env) (A : AH) : Prop := W7 ns P S A x j Q hist syn 150000 ∧ E = E0 (some (.int P)) (some (.int S)) (some (.ref x.s)) (some (.ref j)) none none none none none
def edS (P S : Int) (s j h : Nat) (e6 e9 : Option D) (n v : Int) : D → DL.Env
  | .tup [a, b] => [some (.ref 0), some (.ref 1), some (.int P), some (.int S), some (.ref s), some (.ref j), e6, some (.int n), some (.int v), e9, some (.ref h), none, some a, some b]
  | _ => []
def leD (v : Int) : D → Bool
  | .tup [.int a, _] => decide (a ≤ v)
  | _ => false
def sndI : D → D
  | .tup [_, b] => b
  | _ => .non
theorem syn_le (v : Int) (syn : List (Int × Int)) : ((syn.map pI).filter (leD v)).map sndI = ((syn.filter fun q => decide (q.1 ≤ v)).map (·.2)).map D.int := by
  induction syn with
  | nil => rfl
  | cons q syn ih =>
    rw [List.map_cons, List.filter_cons, List.filter_cons]
    have e : leD v (pI q) = decide (q.1 ≤ v) := rfl
    rw [e]
    by_cases h : q.1 ≤ v
    · simp only [h, decide_true, if_true, List.map_cons]
      rw [ih]
      rfl
    · simp only [h, decide_false, Bool.false_eq_true, if_false]
      exact ih
theorem maxI_le {m n : Int} {ns : List Int} (h : m ≤ n) (k : ∀ x ∈ ns, x ≤ n) : maxI m ns ≤ n := by
  unfold maxI
  induction ns generalizing m with
  | nil => exact h
  | cons a ns ih =>
    rw [List.foldl_cons]
    exact ih (by have := k a List.mem_cons_self; omega) fun x hx => k x (List.mem_cons_of_mem _ hx)
def Q52 (ns : List Int) (P S : Int) (x : SX) (j : Nat) (Q : Sto) (hist : Hist) (syn : List (Int × Int)) (k v : Nat) (B : AH) (E : DL.Env) (D1 : AH) : Prop := ∃ (cs : List (Int × Int)) (i : Nat), (cs.map (·.1)).Nodup ∧ (∀ q ∈ cs, chOk (Q.beg.evs (Q.tr.take v)) q) ∧ D1[i]? = some (.dic (cs.map chD)) ∧ W7 ns P S D1 x j Q hist syn 150000 ∧ E = E0 (some (.int P)) (some (.int S)) (some (.ref x.s)) (some (.ref j)) (some (.int k)) none (some (.int v)) (some (.ref i)) none ∧ B.length ≤ D1.length
def Q53 (ns : List Int) (P S : Int) (x : SX) (j : Nat) (Q : Sto) (hist : Hist) (syn : List (Int × Int)) (k v : Nat) (B : AH) (E : DL.Env) (D1 : AH) : Prop := ∃ (n i h : Nat), (n : Int) ≤ Q.de ∧ (∀ q ∈ syn, q.1 ≤ v → q.2 ≤ (n : Int)) ∧ D1[h]? = some (.dic (dicA (unif P (r8 n)))) ∧ W7 ns P S D1 x j Q hist syn 150000 ∧ E = E0 (some (.int P)) (some (.int S)) (some (.ref x.s)) (some (.ref j)) (some (.int k)) none (some (.int v)) (some (.ref i)) (some (.ref h)) ∧ B.length ≤ D1.length
theorem s5b {ns : List Int} {P S : Int} {B : AH} {E : DL.Env} {R : D → AH → Prop} {x : SX} {j k : Nat} {Q : Sto} {hist : Hist} {syn : List (Int × Int)} (hP0 : 0 < P) (hP1 : P ≤ 100) (hS0 : 0 < S) (hS1 : S ≤ 100) (h : I5 ns P S x j Q hist syn E B) : (bd_law_5 (E.set 6 (some (.int k))) B).sat (I5 ns P S x j Q hist syn) R := by
  obtain ⟨w, rfl⟩ := h
  have hs := w.hs
  have h1 := w.drw.lt
  have hjl := lt_of w.lst
  have hxl := lt_of w.sto.s
  unfold bd_law_5
  show (gcS B (fgR [8, 9, 10, 7, 6] (sSeq _ _ _ B))).sat _ _
  rw [ssat_gcS, ssat_fgR]
  refine SRes.sat.mono (N := fun E C => ∃ e6 e7 e8 e9 e10, W7 ns P S C x j Q hist syn 150000 ∧ E = E0 (some (.int P)) (some (.int S)) (some (.ref x.s)) (some (.ref j)) e6 e7 e8 e9 e10 ∧ B.length ≤ C.length) (R := R) ?_ ?_ (fun _ _ h => h)
  · refine seq_sat (fun E C => ∃ v : Nat, v ≤ Q.tr.length ∧ W7 ns P S C x j Q hist syn 150000 ∧ E = E0 (some (.int P)) (some (.int S)) (some (.ref x.s)) (some (.ref j)) (some (.int k)) none (some (.int v)) none none ∧ B.length ≤ C.length) ?_ ?_
    · simp [hs, cl]
      refine (take_sat w.drw (by omega)).mono ?_
      rintro d C ⟨⟨v, rfl, v0, v1⟩, n1⟩
      have w1 := w.nx n1
      have hl := n1.len
      refine ⟨v.toNat, by omega, W7.low w.sto rfl hjl w1 (by omega) h1, ?_, gcE_ge _ (by omega)⟩
      rw [show ((v.toNat : Nat) : Int) = v by omega]
    rintro E C ⟨v, hv, w1, rfl, hl1⟩
    have hs1 := w1.hs
    have hbeg : Q.beg.lo = [] := by
      obtain ⟨_, _, X, _⟩ := w1.inv
      exact X.blo
    have hglen := (w1.sga C).len
    have hbl := (w1.sga C).blen
    have hQP := w1.eP
    have hQS := w1.eS
    have htrl := (w1.sga C).trl
    have e0 : Q.dev.st.length = Q.beg.st.length := by omega
    have hkm : ∀ A, DkG A (Q.beg.evs (Q.tr.take v)) := fun A => w1.sga.beg (by rw [hbeg]; decide) A
    have qd := disk_after_ok w1.sto.b (w1.sga C).beg (by omega) (es := Q.tr) (m := (v : Int)) (fun e he => by rw [← e0]; exact (w1.sga C).tr e he) (by rw [hbeg]; show 0 + _ ≤ _; omega) (by omega) (by omega)
    rw [Int.toNat_natCast] at qd
    refine seq_sat (Q52 ns P S x j Q hist syn k v B) ?_ ?_
    · simp [hs1, cl, qd]
      refine (choice_sat (A := C ++ [dkO (Q.beg.evs (Q.tr.take v))]) (d := C.length) (w1.drw.app _) (by simp) hkm).mono ?_
      rintro d D1 ⟨cs, A', c1, c2, rfl, n1, rfl⟩
      have hl2 := n1.len
      rw [List.length_append, List.length_singleton] at hl2
      rw [gcE_keep (by simp)]
      refine ⟨cs, C.length + 1, c1, c2, ?_, ((w1.app _).nx n1).app _, by simp, by rw [List.length_append]; omega⟩
      rw [List.getElem?_append_right (by omega), hl2, Nat.sub_self]
      rfl
    rintro E D1 ⟨cs, i, c1, c2, hdic, w2, rfl, hl2⟩
    obtain ⟨sg, off, X, dd, past⟩ := w2.inv
    obtain ⟨hd, r1, r2, r3⟩ := past v hv cs c1 c2
    have hkst : (((Q.beg.evs (Q.tr.take v)).fall cs).st.length : Int) = 2 + S + P := by
      rw [fall_eq, setAll_len, evs_st]
      omega
    rw [hQP, hQS] at r3
    obtain ⟨n, hn⟩ : ∃ n, n = deedsB Q.pu (opened (lastB (Q.tr.take v)) v (Q.beg.evs (Q.tr.take v)).lo Q.pu cs) := ⟨_, rfl⟩
    rw [← hn] at r3
    have hhome := w2.homes n _ r3
    have hnde : (n : Int) ≤ Q.de := by
      have h1 := (List.getElem?_eq_some_iff.mp r3).1
      have h2 := dd.hl
      omega
    have hsyn : ∀ q ∈ syn, q.1 ≤ v → q.2 ≤ (n : Int) := fun q hq hle => by
      rw [hn]
      exact (w2.syns q hq).open_ w2.pum hle hv _ _
    refine seq_sat (Q53 ns P S x j Q hist syn k v B) ?_ ?_
    · have qf := fallen_disk_ok (m := (v : Int)) w2.sto (w2.sga D1) (by rw [hbeg]; decide) hdic (by omega) (by omega) (by rw [Int.toNat_natCast]; exact c2)
      rw [Int.toNat_natCast] at qf
      simp [cl, qf]
      refine (open_store_sat (A := D1 ++ [dkO ((Q.beg.evs (Q.tr.take v)).fall cs)]) (d := D1.length) (by simp) ((hkm _).fall c2) hP0 hP1 hS0 hS1 hkst rfl r1).mono ?_
      rintro d D2 ⟨x2, rfl, hD2, ⟨G, rfl⟩, hx2, _⟩
      have hi2 : isIns 1 (D1 ++ [dkO ((Q.beg.evs (Q.tr.take v)).fall cs)] ++ G) (.ref x2.s) = true := isIns_of hD2.s
      have hce : ((openS P S ((Q.beg.evs (Q.tr.take v)).fall cs) hd).whome.turn).cells = List.replicate P.toNat (r8 n) := (whome_turn _).2.2.2.2.2.2.2.2.2.2.2.1.trans hhome
      have qh := home_ok hD2
      rw [hce, cells_unif0] at qh
      simp at qh hi2
      simp [hi2, qh]
      rw [gcE_keep (by simp)]
      refine ⟨n, i, D1.length + (G.length + 1), hnde, hsyn, ?_, w2.app _, rfl, by rw [List.length_append]; omega⟩
      rw [List.getElem?_append_right (by omega), show D1.length + (G.length + 1) - D1.length = G.length + 1 by omega]
      simp
    rintro E D2 ⟨n, i, h, hnde, hsyn, hh, w3, rfl, hl3⟩
    have hm0 : (0 : Int) ∈ (unif P (r8 n)).map (·.1) := List.mem_map.mpr ⟨(((0 : Nat) : Int), r8 n), List.mem_map.mpr ⟨0, List.mem_range.mpr (by omega), rfl⟩, rfl⟩
    have hg0 : getA (unif P (r8 n)) 0 = r8 n := by
      have := unif_fA (P := P) (r := r8 n) (i := 0) (by omega)
      rw [← fA_getA]
      show (fA (unif P (r8 n)) ((0 : Nat) : Int)).getD [] = _
      rw [this]
      rfl
    have hv0 := valF_dicA 0 (unif P (r8 n)) hm0
    rw [hg0] at hv0
    have a0 : atD ((r8 n).map D.int) 0 = some (.int n) := rfl
    refine seq_sat (fun E D3 => W7 ns P S D3 x j Q hist syn 150000 ∧ D3[h]? = some (.dic (dicA (unif P (r8 n)))) ∧ E = E0 (some (.int P)) (some (.int S)) (some (.ref x.s)) (some (.ref j)) (some (.int k)) (some (.int n)) (some (.int v)) (some (.ref i)) (some (.ref h)) ∧ B.length ≤ D3.length) ?_ ?_
    · simp [hh, hv0, a0]
      exact ⟨w3, hl3⟩
    rintro E D3 ⟨w4, hh4, rfl, hl4⟩
    have hs4 := w4.hs
    have hl5 := w4.lst
    have q1 := lc_told (A := D3) (E := E0 (some (.int P)) (some (.int S)) (some (.ref x.s)) (some (.ref j)) (some (.int k)) (some (.int n)) (some (.int v)) (some (.ref i)) (some (.ref h))) hP1 (eVar 7) n (fun d => [some (.ref 0), some (.ref 1), some (.int P), some (.int S), some (.ref x.s), some (.ref j), some (.int k), some (.int n), some (.int v), some (.ref i), some (.ref h), some d, none, none]) (fun _ => rfl) rfl (fun _ _ => rfl) (fun _ => rfl)
    have q2 := dict_of (A := D3 ++ [.lst ((unif P (r8 n)).map cgD)]) (i := D3.length) (l := unif P (r8 n)) (by simp) (unif_nd _ _)
    have qe := eqDD_self (A := D3 ++ [O.lst ((unif P (r8 n)).map cgD), O.dic (dicA (unif P (r8 n)))]) (i := h) (j := D3.length + 1) (get_left hh4) (by simp) (unif_nd P (r8 n)) rfl not
    have hd4 : isDic (D3 ++ [O.lst ((unif P (r8 n)).map cgD), O.dic (dicA (unif P (r8 n)))]) (.ref h) = true := by
      have : (D3 ++ [O.lst ((unif P (r8 n)).map cgD), O.dic (dicA (unif P (r8 n)))])[h]? = some (.dic (dicA (unif P (r8 n)))) := get_left hh4
      simp [isDic, this]
    have hs5 : (D3 ++ [O.lst ((unif P (r8 n)).map cgD), O.dic (dicA (unif P (r8 n)))])[x.s]? = _ := get_left hs4
    have hde0 : (0 : Int) ≤ (n : Int) := by omega
    refine seq_sat (fun E D4 => W7 ns P S D4 x j Q hist syn 150000 ∧ E = E0 (some (.int P)) (some (.int S)) (some (.ref x.s)) (some (.ref j)) (some (.int k)) (some (.int n)) (some (.int v)) (some (.ref i)) (some (.ref h)) ∧ B.length ≤ D4.length) ?_ ?_
    · simp [line, small_of (show (0 : Int) ≤ P by omega) (by omega), q1, q2, hd4, qe, hs5, hnde]
      exact ⟨w4.app _, by omega⟩
    rintro E D4 ⟨w5, rfl, hl6⟩
    have hlst := w5.lst
    have hsl := w5.synl
    obtain ⟨t, ht⟩ := w5.syn0
    have q3 := lc_fm (src := .lst j) (g := gTup 2 (gCons (gName 12) (gCons (gName 13) gNil))) (t := tB (eF opLe (aCons (eVar 12) (aCons (eVar 8) aNil)))) (e := eVar 13) (E := [some (.ref 0), some (.ref 1), some (.int P), some (.int S), some (.ref x.s), some (.ref j), some (.int k), some (.int n), some (.int v), some (.ref i), some (.ref h), none, none, none]) (A := D4) (ds := syn.map pI) (edS P S x.s j h (some (.int k)) (some (.ref i)) n v) (leD v) sndI
      (by simp [line]; omega) (by rw [size_lst (ds := syn.map pI) (by rw [hlst]; rfl)]) (fun G k => by rw [at_lst (ds := syn.map pI) (by rw [get_left hlst]; rfl)])
      (fun d hd G => by
        obtain ⟨p, _, rfl⟩ := List.mem_map.mp hd
        rfl)
      (fun d hd G => by
        obtain ⟨p, _, rfl⟩ := List.mem_map.mp hd
        simp [pI, edS, leD])
      (fun d hd _ G => by
        obtain ⟨p, _, rfl⟩ := List.mem_map.mp hd
        rfl)
    rw [syn_le] at q3
    have hf : (syn.filter fun q => decide (q.1 ≤ (v : Int))).map (·.2) = 0 :: (t.filter fun q => decide (q.1 ≤ (v : Int))).map (·.2) := by
      rw [ht, List.filter_cons, if_pos (by simp)]
      rfl
    rw [hf] at q3
    have hsq : seqAt (D4 ++ [O.lst ((0 :: (t.filter fun q => decide (q.1 ≤ (v : Int))).map (·.2)).map D.int)]) D4.length = some ((0 :: (t.filter fun q => decide (q.1 ≤ (v : Int))).map (·.2)).map D.int) := by
      unfold seqAt
      simp [seqO]
    have hti : isTupL (seqAt (D4 ++ [O.lst ((0 :: (t.filter fun q => decide (q.1 ≤ (v : Int))).map (·.2)).map D.int)]) D4.length) = false := by
      rw [hsq]
      rfl
    have hmx : maxI 0 ((t.filter fun q => decide (q.1 ≤ (v : Int))).map (·.2)) ≤ (n : Int) := maxI_le hde0 fun y hy => by
      obtain ⟨q, hq, rfl⟩ := List.mem_map.mp hy
      obtain ⟨hq1, hq2⟩ := List.mem_filter.mp hq
      exact hsyn q (by rw [ht]; exact List.mem_cons_of_mem _ hq1) (by simpa using hq2)
    have i3 := ints_some (0 :: (t.filter fun q => decide (q.1 ≤ (v : Int))).map (·.2))
    simp only [List.map_cons] at q3 hsq hti i3
    generalize (t.filter fun q => decide (q.1 ≤ (v : Int))).map (·.2) = L at q3 hsq hti i3 hmx
    have hnl : ¬ ((n : Int) < maxI 0 L) := by omega
    have hmm := ev_maxX1 hti
    rw [ev_maxR, hsq] at hmm
    have hmm2 : biMaxX [.ref D4.length] (D4 ++ [O.lst (D.int 0 :: L.map D.int)]) = .ok (.int (maxI 0 L)) (D4 ++ [O.lst (D.int 0 :: L.map D.int)]) := by
      rw [hmm]
      show maxO _ (intsOf (D.int 0 :: L.map D.int)) = _
      rw [i3]
      rfl
    simp [hlst, q3, hmm2, hnl]
    exact ⟨w5.app _, by omega⟩
  · rintro E C ⟨e6, e7, e8, e9, e10, w1, rfl, hl⟩
    exact ⟨W7.low w.sto rfl hjl w1 hl h1, rfl⟩
end Lw
set_option Elab.async false
set_option linter.all false
set_option maxRecDepth 100000
set_option maxHeartbeats 4000000
/-! The law (own work). -/
namespace Lw
open PySem DL
theorem s5 {ns : List Int} {P S : Int} {A : AH} {E : DL.Env} {R : D → AH → Prop} {n : Nat} (hn : n ≤ 14) (hP0 : 0 < P) (hP1 : P ≤ 100) (hS0 : 0 < S) (hS1 : S ≤ 100) (h : I4 ns P S none none n E A) : (st_law_5 E A).sat (fun _ _ => True) R := by
  obtain ⟨x, j, Q, hist, syn, w, hde, hsl, rfl⟩ := h
  simp [st_law_5, line, small_of (show (0 : Int) ≤ 8 by decide) (by decide)]
  refine for_sat (src := .seq (upto 0 8)) 8 (fun k E A => I5 ns P S x j Q hist syn E A) (by rw [upto_size]; exact Nat.le_refl _) ⟨{ w with sga := w.sga.mono (by omega) }, rfl⟩ ?_ ?_
  · rintro k E B hk hI
    refine ⟨.int k, upto_at hk _, tsat_of ?_⟩
    exact s5b hP0 hP1 hS0 hS1 hI
  · rintro E B hI
    exact ⟨upto_end _, trivial⟩
theorem pure_law (ns : List Int) (h : ns.length ≤ 63) : ∃ B, F_law [.ref 0] [.rol (ns.map D.int)] = .ok (.bl true) B := by
  have main : (F_law [.ref 0] [.rol (ns.map D.int)]).sat fun d _ => d = .bl true := by
    refine sat_def rfl ?_
    unfold b_law
    refine seq_sat (P0 ns) s0 fun E A h0 => ?_
    refine seq_sat _ (s1 h0) fun E A h1 => ?_
    obtain ⟨P, h1⟩ := h1
    refine seq_sat _ (s2 h1) fun E A h2 => ?_
    obtain ⟨S, h2⟩ := h2
    have hP : P = 2 ∨ P = 3 ∨ P = 5 := h2.1
    have hS : S = P ∨ S = P + 2 ∨ S = P + 6 := h2.2.1
    refine seq_sat _ (s3 h2) fun E A h3 => ?_
    obtain ⟨x, j, Q, hist, syn, w, hde, hsl, rfl⟩ := h3
    refine seq_sat _ (s4 (by omega) (by omega) (by omega) ⟨x, j, Q, hist, syn, w, by simpa using hde, by omega, rfl⟩) fun E A h4 => ?_
    obtain ⟨n, hn, h4⟩ := h4
    refine seq_sat _ (s5 hn (by omega) (by omega) (by omega) (by omega) h4) fun E A _ => ?_
    simp [st_law_6]
    exact gc_bl _ _ _
  obtain ⟨a, B, e, rfl⟩ := sat_iff.mp main
  exact ⟨B, e⟩
end Lw
set_option Elab.async false
set_option linter.all false
set_option maxRecDepth 100000
set_option maxHeartbeats 0
open PySem PySem.W PySem.Calls PyProof.Rows
theorem PySem.Challenge.cw_plugproof_k07_whole_synced_holds : PySem.Challenge.rw_plugproof_k07_whole_synced.Holds := by
  w_on; o_law
  refine HandSHeadRun.head_any (r := OpenLaw.row PySem.Challenge.rw_plugproof_k07_whole_synced) (q := view (OpenLaw.row PySem.Challenge.rw_plugproof_k07_whole_synced).prog [50]) (H := Lw.hk) (ob := Lw.ob) (M := 4000) (loose := Lw.names) (d := HandSHeadRun.topDef (OpenLaw.row PySem.Challenge.rw_plugproof_k07_whole_synced).prog 50) (kwd := []) Lw.ob_eq
    (by kernel_rfl) (fun s => by kernel_rfl) Lw.run (by kernel_rfl) (by kernel_rfl) (by kernel_rfl) (by rfl) (by first | assumption | decide +kernel) (by decide +kernel) ⟨rfl, rfl, rfl, rfl, rfl, by decide +kernel⟩ ?hw ?hc
  case hw => w_witness2
  case hc =>
    refine L2.walk_ofE (l := PySem.Challenge.rw_plugproof_k07_whole_synced) (n := 63) (k := 9) (x := "_law_script") (CX := DL.CXE) rfl (by decide) (by kernel_rfl) ⟨rfl, by decide, by decide⟩ ?F DL.cxe_none
    intro w mg fa h Y G hmg0
    obtain ⟨K, KX, c, cn⟩ := Y
    have hmg : mg ("law" : PySem.Str) = some (.ref fa) := by
      have e : (HandSHeadRun.topDef (OpenLaw.row PySem.Challenge.rw_plugproof_k07_whole_synced).prog 50).name = ("law" : PySem.Str) := by kernel_rfl
      rw [← e]
      exact hmg0
    have S : Lw.Sys K mg := ⟨c, ⟨h, KX, G⟩, cn⟩
    have e : fa = He.ga K "law" := by
      have q := hmg.symm.trans (Lw.g_law S)
      cases q
      rfl
    subst e
    obtain ⟨fd, F⟩ := Lw.lawfd S
    exact ⟨K, fd, _, KX, Lw.law_b F, fun H a ns hl _ hS => DL.end_law hS (Lw.pure_law ns hl), fun base _ _ => DL.wide (Lw.ok_law_F S F)⟩
