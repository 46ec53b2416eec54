import PyProof.Rows.All
import HandS.HeadHook1
import HandS.HeadHook2
import Wide.All
import OpenK.AllK
import Wide.FinOn
import KE.KSuper
import KE.KExcInit
import KE.KExcSuper
import HandS.Base
import HandS.Call
import HandS.Exc
import HandS.ExcSuper
import KE.KStateDown
import Lean
import HandS.ForMost
import HandS.WordsExc
import HandS.Defaults
import HandS.Head0
import HandS.Head1
import HandS.Head2
import HandS.HeadEnd
import PySem.Challenge.RW_plugproof_k70_whole_readings
import PyProof.P3Statements
import PyProof.EqLayable
import HandS.Style
import HandS.TupMul
import HandS.TupAny
import HandS.SortInts
import HandS.IsInst
import HandS.Zip
import HandS.DictComp
import HandS.CallSlots
import HandS.HotCalls
import KE.KStar
import KE.GoesMore
import KE.GoesEnum
import HandS.Conv
import KE.KDictList
import HandS.Small
import HandS.Deep
import HandS.SetFor
import HandS.More
import HandS.Dict
import KE.DataMinMax
import KE.DataEq
import HandS.TryOnly
import HandS.TryMany
import HandS.Comp
import HandS.OwnEq
import HandS.NamedTupSort
import PyProof.InstEq
import PyProof.EqAt
import PyProof.EqKinds
import PyProof.TupleCall
import PyProof.Rows.SortShell
import KE.KSortTup
import HandS.List
import HandS.Sort
import HandS.SortOrd
import HandS.SortRule
import KE.KDictZip
import PyProof.ListNew
import HandS.ListItems
set_option Elab.async false
set_option linter.all false
set_option maxRecDepth 100000
/-! The head's facts with names that stand for None (own work). -/
namespace DL
open PySem PySem.Spec PyProof.Rows L2
def nonB (K : PySem.W.Frag) (x : Str) : Bool := He.eqO (PySem.W.nsIn K mainGlobals x) (some (some .none))
abbrev AlN : Type := Bool × He.AlD
def obsN (nn : List Str) (fa : List He.Fa) (fn : List He.DefD) (K : PySem.W.Frag) : AlN := (nn.all (nonB K), He.obsD fa fn K)
def valN (fn : List He.DefD) : AlN := (true, He.valD fn)
def obsNG (n : Nat) (nn : List Str) (fa : List He.Fa) (fn : List He.DefD) (g : Addr → Option Obj) : AlN := obsN nn fa fn (He.frG g (He.asD g n))
def SaysN (nn : List Str) (K : PySem.W.Frag) : Prop := nn.all (nonB K) = true
def hookN (n : Nat) (nn : List Str) (fa : List He.Fa) (fn : List He.DefD) : PySem.W.Hook where
  α := AlN
  obs := fun s => obsNG n nn fa fn s.heap.get?
  val := fun _ => valN fn
  says := fun _ h => ∃ K : PySem.W.Frag, K.In h ∧ He.SaysD fa fn K ∧ SaysN nn K
  of := fun _ _ e => ⟨_, He.frG_in, congrArg (fun z : AlN => z.2) e, congrArg (fun z : AlN => z.1) e⟩
  keeps := fun _ _ _ ⟨K, hK, c⟩ k => ⟨K, PySem.W.Frag.In.keeps hK k, c⟩
theorem obsNG_eq {n : Nat} {nn : List Str} {fa : List He.Fa} {fn : List He.DefD} {g : Addr → Option Obj} {s : Shared} (h : ∀ a, g a = s.heap.get? a) : obsNG n nn fa fn g = (hookN n nn fa fn).obs s := by
  have e : g = s.heap.get? := funext h
  rw [e] <;> rfl
theorem non_ok {K : PySem.W.Frag} {h : Heap} {mg : Str → Option Value} {nn : List Str} {x : Str} (X : K.In h) (G : h.Ns mainGlobals mg) (c : SaysN nn K) (i : Nat) (hx : nn[i]? = some x) : mg x = some .none :=
  PySem.W.mg_of X G (He.eqO_ok (List.all_eq_true.mp c x (List.mem_of_getElem? hx)))
end DL
set_option Elab.async false
set_option linter.all false
set_option maxRecDepth 100000
set_option maxHeartbeats 4000000
/-! An own error any number of own classes below Exception, whose __init__ says super().__init__("..") and may store one field (own work). -/
namespace PySem
namespace DLX
open PySem.W PySem.Calls PyProof.Rows PySem.HandSPX
abbrev exTl : List Value := ESX.exTail
/-! ### storing a field of a fresh exception -/
section
open Builtin Builtin.ObjectAttr
variable {prog : Program} {w : World} {A : Around} {E : Value → Shared → Prop} {R : Result → Shared → Prop} {hp : Heap} {g : Array GenState} {d : Drawn} {t : Nat} {os : OsState}
theorem mro_has {K : W.Frag} {C : Addr} {cd : ClassData} {bm : List Value} (hcd : W.clsIn K C = some cd) (hm : cd.mro = .ref C :: bm) {b : Value} (hb : (Value.ref C :: bm).contains b = true) : W.mroIn K C b = some true := by
  unfold W.mroIn
  rw [hcd, Option.bind_some, hm, if_neg (show ¬ (List.isEmpty (Value.ref C :: bm) = true) from Bool.false_ne_true), hb]
theorem osa_new {K : W.Frag} {name : Str} {tk : Tok} {v : Value} {x C : Addr} {fv : Array Value} {cd : ClassData} {bm : List Value}
    (X : K.In hp) (hx : hp.get? x = some { cls := .ref C, data := .fields fv }) (hcd : W.clsIn K C = some cd) (hm : cd.mro = .ref C :: bm) (ht : excTail exTl bm = true) (hh : cd.hasDict = true) (ha : W.findIn K (.ref C) name = some none)
    (hq : ∀ h' tk' dx, (∀ b o, b ≠ x → hp.get? b = some o → h'.get? b = some o) → hp.objs.size ≤ dx → dx ≠ x → h'.get? x = some { cls := .ref C, dict := some dx, data := .fields fv } →
      h'.Ns1 dx (fun y => if y = name then some v else none) → R (.ok (.ret .none)) ⟨h', g, d, tk', os⟩) :
    codeAny (model prog w) A (.call (.builtin "object.__setattr__") ⟨[.ref x, .str name tk, v], []⟩) R ⟨hp, g, d, t, os⟩ := by
  have I : W.InstAt hp x { cls := .ref C, data := .fields fv } C none := ⟨hx, rfl, rfl, trivial⟩
  have hxs : x ≠ hp.objs.size := Nat.ne_of_lt (Heap.lt_size hx)
  have SF := F.store_object
  have hob : (Value.ref C :: bm).contains (.type "object") = true := by rw [List.contains_cons, excTail_contains "object" _ ht, show exTl.contains (.type "object") = true by decide +kernel, Bool.or_true]
  have sub : W.Looks (model prog w) hp (isInstance (.ref x) (.type "object")) true := I.type.andThen (W.looks_mroIn X (mro_has hcd hm hob))
  refine codeAny_call_builtin SF.slot.plain SF.entry (@W.check_slot (model prog w) _ _ ⟨hp, g, d, t, os⟩ "object.__setattr__" "object" "__setattr__" (.ref x) [.str name tk, v] [] _ SF.kind SF.split sub (SF.args (.ref x) (.str name tk) v) ?_)
  have hmr : W.Looks (model prog w) hp (mroOf (.ref C)) cd.mro := (W.looks_clsIn X hcd).andThen .now
  have L3 : W.Looks (model prog w) hp (storeTaker? none) none := .now
  have hpass : refuseLoop (.ref x) "__setattr__" cd.mro = pure () := by
    rw [hm, refuseLoop_ref]
    exact excTail_pass _ (F.store_Exception.passes _) _ ht
  rw [W.osa_eq, refuse_eq]
  refine wpAny_bind (wpAny_bind (I.type.at (wpAny_bind (hmr.at ?_))))
  rw [hpass]
  refine wpAny_pure (wpAny_bind (I.type.at (wpAny_bind ((W.looks_findIn X ha).at (wpAny_bind (L3.at ?_))))))
  have hcls : W.Looks (model prog w) hp (classData C) cd := W.looks_clsIn X hcd
  obtain ⟨nm, bs, mro, ns, qn, hd, sn, sb, ab, col, del⟩ := cd
  dsimp only at hh
  subst hh
  show wpAny _ _ (storeInOwnDict (.ref x) (.ref C) (.str name tk) name v false) _ _ _
  unfold storeInOwnDict ownDictForStores
  repeat (first | with_reducible refine HandSPX.store_in_new ?_ ?_ | with_reducible refine wpAny_loadPart_at hx ?_ | with_reducible refine hcls.at ?_ | wp_step)
  · exact ⟨_, #[], _, (Heap.get?_update_ne _ _ _ _ hxs.symm).trans (Heap.get?_push_at rfl rfl), rfl, fun e he => absurd he (by simp), fun _ => rfl⟩
  · intro h' tk' hn' hs
    have hx₁ : (hp.push { cls := .type "dict", data := .dict #[] }).get? x = some { cls := .ref C, data := .fields fv } := Heap.get?_push_of_some _ hx
    refine hq h' tk' hp.objs.size (fun b o hb ho => ?_) (Nat.le_refl _) hxs.symm ?_ hn'
    · exact (hs.2 b (Nat.ne_of_lt (Heap.lt_size ho))).trans ((Heap.get?_update_ne _ _ _ _ hb).trans (Heap.get?_push_of_some _ ho))
    · exact (hs.2 x hxs).trans (Heap.get?_update_self _ hx₁ rfl)
end

/-! ### the text of __init__ -/
def xA1 (par : Str) (p1 p2 : Pos) : Arguments := { posonlyargs := [], args := [{ arg := "self", annotation := none, pos := p1 }, { arg := par, annotation := none, pos := p2 }], vararg := none, kwonlyargs := [], kw_defaults := [], kwarg := none, defaults := [] }
def xA0 (p1 : Pos) : Arguments := { posonlyargs := [], args := [{ arg := "self", annotation := none, pos := p1 }], vararg := none, kwonlyargs := [], kw_defaults := [], kwarg := none, defaults := [] }
def xSt (txt : Str) (j : Nat) (q0 q1 q2 q3 q4 q5 : Pos) : Stmt := .Expr (.Call (.Attribute (.Call (.Name "super" q0) [] [] q1) "__init__" q2) [.Constant (.str txt) j q3] [] q4) q5
def xB0 (txt : Str) (j : Nat) (q0 q1 q2 q3 q4 q5 : Pos) : List Stmt := [xSt txt j q0 q1 q2 q3 q4 q5]
def xB1 (par txt : Str) (j : Nat) (q0 q1 q2 q3 q4 q5 q6 q7 q8 q9 : Pos) : List Stmt := [xSt txt j q0 q1 q2 q3 q4 q5, .Assign [.Attribute (.Name "self" q6) par q7] (.Name par q8) q9]
/-- what the written part says of an own error's class at C, of its __init__ at fI -/
structure XT (K : Frag) (file : Str) (C fI : Addr) (params : Arguments) (body : List Stmt) (scope : Scope) (qual : Str) : Prop where
  ini : excInitIn K C exTl "Exception.__new__" = true
  sa : findIn K (.ref C) "__setattr__" = some (some (.builtin "object.__setattr__"))
  ga : findIn K (.ref C) "__getattribute__" = some (some (.builtin "BaseException.__getattribute__"))
  gg : findIn K (.ref C) "__getattr__" = some none
  iC : findIn K (.ref C) "__init__" = some (some (.ref fI))
  tC : typeIn K (.ref fI) = some (.type "function")
  kC : keepIn K (.ref C) = true
  exB : subIn K (.ref C) (.type "BaseException") = some true
  exE : subIn K (.ref C) (.type "Exception") = some true
  tyC : typeIn K (.ref C) = some (.type "type")
  hdC : hasDictIn K C = true
  sup : ks_superIn K C C "__init__" = some (some (.builtin "Exception.__init__"))
  selfC : mroIn K C (.ref C) = some true
  opq : nsIn K cStatics "thirdparty.any" = some none
  fn : ∃ (oc : Value) (od : Option Addr) (kV doc pm : Value) (an : Option Addr) (cda : Addr) (ct : Value) (cc : Addr) (osl : Array (Option Value)),
    K.lookup fI = some ⟨oc, od, .func (ksFn "__init__" qual params body scope .none kV doc pm an (.ref cda) ct cc), osl⟩ ∧ codeIn K (.ref cda) qual = true ∧
    (∃ (ccl : Value) (cdd : Option Addr) (vs : Array Value) (ccs : Array (Option Value)) (tf : Tok), K.lookup cda = some ⟨ccl, cdd, .fields vs, ccs⟩ ∧ vs[2]? = some (.str file tf)) ∧
    ∃ (cl : Value) (cld : Option Addr) (csl : Array (Option Value)), K.lookup cc = some ⟨cl, cld, .cell (some (.ref C)), csl⟩
/-- the def's names -/
structure XS (scope : Scope) : Prop where
  self : scope.names.lookup ("self" : Str) = some .local
  sup : scope.names.lookup ("super" : Str) = some .globalImplicit
  cls : scope.names.lookup ("__class__" : Str) = some .free
  nocell : ∀ x ∈ scope.names, x.2 ≠ .cell
  co : scope.isCoroutine = false
  gen : scope.isGenerator = false
  kind : scope.kind = .function
/-- what the module and the program say -/
structure XM (prog : Program) (mg : Str → Option Value) (file : Str) : Prop where
  file : ((prog.main.file : Str) == file) = true
  top : (prog.main.scope.names.lookup ("super" : Str)).isSome = false
  mg : mg "super" = none
/-- what __init__ leaves of a fresh exception at x -/
structure End1 (h h' : Heap) (x C dx t1 : Addr) (par : Str) (v : Value) : Prop where
  keep : ∀ b o, b ≠ x → h.get? b = some o → h'.get? b = some o
  obj : h'.get? x = some { cls := .ref C, dict := some dx, data := .fields #[.ref t1, .none, .none, .none, .bool false, .none] }
  dbig : h.objs.size ≤ dx
  dne : dx ≠ x
  ns : h'.Ns1 dx (fun y => if y = par then some v else none)
structure End0 (h h' : Heap) (x C t1 : Addr) : Prop where
  keep : ∀ b o, b ≠ x → h.get? b = some o → h'.get? b = some o
  obj : h'.get? x = some (excO C t1)
theorem kept_but {K : Frag} {h h' : Heap} {x : Addr} (X : K.In h) (hx : K.lookup x = none) (k : ∀ b o, b ≠ x → h.get? b = some o → h'.get? b = some o) : K.In h' := fun a o e =>
  k a o (fun z => by rw [z, hx] at e; cases e) (X a o e)
section
variable {prog : Program} {w : World} {A : Around} {E : Value → Shared → Prop} {R : Result → Shared → Prop} {s : Shared} {K : Frag} {mg mb : Str → Option Value} {file : Str} {C fI : Addr} {params : Arguments} {body : List Stmt} {scope : Scope} {qual : Str}
theorem ev_super (o : Expr) (name : Str) (apos pos q3 : Pos) (txt : Str) (j : Nat) (env : Env) (hl : (apos.endLine == pos.line) = true) : ∃ pl, eval (.Call (.Attribute o name apos) [.Constant (.str txt) j q3] [] pos) env = (do
      let ov ← attributeBase o name env (eval o env)
      standAt apos.atName
      let (f, first) ← holding [ov] (getMethod ov name pl)
      callWith pos f first (backTo pos (starEach [.Constant (.str txt) j q3] env)) []) := by
  refine ⟨do return (← importBound o env).getD true, ?_⟩
  have e : methodCallPos true o env apos pos = pure pos := by
    unfold methodCallPos
    simp [hl]
  show (do
    let ov ← attributeBase o name env (eval o env)
    standAt apos.atName
    let (f, first) ← holding [ov] (getMethod ov name do return (← importBound o env).getD true)
    let callPos ← methodCallPos true o env apos pos
    callWith callPos f first (backTo pos (starEach [.Constant (.str txt) j q3] env)) []) = _
  rw [e]
  rfl
/-- super().__init__("..") in the body -/
theorem run_super {txt : Str} {j : Nat} {q0 q1 q2 q3 q4 q5 : Pos} {x t0 L cda cc : Addr} {bd : List Stmt} {oc : Value} {od : Option Addr} {fd : FuncData} {osl : Array (Option Value)} {ar : Arg} {m : Str → Option Value} {Q : Flow → Shared → Prop} {QE : Value → Shared → Prop}
    (hl : (q2.endLine == q4.line) = true) (T : XT K file C fI params body scope qual) (S : XS scope) (M : XM prog mg file) (X : K.In s.heap) (hg : s.heap.Ns mainGlobals mg) (hb : s.heap.Ns builtinsNs mb) (hbb : ∀ x : Str, x ≠ "__name__" → mb x = bootBuiltins x)
    (hf : K.lookup fI = some ⟨oc, od, .func fd, osl⟩) (hp : (fd.params.posonlyargs ++ fd.params.args).head? = some ar) (har : ar.arg = "self") (hn : s.heap.Ns L m) (hv : m "self" = some (.ref x))
    (hcode : ∃ (ccl : Value) (cdd : Option Addr) (vs : Array Value) (ccs : Array (Option Value)) (tf : Tok), K.lookup cda = some ⟨ccl, cdd, .fields vs, ccs⟩ ∧ vs[2]? = some (.str file tf))
    (hcell : ∃ (cl : Value) (cld : Option Addr) (csl : Array (Option Value)), K.lookup cc = some ⟨cl, cld, .cell (some (.ref C)), csl⟩)
    (hx : s.heap.get? x = some (excO C t0)) (hnx : K.lookup x = none) (hxL : x ≠ L)
    (h : ∀ h' t1 tk, (∀ b o, b ≠ x → s.heap.get? b = some o → h'.get? b = some o) → h'.get? x = some (excO C t1) → Q .next { s with heap := h', toks := tk }) :
    _root_.PySem.wpAt (model prog w) A (.func bd (ksEnv qual scope L fI (.ref cda) cc)) (exec (xSt txt j q0 q1 q2 q3 q4 q5) (ksEnv qual scope L fI (.ref cda) cc)) Q QE s := by
  obtain ⟨ccl, cdd, vs, ccs, tf, hcode, hvs⟩ := hcode
  obtain ⟨cl, cld, csl, hcell⟩ := hcell
  obtain ⟨hh, g, d, t, os⟩ := s
  obtain ⟨nm, N', qn, bs, bm, hdct, sn, sub, ab, col, dd, k0, k1, k2, k3, k5, hC, hT⟩ := excInit_of X T.ini
  obtain ⟨pl, hev⟩ := ev_super (.Call (.Name "super" q0) [] [] q1) "__init__" q2 q4 q3 txt j (ksEnv qual scope L fI (.ref cda) cc) hl
  refine ks_wpAt_Expr_any (ks_wpAt_MethodCall (pl := pl) ?_ hev) (by simp [interactive, S.kind]) rfl
  refine ks_wpAt_super_base (env := ksEnv qual scope L fI (.ref cda) cc) S.sup S.cls (by decide) rfl (X _ _ hf) rfl hp rfl (X _ _ hcode) rfl hvs M.file M.top ?_
  refine ks_loadName_global S.kind S.sup (loadGlobal_builtin (env := ksEnv qual scope L fI (.ref cda) cc) hg M.mg hb ((hbb _ (by decide +kernel)).trans (by first | boot_by_name | rfl | kernel_rfl)) ⟨rfl, ?_⟩)
  refine wpAny_loadName_free S.kind S.cls rfl ⟨_, X _ _ hcell, rfl⟩ ?_
  rw [har]
  refine wpAny_loadName_local S.kind S.self hn hv ?_
  refine ks_wpAny_isType_cls hC rfl ⟨rfl, ?_⟩
  refine ks_wpAny_call_super hC rfl hx rfl (fun c e => by cases e) (looks_mroIn X T.selfC) (fun h1 e1 k1 => ?_)
  have X1 : K.In h1 := X.keeps k1
  have hx1 := k1 _ _ hx
  have I1 : W.InstAt h1 x (excO C t0) C none := ⟨hx1, rfl, rfl, trivial⟩
  have hin : Looks (model prog w) h1 (isInstance (.ref x) (.type "Exception")) true := I1.type.andThen (looks_subIn X1 T.exE)
  have hsup := T.sup
  cases hc : clsIn K C with
  | none => unfold ks_superIn at hsup; rw [hc] at hsup; cases hsup
  | some cd =>
    unfold ks_superIn at hsup
    rw [hc] at hsup
    refine ESX.getMethod_super e1 (looks_opaque X1 T.opq) (l₀ := cd.mro) ?_ rfl X1 hsup (ks_ne X1 I1 hc) (by decide) hin ?_
    · exact fun A Q E s k q => wpAny_bind ((looks_clsIn X1 hc) A _ E s k (wpAny_pure q))
    have hu : (h1.push (ESX.bw x)).get? h1.objs.size = some (ESX.bw x) := Heap.get?_push_at rfl rfl
    have k2 : ∀ b o, h1.get? b = some o → (h1.push (ESX.bw x)).get? b = some o := fun b o e => Heap.get?_push_of_some _ e
    refine ESX.callWith_bound (x := x) ?_
    refine spliced_cons (Calls.Constant_str (k := j) (pos := q3) ?_)
    refine spliced_nil ⟨hu, ?_⟩
    refine ESX.call_bw ((k2 _ _ (k1 _ _ hC))) (k2 _ _ hx1) hu (by rw [sizeLine_eq]; exact (by decide : 1 ≤ 16777216)) (fun h3 t1 k3 e3 => ?_)
    exact h h3 t1 _ (fun b o hb e => k3 b o hb (k2 b o (k1 b o e))) e3
theorem x_init1 {par txt : Str} {j : Nat} {p1 p2 q0 q1 q2 q3 q4 q5 q6 q7 q8 q9 : Pos} {x t0 : Addr} {v : Value} (hl : (q2.endLine == q4.line) = true)
    (T : XT K file C fI (xA1 par p1 p2) (xB1 par txt j q0 q1 q2 q3 q4 q5 q6 q7 q8 q9) scope qual) (hB : ∀ (kV doc pm : Value) (an : Option Addr) (cdv ct : Value) (cc : Addr) (u v : Value), bindArgs (ksFn "__init__" qual (xA1 par p1 p2) (xB1 par txt j q0 q1 q2 q3 q4 q5 q6 q7 q8 q9) scope .none kV doc pm an cdv ct cc) ⟨[u, v], []⟩ = pure [(("self" : Str), u), (par, v)]) (S : XS scope) (hpar : scope.names.lookup par = some .local) (hps : par ≠ ("self" : Str)) (hpd : (par == ("__debug__" : Str)) = false) (hno : findIn K (.ref C) par = some none) (M : XM prog mg file)
    (X : K.In s.heap) (hg : s.heap.Ns mainGlobals mg) (hb : ∃ mb, s.heap.Ns builtinsNs mb ∧ ∀ x : Str, x ≠ "__name__" → mb x = bootBuiltins x) (hlim : s.heap.NoLimit) (hx : s.heap.get? x = some (excO C t0)) (hnx : K.lookup x = none) (hroom : A.depth < recursionLimit)
    (hq : ∀ h' tk dx t1, End1 s.heap h' x C dx t1 par v → R (.ok (.ret .none)) { s with heap := h', toks := tk }) :
    codeAny (model prog w) A (.call (.ref fI) ⟨[.ref x, v], []⟩) R s := by
  obtain ⟨oc, od, kV, doc, pm, an, cda, ct, cc, osl, ho, hcd, hcode, hcell⟩ := T.fn
  obtain ⟨mb, hbn, hbb⟩ := hb
  refine ks_codeAny_call_defAt (fd := ksFn "__init__" qual (xA1 par p1 p2) (xB1 par txt j q0 q1 q2 q3 q4 q5 q6 q7 q8 q9) scope .none kV doc pm an (.ref cda) ct cc) (body := xB1 par txt j q0 q1 q2 q3 q4 q5 q6 q7 q8 q9) (binds := [("self", .ref x), (par, v)])
    hroom (X _ _ ho) rfl hlim (codeRec_of X hcd) rfl (BindsTo.of_eq (hB ..)) S.nocell (fun y hy => ?_) (fun h₁ hns hk₁ => ?_) S.co S.gen S.kind
  · rcases List.mem_cons.mp hy with rfl | hy
    · exact S.self
    · rw [List.mem_singleton.mp hy]
      exact hpar
  have hm1 : (fun y => List.lookup y ([(("self" : Str), Value.ref x), (par, v)].reverse)) ("self" : Str) = some (.ref x) := by
    have e1 : ((("self" : Str)) == par) = false := by simpa using fun z => hps z.symm
    simp [List.lookup, e1]
  have hm2 : (fun y => List.lookup y ([(("self" : Str), Value.ref x), (par, v)].reverse)) par = some v := by simp [List.lookup]
  have X1 : K.In h₁ := X.keeps hk₁
  have hxL : x ≠ s.heap.objs.size := Nat.ne_of_lt (Heap.lt_size hx)
  refine ks_wpAt_execs_cons (run_super (s := { s with heap := h₁, toks := s.toks + 2 }) (A := A.deeper _) hl T S M X1 (hg.keeps hk₁) (hbn.keeps hk₁) hbb ho rfl rfl hns hm1 hcode hcell (hk₁ _ _ hx) hnx hxL (fun h2 t1 tk k2 e2 => ?_))
  have X2 : K.In h2 := kept_but X1 hnx k2
  have hns2 : h2.Ns s.heap.objs.size (fun y => List.lookup y ([(("self" : Str), Value.ref x), (par, v)].reverse)) := by
    obtain ⟨oL, es, ep, hL, r⟩ := hns
    exact ⟨oL, es, ep, k2 _ _ hxL.symm hL, r⟩
  obtain ⟨cd, hcl, hmr⟩ : ∃ cd, clsIn K C = some cd ∧ ∃ bm, cd.mro = .ref C :: bm ∧ excTail exTl bm = true ∧ cd.hasDict = true := by
    have hd := T.hdC
    have hi := T.ini
    unfold excInitIn at hi
    split at hi
    · rename_i dd cd sl hC0
      split at hi
      · rename_i C' bm k0 k1 k2 k3 n k5 hm hs
        simp only [Bool.and_eq_true, beq_iff_eq, Bool.not_eq_true'] at hi
        obtain ⟨⟨⟨rfl, rfl⟩, hdel⟩, ht⟩ := hi
        have hcl : clsIn K C' = some cd := by unfold clsIn; rw [hC0] <;> rfl
        refine ⟨cd, hcl, bm, hm, ht, ?_⟩
        unfold hasDictIn at hd
        rw [hcl] at hd
        simpa using hd
      · cases hi
    · cases hi
  obtain ⟨bm, hm, ht, hh⟩ := hmr
  refine wpAt_of_wpAny (wpAny_execs_cons (plainObj_wpAny_Assign_Attribute ?_))
  refine ESX.ldL (v := v) hns2 hm2 (ESX.ldL (v := .ref x) hns2 hm1 ?_ S.kind S.self (by decide)) S.kind hpar hpd
  refine set_plain X2 (ox := excO C t1) (od := none) ⟨e2, rfl, rfl, trivial⟩ T.sa ?_
  refine osa_new X2 e2 hcl hm ht hh hno (fun h₃ tk₃ dx k₃ dn dne hx₃ hn₃ => ?_)
  have z : s.heap.objs.size ≤ h2.objs.size := Nat.le_of_lt hns2.lt
  exact wpAny_execs_nil (hq h₃ tk₃ dx t1 ⟨fun b o hb' e => k₃ b o hb' (k2 b o hb' (hk₁ b o e)), hx₃, Nat.le_trans z dn, dne, hn₃⟩)
theorem x_init0 {txt : Str} {j : Nat} {p1 q0 q1 q2 q3 q4 q5 : Pos} {x t0 : Addr} (hl : (q2.endLine == q4.line) = true)
    (T : XT K file C fI (xA0 p1) (xB0 txt j q0 q1 q2 q3 q4 q5) scope qual) (hB : ∀ (kV doc pm : Value) (an : Option Addr) (cdv ct : Value) (cc : Addr) (u : Value), bindArgs (ksFn "__init__" qual (xA0 p1) (xB0 txt j q0 q1 q2 q3 q4 q5) scope .none kV doc pm an cdv ct cc) ⟨[u], []⟩ = pure [(("self" : Str), u)]) (S : XS scope) (M : XM prog mg file)
    (X : K.In s.heap) (hg : s.heap.Ns mainGlobals mg) (hb : ∃ mb, s.heap.Ns builtinsNs mb ∧ ∀ x : Str, x ≠ "__name__" → mb x = bootBuiltins x) (hlim : s.heap.NoLimit) (hx : s.heap.get? x = some (excO C t0)) (hnx : K.lookup x = none) (hroom : A.depth < recursionLimit)
    (hq : ∀ h' tk t1, End0 s.heap h' x C t1 → R (.ok (.ret .none)) { s with heap := h', toks := tk }) :
    codeAny (model prog w) A (.call (.ref fI) ⟨[.ref x], []⟩) R s := by
  obtain ⟨oc, od, kV, doc, pm, an, cda, ct, cc, osl, ho, hcd, hcode, hcell⟩ := T.fn
  obtain ⟨mb, hbn, hbb⟩ := hb
  refine ks_codeAny_call_defAt (fd := ksFn "__init__" qual (xA0 p1) (xB0 txt j q0 q1 q2 q3 q4 q5) scope .none kV doc pm an (.ref cda) ct cc) (body := xB0 txt j q0 q1 q2 q3 q4 q5) (binds := [("self", .ref x)])
    hroom (X _ _ ho) rfl hlim (codeRec_of X hcd) rfl (BindsTo.of_eq (hB ..)) S.nocell (fun y hy => ?_) (fun h₁ hns hk₁ => ?_) S.co S.gen S.kind
  · rw [List.mem_singleton.mp hy]
    exact S.self
  have hm1 : (fun y => List.lookup y ([(("self" : Str), Value.ref x)].reverse)) ("self" : Str) = some (.ref x) := by simp [List.lookup]
  have X1 : K.In h₁ := X.keeps hk₁
  have hxL : x ≠ s.heap.objs.size := Nat.ne_of_lt (Heap.lt_size hx)
  refine ks_wpAt_execs_cons (run_super (s := { s with heap := h₁, toks := s.toks + 1 }) (A := A.deeper _) hl T S M X1 (hg.keeps hk₁) (hbn.keeps hk₁) hbb ho rfl rfl hns hm1 hcode hcell (hk₁ _ _ hx) hnx hxL (fun h2 t1 tk k2 e2 => ?_))
  exact wpAt_of_wpAny (wpAny_execs_nil (hq h2 tk t1 ⟨fun b o hb' e => k2 b o hb' (hk₁ b o e), e2⟩))
/-- a made error -/
structure Made1 (h h' : Heap) (e C d : Addr) (par : Str) (v : Value) : Prop where
  keep : ∀ b o, h.get? b = some o → h'.get? b = some o
  new : h.objs.size ≤ e
  obj : ∃ oe vs, h'.get? e = some oe ∧ oe.cls = .ref C ∧ oe.dict = some d ∧ oe.data = .fields vs ∧ vs[1]? = some .none ∧ vs[2]? = some .none
  dbig : h.objs.size ≤ d
  dne : d ≠ e
  ns : h'.Ns1 d (fun y => if y = par then some v else none)
structure Made0 (h h' : Heap) (e C : Addr) : Prop where
  keep : ∀ b o, h.get? b = some o → h'.get? b = some o
  new : h.objs.size ≤ e
  obj : ∃ oe vs, h'.get? e = some oe ∧ oe.cls = .ref C ∧ oe.dict = none ∧ oe.data = .fields vs ∧ vs[1]? = some .none ∧ vs[2]? = some .none
theorem x_made1 {par txt : Str} {j : Nat} {p1 p2 q0 q1 q2 q3 q4 q5 q6 q7 q8 q9 : Pos} {v : Value} (hl : (q2.endLine == q4.line) = true)
    (T : XT K file C fI (xA1 par p1 p2) (xB1 par txt j q0 q1 q2 q3 q4 q5 q6 q7 q8 q9) scope qual) (hB : ∀ (kV doc pm : Value) (an : Option Addr) (cdv ct : Value) (cc : Addr) (u v : Value), bindArgs (ksFn "__init__" qual (xA1 par p1 p2) (xB1 par txt j q0 q1 q2 q3 q4 q5 q6 q7 q8 q9) scope .none kV doc pm an cdv ct cc) ⟨[u, v], []⟩ = pure [(("self" : Str), u), (par, v)]) (S : XS scope) (hpar : scope.names.lookup par = some .local) (hps : par ≠ ("self" : Str)) (hpd : (par == ("__debug__" : Str)) = false) (hno : findIn K (.ref C) par = some none) (M : XM prog mg file)
    (X : K.In s.heap) (hg : s.heap.Ns mainGlobals mg) (hb : ∃ mb, s.heap.Ns builtinsNs mb ∧ ∀ x : Str, x ≠ "__name__" → mb x = bootBuiltins x) (hlim : s.heap.NoLimit) (hroom : A.depth + 1 < recursionLimit)
    (hq : ∀ h' tk e d, Made1 s.heap h' e C d par v → R (.ok (.ret (.ref e))) { s with heap := h', toks := tk }) :
    codeAny (model prog w) A (.call (.ref C) ⟨[v], []⟩) R s := by
  obtain ⟨nm, N', qn, bs, bm, hdct, sn, sub, ab, col, dd, k0, k1, k2, k3, k5, hC, hT⟩ := excInit_of X T.ini
  obtain ⟨hp, g, dr, tk, os⟩ := s
  have k : ∀ b o, hp.get? b = some o → ((hp.push (kdv_tup [v])).push (excO C hp.objs.size)).get? b = some o := fun b o e => Heap.get?_push_of_some _ (Heap.get?_push_of_some _ e)
  have hget : ((hp.push (kdv_tup [v])).push (excO C hp.objs.size)).get? (hp.objs.size + 1) = some (excO C hp.objs.size) := by heap_get
  have hnx : K.lookup (hp.objs.size + 1) = none := by
    cases e : K.lookup (hp.objs.size + 1) with
    | none => rfl
    | some o =>
      have z : hp.get? (hp.objs.size + 1) = some o := X _ _ e
      exact absurd (Nat.lt_of_succ_lt (Heap.lt_size z)) (Nat.lt_irrefl _)
  refine call_own F.excBase_Exception hT hC (looks_findIn X T.iC) (fun self => bind_fn X self T.tC) (by rw [sizeLine_eq]; exact (by decide : 1 ≤ 16777216)) ?_
  refine x_init1 (s := ⟨(hp.push (kdv_tup [v])).push (excO C hp.objs.size), g, dr, tk, os⟩) hl T hB S hpar hps hpd hno M (X.keeps k) (hg.keeps k) (by obtain ⟨mb, b1, b2⟩ := hb; exact ⟨mb, b1.keeps k, b2⟩) (hlim.keeps k) hget hnx ?_ fun h' tk' dx t1 ⟨k', hx, dn, dne, hns⟩ => ?_
  · show A.depth + 1 < recursionLimit
    exact hroom
  · have old : ∀ b o, hp.get? b = some o → h'.get? b = some o := fun b o e => k' b o (Nat.ne_of_lt (Nat.lt_succ_of_lt (Heap.lt_size e))) (k b o e)
    have z : hp.objs.size + 1 + 1 ≤ dx := by
      first
        | (simpa only [Heap.size_push] using dn)
        | exact dn
        | (have q := dn; rw [Heap.size_push, Heap.size_push] at q; exact q)
    exact ⟨rfl, hq h' tk' (hp.objs.size + 1) dx ⟨old, Nat.le_succ _, ⟨_, _, hx, rfl, rfl, rfl, rfl, rfl⟩, Nat.le_trans (Nat.le_trans (Nat.le_succ _) (Nat.le_succ _)) z, dne, hns⟩⟩
theorem x_made0 {txt : Str} {j : Nat} {p1 q0 q1 q2 q3 q4 q5 : Pos} (hl : (q2.endLine == q4.line) = true)
    (T : XT K file C fI (xA0 p1) (xB0 txt j q0 q1 q2 q3 q4 q5) scope qual) (hB : ∀ (kV doc pm : Value) (an : Option Addr) (cdv ct : Value) (cc : Addr) (u : Value), bindArgs (ksFn "__init__" qual (xA0 p1) (xB0 txt j q0 q1 q2 q3 q4 q5) scope .none kV doc pm an cdv ct cc) ⟨[u], []⟩ = pure [(("self" : Str), u)]) (S : XS scope) (M : XM prog mg file)
    (X : K.In s.heap) (hg : s.heap.Ns mainGlobals mg) (hb : ∃ mb, s.heap.Ns builtinsNs mb ∧ ∀ x : Str, x ≠ "__name__" → mb x = bootBuiltins x) (hlim : s.heap.NoLimit) (hroom : A.depth + 1 < recursionLimit)
    (hq : ∀ h' tk e, Made0 s.heap h' e C → R (.ok (.ret (.ref e))) { s with heap := h', toks := tk }) :
    codeAny (model prog w) A (.call (.ref C) ⟨[], []⟩) R s := by
  obtain ⟨nm, N', qn, bs, bm, hdct, sn, sub, ab, col, dd, k0, k1, k2, k3, k5, hC, hT⟩ := excInit_of X T.ini
  obtain ⟨hp, g, dr, tk, os⟩ := s
  have k : ∀ b o, hp.get? b = some o → ((hp.push (kdv_tup [])).push (excO C hp.objs.size)).get? b = some o := fun b o e => Heap.get?_push_of_some _ (Heap.get?_push_of_some _ e)
  have hget : ((hp.push (kdv_tup [])).push (excO C hp.objs.size)).get? (hp.objs.size + 1) = some (excO C hp.objs.size) := by heap_get
  have hnx : K.lookup (hp.objs.size + 1) = none := by
    cases e : K.lookup (hp.objs.size + 1) with
    | none => rfl
    | some o =>
      have z : hp.get? (hp.objs.size + 1) = some o := X _ _ e
      exact absurd (Nat.lt_of_succ_lt (Heap.lt_size z)) (Nat.lt_irrefl _)
  refine call_own F.excBase_Exception hT hC (looks_findIn X T.iC) (fun self => bind_fn X self T.tC) (Nat.zero_le _) ?_
  refine x_init0 (s := ⟨(hp.push (kdv_tup [])).push (excO C hp.objs.size), g, dr, tk, os⟩) hl T hB S M (X.keeps k) (hg.keeps k) (by obtain ⟨mb, b1, b2⟩ := hb; exact ⟨mb, b1.keeps k, b2⟩) (hlim.keeps k) hget hnx ?_ fun h' tk' t1 ⟨k', hx⟩ => ?_
  · show A.depth + 1 < recursionLimit
    exact hroom
  · have old : ∀ b o, hp.get? b = some o → h'.get? b = some o := fun b o e => k' b o (Nat.ne_of_lt (Nat.lt_succ_of_lt (Heap.lt_size e))) (k b o e)
    exact ⟨rfl, hq h' tk' (hp.objs.size + 1) ⟨old, Nat.le_succ _, ⟨_, _, hx, rfl, rfl, rfl, rfl, rfl⟩⟩⟩
end
end DLX
end PySem
set_option Elab.async false
set_option linter.all false
set_option maxRecDepth 100000
/-! The head's facts with own errors (own work). -/
namespace DL
open PySem PySem.Spec PyProof.Rows L2
/-- one own error's class: its name; its __init__; the field that it stores -/
structure XD where
  cn : Str
  qual : Str
  params : Arguments
  body : List Stmt
  scope : Scope
  par : Option Str
def XD.at_ (x : XD) : Str × Option Str := (x.cn, some "__init__")
abbrev FnX : Type := Option (Str × Str × Arguments × FuncBody × Scope × Addr × List Str × Value × Addr)
def fnXo (K : PySem.W.Frag) (p : Str × Option Str) : FnX := match K.lookup (He.fAd K p) with
  | some ⟨_, _, .func fd, _⟩ => some (fd.name, fd.qualname, fd.params, fd.body, fd.scope, fd.globals, fd.closure.map (·.1), fd.defaults, fd.builtins)
  | _ => none
def XD.val (x : XD) : FnX := some ("__init__", x.qual, x.params, .stmts x.body, x.scope, mainGlobals, ["__class__"], .none, builtinsNs)
def cellB (K : PySem.W.Frag) (cl : List (Str × Addr)) (C : Addr) : Bool := match cl with
  | [(_, cc)] => (match K.lookup cc with
    | some ⟨_, _, .cell (some (.ref D)), _⟩ => decide (D = C)
    | _ => false)
  | _ => false
def strB (v : Option Value) (file : Str) : Bool := match v with
  | some (.str f _) => decide (f = file)
  | _ => false
def fileB (K : PySem.W.Frag) (cd : Value) (file : Str) : Bool := match cd with
  | .ref cda => (match K.lookup cda with
    | some ⟨_, _, .fields vs, _⟩ => strB vs[2]? file
    | _ => false)
  | _ => false
def fnB (K : PySem.W.Frag) (file qual : Str) (C fI : Addr) : Bool := match K.lookup fI with
  | some ⟨_, _, .func fd, _⟩ => PySem.W.codeIn K fd.code qual && (cellB K fd.closure C && fileB K fd.code file)
  | _ => false
def XD.ok (file : Str) (K : PySem.W.Frag) (x : XD) : Bool :=
  fnB K file x.qual (He.ga K x.cn) (He.fAd K x.at_) && (
  PySem.W.excInitIn K (He.ga K x.cn) DLX.exTl "Exception.__new__" && (
  He.eqO (PySem.W.findIn K (.ref (He.ga K x.cn)) "__setattr__") (some (some (.builtin "object.__setattr__"))) && (
  He.eqO (PySem.W.findIn K (.ref (He.ga K x.cn)) "__getattribute__") (some (some (.builtin "BaseException.__getattribute__"))) && (
  He.eqO (PySem.W.findIn K (.ref (He.ga K x.cn)) "__getattr__") (some none) && (
  He.eqO (PySem.W.findIn K (.ref (He.ga K x.cn)) "__init__") (some (some (.ref (He.fAd K x.at_)))) && (
  decide (PySem.W.typeIn K (.ref (He.fAd K x.at_)) = some (.type "function")) && (
  PySem.W.keepIn K (.ref (He.ga K x.cn)) && (
  decide (PySem.W.subIn K (.ref (He.ga K x.cn)) (.type "BaseException") = some true) && (
  decide (PySem.W.subIn K (.ref (He.ga K x.cn)) (.type "Exception") = some true) && (
  decide (PySem.W.typeIn K (.ref (He.ga K x.cn)) = some (.type "type")) && (
  PySem.W.hasDictIn K (He.ga K x.cn) && (
  He.eqO (PySem.W.ks_superIn K (He.ga K x.cn) (He.ga K x.cn) "__init__") (some (some (.builtin "Exception.__init__"))) && (
  decide (PySem.W.mroIn K (He.ga K x.cn) (.ref (He.ga K x.cn)) = some true) && (
  He.eqO (PySem.W.nsIn K cStatics "thirdparty.any") (some none) && (
  (match x.par with
    | some f => He.eqO (PySem.W.findIn K (.ref (He.ga K x.cn)) f) (some none)
    | none => true) &&
  decide (PySem.W.exmOne K (.ref (He.ga K x.cn)) (.ref (He.ga K x.cn)) = some true))))))))))))))))
theorem fn_of {K : PySem.W.Frag} {file : Str} {x : XD} {C fI : Addr} (e : (match K.lookup fI with
  | some ⟨_, _, .func fd, _⟩ => some (fd.name, fd.qualname, fd.params, fd.body, fd.scope, fd.globals, fd.closure.map (·.1), fd.defaults, fd.builtins)
  | _ => none : FnX) = x.val) (c : fnB K file x.qual C fI = true) :
    ∃ (oc : Value) (od : Option Addr) (kV doc pm : Value) (an : Option Addr) (cda : Addr) (ct : Value) (cc : Addr) (osl : Array (Option Value)),
    K.lookup fI = some ⟨oc, od, .func (PySem.W.ksFn "__init__" x.qual x.params x.body x.scope .none kV doc pm an (.ref cda) ct cc), osl⟩ ∧ PySem.W.codeIn K (.ref cda) x.qual = true ∧
    (∃ (ccl : Value) (cdd : Option Addr) (vs : Array Value) (ccs : Array (Option Value)) (tf : Tok), K.lookup cda = some ⟨ccl, cdd, .fields vs, ccs⟩ ∧ vs[2]? = some (.str file tf)) ∧
    ∃ (cl : Value) (cld : Option Addr) (csl : Array (Option Value)), K.lookup cc = some ⟨cl, cld, .cell (some (.ref C)), csl⟩ := by
  unfold fnB at c
  cases q : K.lookup fI with
  | none => rw [q] at c; cases c
  | some o =>
    obtain ⟨oc, od, dt, osl⟩ := o
    rw [q] at c e
    cases dt with
    | func fd =>
      obtain ⟨n1, n2, n3, n4, n5, n6, n7, n8, n9, n10, n11, n12, n13, n14, n15⟩ := fd
      have e2 : (some (n1, n2, n3, n4, n5, n6, n7.map (·.1), n8, n15) : FnX) = (some (("__init__" : Str), x.qual, x.params, FuncBody.stmts x.body, x.scope, mainGlobals, [("__class__" : Str)], Value.none, builtinsNs) : FnX) := e
      simp only [Option.some.injEq, Prod.mk.injEq] at e2
      obtain ⟨h1, h2, h3, h4, h5, h6, h7, h9, h8⟩ := e2
      have c3 : (PySem.W.codeIn K n13 x.qual && (cellB K n7 C && fileB K n13 file)) = true := c
      obtain ⟨k1, k2⟩ := He.ba c3
      obtain ⟨k3, k4⟩ := He.ba k2
      cases n7 with
      | nil => cases h7
      | cons a r =>
        cases r with
        | cons b r => simp at h7
        | nil =>
          obtain ⟨a1, cc⟩ := a
          have h7' : a1 = ("__class__" : Str) := by simpa using h7
          subst h7'
          cases n13 with
          | ref cda =>
            subst h1 h2 h3 h4 h5 h6 h8 h9
            refine ⟨oc, od, n9, n10, n11, n12, cda, n14, cc, osl, rfl, k1, ?_, ?_⟩
            · have k4' : (match K.lookup cda with
                | some ⟨_, _, .fields vs, _⟩ => strB vs[2]? file
                | _ => false) = true := k4
              cases z : K.lookup cda with
              | none => rw [z] at k4'; cases k4'
              | some u =>
                obtain ⟨u1, u2, u3, u4⟩ := u
                rw [z] at k4'
                cases u3 with
                | fields vs =>
                  have k5 : strB vs[2]? file = true := k4'
                  cases y : vs[2]? with
                  | none => rw [y] at k5; cases k5
                  | some v =>
                    rw [y] at k5
                    cases v with
                    | str f tf =>
                      have : f = file := of_decide_eq_true k5
                      subst this
                      exact ⟨u1, u2, vs, u4, tf, rfl, y⟩
                    | _ => cases k5
                | _ => cases k4'
            · have k3' : (match K.lookup cc with
                | some ⟨_, _, .cell (some (.ref D)), _⟩ => decide (D = C)
                | _ => false) = true := k3
              cases z : K.lookup cc with
              | none => rw [z] at k3'; cases k3'
              | some u =>
                obtain ⟨u1, u2, u3, u4⟩ := u
                rw [z] at k3'
                cases u3 with
                | cell v =>
                  cases v with
                  | none => cases k3'
                  | some v =>
                    cases v with
                    | ref D =>
                      have : D = C := of_decide_eq_true k3'
                      subst this
                      exact ⟨u1, u2, u4, rfl⟩
                    | _ => cases k3'
                | _ => cases k3'
          | _ => cases k4
    | _ => cases c
theorem XD.xt {K : PySem.W.Frag} {file : Str} {x : XD} (e : fnXo K x.at_ = x.val) (c : x.ok file K = true) :
    DLX.XT K file (He.ga K x.cn) (He.fAd K x.at_) x.params x.body x.scope x.qual ∧ (∀ f, x.par = some f → PySem.W.findIn K (.ref (He.ga K x.cn)) f = some none) ∧ PySem.W.exmOne K (.ref (He.ga K x.cn)) (.ref (He.ga K x.cn)) = some true := by
  unfold XD.ok at c
  obtain ⟨c0, c⟩ := He.ba c
  obtain ⟨c1, c⟩ := He.ba c
  obtain ⟨c2, c⟩ := He.ba c
  obtain ⟨c3, c⟩ := He.ba c
  obtain ⟨c4, c⟩ := He.ba c
  obtain ⟨c5, c⟩ := He.ba c
  obtain ⟨c6, c⟩ := He.ba c
  obtain ⟨c7, c⟩ := He.ba c
  obtain ⟨c8, c⟩ := He.ba c
  obtain ⟨c9, c⟩ := He.ba c
  obtain ⟨c10, c⟩ := He.ba c
  obtain ⟨c11, c⟩ := He.ba c
  obtain ⟨c12, c⟩ := He.ba c
  obtain ⟨c13, c⟩ := He.ba c
  obtain ⟨c14, c⟩ := He.ba c
  obtain ⟨c15, c16⟩ := He.ba c
  refine ⟨⟨c1, He.eqO_ok c2, He.eqO_ok c3, He.eqO_ok c4, He.eqO_ok c5, of_decide_eq_true c6, c7, of_decide_eq_true c8, of_decide_eq_true c9, of_decide_eq_true c10, c11, He.eqO_ok c12, of_decide_eq_true c13, He.eqO_ok c14, fn_of e c0⟩, fun f hf => ?_, of_decide_eq_true c16⟩
  rw [hf] at c15
  exact He.eqO_ok c15
abbrev AlX : Type := (Bool × List FnX) × AlN
/-- no one of these errors is another one -/
def alone (K : PySem.W.Frag) (xs : List XD) : Bool := xs.all fun x => xs.all fun y => decide (x.cn = y.cn) || decide (PySem.W.exmOne K (.ref (He.ga K x.cn)) (.ref (He.ga K y.cn)) = some false)
def obsX (file : Str) (xs : List XD) (nn : List Str) (fa : List He.Fa) (fn : List He.DefD) (K : PySem.W.Frag) : AlX := ((xs.all (XD.ok file K) && alone K xs, xs.map fun x => fnXo K x.at_), obsN nn fa fn K)
def valX (xs : List XD) (fn : List He.DefD) : AlX := ((true, xs.map XD.val), valN fn)
def asX (g : Addr → Option Obj) (n : Nat) : List Addr := cStatics :: He.asD g n
def obsXG (n : Nat) (file : Str) (xs : List XD) (nn : List Str) (fa : List He.Fa) (fn : List He.DefD) (g : Addr → Option Obj) : AlX := obsX file xs nn fa fn (He.frG g (asX g n))
def SaysX (file : Str) (xs : List XD) (K : PySem.W.Frag) : Prop := (xs.all (XD.ok file K) && alone K xs, xs.map fun x => fnXo K x.at_) = ((true, xs.map XD.val) : Bool × List FnX)
def hookX (n : Nat) (file : Str) (xs : List XD) (nn : List Str) (fa : List He.Fa) (fn : List He.DefD) : PySem.W.Hook where
  α := AlX
  obs := fun s => obsXG n file xs nn fa fn s.heap.get?
  val := fun _ => valX xs fn
  says := fun _ h => ∃ K : PySem.W.Frag, K.In h ∧ He.SaysD fa fn K ∧ SaysN nn K ∧ SaysX file xs K
  of := fun _ _ e => ⟨_, He.frG_in, congrArg (fun z : AlX => z.2.2) e, congrArg (fun z : AlX => z.2.1) e, congrArg (fun z : AlX => z.1) e⟩
  keeps := fun _ _ _ ⟨K, hK, c⟩ k => ⟨K, PySem.W.Frag.In.keeps hK k, c⟩
theorem obsXG_eq {n : Nat} {file : Str} {xs : List XD} {nn : List Str} {fa : List He.Fa} {fn : List He.DefD} {g : Addr → Option Obj} {s : Shared} (h : ∀ a, g a = s.heap.get? a) : obsXG n file xs nn fa fn g = (hookX n file xs nn fa fn).obs s := by
  have e : g = s.heap.get? := funext h
  rw [e] <;> rfl
theorem SaysX.xt {K : PySem.W.Frag} {file : Str} {xs : List XD} (c : SaysX file xs K) (i : Nat) {x : XD} (h : xs[i]? = some x := by rfl) :
    DLX.XT K file (He.ga K x.cn) (He.fAd K x.at_) x.params x.body x.scope x.qual ∧ (∀ f, x.par = some f → PySem.W.findIn K (.ref (He.ga K x.cn)) f = some none) ∧ PySem.W.exmOne K (.ref (He.ga K x.cn)) (.ref (He.ga K x.cn)) = some true := by
  have c0 : (xs.all (XD.ok file K) && alone K xs) = true := congrArg (fun z : Bool × List FnX => z.1) c
  have c1 : xs.all (XD.ok file K) = true := (Bool.and_eq_true _ _ ▸ c0).1
  have c2 : (xs.map fun x => fnXo K x.at_) = xs.map XD.val := congrArg (fun z : Bool × List FnX => z.2) c
  have e2 : (xs.map fun x => fnXo K x.at_)[i]? = (xs.map XD.val)[i]? := by rw [c2]
  rw [List.getElem?_map, List.getElem?_map, h] at e2
  exact XD.xt (Option.some.inj e2) (List.all_eq_true.mp c1 x (List.mem_of_getElem? h))
theorem SaysX.al {K : PySem.W.Frag} {file : Str} {xs : List XD} (c : SaysX file xs K) (i j : Nat) {x y : XD} (h : xs[i]? = some x) (h2 : xs[j]? = some y) (hn : x.cn ≠ y.cn) : PySem.W.exmOne K (.ref (He.ga K x.cn)) (.ref (He.ga K y.cn)) = some false := by
  have c0 : (xs.all (XD.ok file K) && alone K xs) = true := congrArg (fun z : Bool × List FnX => z.1) c
  have c1 : alone K xs = true := (Bool.and_eq_true _ _ ▸ c0).2
  have c2 := List.all_eq_true.mp (List.all_eq_true.mp c1 x (List.mem_of_getElem? h)) y (List.mem_of_getElem? h2)
  rw [decide_eq_false hn, Bool.false_or] at c2
  exact of_decide_eq_true c2
/-- what the program says, as a class -/
class ProgOk (P : Program) (file : Str) : Prop where
  file : ((P.main.file : Str) == file) = true
  top : (P.main.scope.names.lookup ("super" : Str)).isSome = false
end DL
set_option Elab.async false
set_option linter.all false
set_option maxRecDepth 100000
/-! The head's facts with classes that have their own == alone (own work). -/
namespace DL
open PySem PySem.Spec PyProof.Rows L2
def neB (K : PySem.W.Frag) (x : Str) : Bool :=
  He.eqO (PySem.W.findIn K (.ref (He.ga K x)) "__ne__") (some (some (.builtin "object.__ne__"))) && (
  decide (PySem.W.mroIn K (He.ga K x) (.type "object") = some true) && (
  He.eqO (PySem.W.findIn K (.ref (He.ga K x)) "__class__") (some (some (.builtin "object.__class__"))) && (
  He.eqO (PySem.W.specialIn K (.builtin "object.__class__") "__get__") (some (some (.builtin "getset_descriptor.__get__"))) &&
  decide (PySem.W.takesIn K (.builtin "object.__class__") = some true))))
def SaysE (nes : List Str) (K : PySem.W.Frag) : Prop := nes.all (neB K) = true
abbrev AlE : Type := Bool × AlX
def obsE (file : Str) (xs : List XD) (nes nn : List Str) (fa : List He.Fa) (fn : List He.DefD) (K : PySem.W.Frag) : AlE := (nes.all (neB K), obsX file xs nn fa fn K)
def valE (xs : List XD) (fn : List He.DefD) : AlE := (true, valX xs fn)
def obsEG (n : Nat) (file : Str) (xs : List XD) (nes nn : List Str) (fa : List He.Fa) (fn : List He.DefD) (g : Addr → Option Obj) : AlE := obsE file xs nes nn fa fn (He.frG g (asX g n))
def hookE (n : Nat) (file : Str) (xs : List XD) (nes nn : List Str) (fa : List He.Fa) (fn : List He.DefD) : PySem.W.Hook where
  α := AlE
  obs := fun s => obsEG n file xs nes nn fa fn s.heap.get?
  val := fun _ => valE xs fn
  says := fun _ h => ∃ K : PySem.W.Frag, K.In h ∧ He.SaysD fa fn K ∧ SaysN nn K ∧ SaysX file xs K ∧ SaysE nes K
  of := fun _ _ e => ⟨_, He.frG_in, congrArg (fun z : AlE => z.2.2.2) e, congrArg (fun z : AlE => z.2.2.1) e, congrArg (fun z : AlE => z.2.1) e, congrArg (fun z : AlE => z.1) e⟩
  keeps := fun _ _ _ ⟨K, hK, c⟩ k => ⟨K, PySem.W.Frag.In.keeps hK k, c⟩
theorem obsEG_eq {n : Nat} {file : Str} {xs : List XD} {nes nn : List Str} {fa : List He.Fa} {fn : List He.DefD} {g : Addr → Option Obj} {s : Shared} (h : ∀ a, g a = s.heap.get? a) : obsEG n file xs nes nn fa fn g = (hookE n file xs nes nn fa fn).obs s := by
  have e : g = s.heap.get? := funext h
  rw [e] <;> rfl
end DL
set_option Elab.async false
set_option linter.all false
set_option maxRecDepth 100000
set_option maxHeartbeats 0
namespace Lw
open PySem PySem.Spec PyProof.Rows L2
def top (i : Nat) : Stmt := PySem.Challenge.pw_plugproof_k70_whole_readings.main.body.getD i (.Pass ⟨0, 0, 0, 0⟩)
abbrev s_is_whole : Stmt := top 11
abbrev s_plates_for : Stmt := top 12
abbrev s_cell_at : Stmt := top 15
abbrev s_dir_at : Stmt := top 16
abbrev s_row_at : Stmt := top 17
abbrev s_is_dir : Stmt := top 18
abbrev s_rows_of : Stmt := top 19
abbrev s_named_files : Stmt := top 20
abbrev s_size_at : Stmt := top 21
abbrev s_owner_at : Stmt := top 22
abbrev s_block_of : Stmt := top 23
abbrev s_pointers_at : Stmt := top 24
abbrev s_met_below : Stmt := top 25
abbrev s_met : Stmt := top 26
abbrev s_spot_of : Stmt := top 27
abbrev s_data_block : Stmt := top 28
abbrev s_numbers_at : Stmt := top 29
abbrev s_content_of : Stmt := top 30
abbrev s_L_number : Stmt := top 32
abbrev s_L_take : Stmt := top 33
abbrev s_L_pick : Stmt := top 34
abbrev s_L_unlike : Stmt := top 35
abbrev s_L_cells_of : Stmt := top 36
abbrev s_L_any : Stmt := top 37
abbrev s_L_is_read : Stmt := top 38
abbrev s_L_are_met : Stmt := top 39
abbrev s_L_are_names : Stmt := top 40
abbrev s_L_is_refused : Stmt := top 41
abbrev s_law : Stmt := top 42
abbrev s_Shape_init : Stmt := inClass (top 13) 0
abbrev s_Shape_eq : Stmt := inClass (top 13) 1
abbrev s_Shape_told : Stmt := inClass (top 13) 2
abbrev s_Shape_clock_cell : Stmt := inClass (top 13) 3
abbrev s_Shape_dir_cell : Stmt := inClass (top 13) 4
abbrev s_Shape_row_cell : Stmt := inClass (top 13) 5
abbrev s_Shape_user_cell : Stmt := inClass (top 13) 6
abbrev s_Shape_file_plate : Stmt := inClass (top 13) 7
abbrev s_Shape_block_plate : Stmt := inClass (top 13) 8
def d_is_whole : He.DefD := ⟨("is_whole", none), "is_whole", "is_whole", defArgs s_is_whole, defBody s_is_whole, defScope s_is_whole, [.non, .non], []⟩
def d_plates_for : He.DefD := ⟨("plates_for", none), "plates_for", "plates_for", defArgs s_plates_for, defBody s_plates_for, defScope s_plates_for, [], []⟩
def d_cell_at : He.DefD := ⟨("cell_at", none), "cell_at", "cell_at", defArgs s_cell_at, defBody s_cell_at, defScope s_cell_at, [], []⟩
def d_dir_at : He.DefD := ⟨("dir_at", none), "dir_at", "dir_at", defArgs s_dir_at, defBody s_dir_at, defScope s_dir_at, [], []⟩
def d_row_at : He.DefD := ⟨("row_at", none), "row_at", "row_at", defArgs s_row_at, defBody s_row_at, defScope s_row_at, [], []⟩
def d_is_dir : He.DefD := ⟨("is_dir", none), "is_dir", "is_dir", defArgs s_is_dir, defBody s_is_dir, defScope s_is_dir, [], []⟩
def d_rows_of : He.DefD := ⟨("rows_of", none), "rows_of", "rows_of", defArgs s_rows_of, defBody s_rows_of, defScope s_rows_of, [], []⟩
def d_named_files : He.DefD := ⟨("named_files", none), "named_files", "named_files", defArgs s_named_files, defBody s_named_files, defScope s_named_files, [], []⟩
def d_size_at : He.DefD := ⟨("size_at", none), "size_at", "size_at", defArgs s_size_at, defBody s_size_at, defScope s_size_at, [], []⟩
def d_owner_at : He.DefD := ⟨("owner_at", none), "owner_at", "owner_at", defArgs s_owner_at, defBody s_owner_at, defScope s_owner_at, [], []⟩
def d_block_of : He.DefD := ⟨("block_of", none), "block_of", "block_of", defArgs s_block_of, defBody s_block_of, defScope s_block_of, [], []⟩
def d_pointers_at : He.DefD := ⟨("pointers_at", none), "pointers_at", "pointers_at", defArgs s_pointers_at, defBody s_pointers_at, defScope s_pointers_at, [], []⟩
def d_met_below : He.DefD := ⟨("met_below", none), "met_below", "met_below", defArgs s_met_below, defBody s_met_below, defScope s_met_below, [], []⟩
def d_met : He.DefD := ⟨("met", none), "met", "met", defArgs s_met, defBody s_met, defScope s_met, [], []⟩
def d_spot_of : He.DefD := ⟨("spot_of", none), "spot_of", "spot_of", defArgs s_spot_of, defBody s_spot_of, defScope s_spot_of, [], []⟩
def d_data_block : He.DefD := ⟨("data_block", none), "data_block", "data_block", defArgs s_data_block, defBody s_data_block, defScope s_data_block, [], []⟩
def d_numbers_at : He.DefD := ⟨("numbers_at", none), "numbers_at", "numbers_at", defArgs s_numbers_at, defBody s_numbers_at, defScope s_numbers_at, [], []⟩
def d_content_of : He.DefD := ⟨("content_of", none), "content_of", "content_of", defArgs s_content_of, defBody s_content_of, defScope s_content_of, [], []⟩
def d_L_number : He.DefD := ⟨("_law_number", none), "_law_number", "_law_number", defArgs s_L_number, defBody s_L_number, defScope s_L_number, [], []⟩
def d_L_take : He.DefD := ⟨("_law_take", none), "_law_take", "_law_take", defArgs s_L_take, defBody s_L_take, defScope s_L_take, [], []⟩
def d_L_pick : He.DefD := ⟨("_law_pick", none), "_law_pick", "_law_pick", defArgs s_L_pick, defBody s_L_pick, defScope s_L_pick, [], []⟩
def d_L_unlike : He.DefD := ⟨("_law_unlike", none), "_law_unlike", "_law_unlike", defArgs s_L_unlike, defBody s_L_unlike, defScope s_L_unlike, [], []⟩
def d_L_cells_of : He.DefD := ⟨("_law_cells_of", none), "_law_cells_of", "_law_cells_of", defArgs s_L_cells_of, defBody s_L_cells_of, defScope s_L_cells_of, [], []⟩
def d_L_any : He.DefD := ⟨("_law_any", none), "_law_any", "_law_any", defArgs s_L_any, defBody s_L_any, defScope s_L_any, [], []⟩
def d_L_is_read : He.DefD := ⟨("_law_is_read", none), "_law_is_read", "_law_is_read", defArgs s_L_is_read, defBody s_L_is_read, defScope s_L_is_read, [], []⟩
def d_L_are_met : He.DefD := ⟨("_law_are_met", none), "_law_are_met", "_law_are_met", defArgs s_L_are_met, defBody s_L_are_met, defScope s_L_are_met, [], []⟩
def d_L_are_names : He.DefD := ⟨("_law_are_names", none), "_law_are_names", "_law_are_names", defArgs s_L_are_names, defBody s_L_are_names, defScope s_L_are_names, [], []⟩
def d_L_is_refused : He.DefD := ⟨("_law_is_refused", none), "_law_is_refused", "_law_is_refused", defArgs s_L_is_refused, defBody s_L_is_refused, defScope s_L_is_refused, [], []⟩
def d_law : He.DefD := ⟨("law", none), "law", "law", defArgs s_law, defBody s_law, defScope s_law, [], []⟩
def d_Shape_init : He.DefD := ⟨("Shape", some "__init__"), "__init__", "Shape.__init__", defArgs s_Shape_init, defBody s_Shape_init, defScope s_Shape_init, [], []⟩
def d_Shape_eq : He.DefD := ⟨("Shape", some "__eq__"), "__eq__", "Shape.__eq__", defArgs s_Shape_eq, defBody s_Shape_eq, defScope s_Shape_eq, [], []⟩
def d_Shape_told : He.DefD := ⟨("Shape", some "told"), "told", "Shape.told", defArgs s_Shape_told, defBody s_Shape_told, defScope s_Shape_told, [], []⟩
def d_Shape_clock_cell : He.DefD := ⟨("Shape", some "clock_cell"), "clock_cell", "Shape.clock_cell", defArgs s_Shape_clock_cell, defBody s_Shape_clock_cell, defScope s_Shape_clock_cell, [], []⟩
def d_Shape_dir_cell : He.DefD := ⟨("Shape", some "dir_cell"), "dir_cell", "Shape.dir_cell", defArgs s_Shape_dir_cell, defBody s_Shape_dir_cell, defScope s_Shape_dir_cell, [], []⟩
def d_Shape_row_cell : He.DefD := ⟨("Shape", some "row_cell"), "row_cell", "Shape.row_cell", defArgs s_Shape_row_cell, defBody s_Shape_row_cell, defScope s_Shape_row_cell, [], []⟩
def d_Shape_user_cell : He.DefD := ⟨("Shape", some "user_cell"), "user_cell", "Shape.user_cell", defArgs s_Shape_user_cell, defBody s_Shape_user_cell, defScope s_Shape_user_cell, [], []⟩
def d_Shape_file_plate : He.DefD := ⟨("Shape", some "file_plate"), "file_plate", "Shape.file_plate", defArgs s_Shape_file_plate, defBody s_Shape_file_plate, defScope s_Shape_file_plate, [], []⟩
def d_Shape_block_plate : He.DefD := ⟨("Shape", some "block_plate"), "block_plate", "Shape.block_plate", defArgs s_Shape_block_plate, defBody s_Shape_block_plate, defScope s_Shape_block_plate, [], []⟩
def fn : List He.DefD := [d_is_whole, d_plates_for, d_cell_at, d_dir_at, d_row_at, d_is_dir, d_rows_of, d_named_files, d_size_at, d_owner_at, d_block_of, d_pointers_at, d_met_below, d_met, d_spot_of, d_data_block, d_numbers_at, d_content_of, d_L_number, d_L_take, d_L_pick, d_L_unlike, d_L_cells_of, d_L_any, d_L_is_read, d_L_are_met, d_L_are_names, d_L_is_refused, d_law, d_Shape_init, d_Shape_eq, d_Shape_told, d_Shape_clock_cell, d_Shape_dir_cell, d_Shape_row_cell, d_Shape_user_cell, d_Shape_file_plate, d_Shape_block_plate]
def fa : List He.Fa := [.glo "is_whole", .glo "plates_for", .glo "cell_at", .glo "dir_at", .glo "row_at", .glo "is_dir", .glo "rows_of", .glo "named_files", .glo "size_at", .glo "owner_at", .glo "block_of", .glo "pointers_at", .glo "met_below", .glo "met", .glo "spot_of", .glo "data_block", .glo "numbers_at", .glo "content_of", .glo "_law_number", .glo "_law_take", .glo "_law_pick", .glo "_law_unlike", .glo "_law_cells_of", .glo "_law_any", .glo "_law_is_read", .glo "_law_are_met", .glo "_law_are_names", .glo "_law_is_refused", .glo "law", .glo "StoreError", .glo "BadShape", .glo "Shape", .cls "Shape", .mkr "Shape", .noat "Shape" "dirs", .noat "Shape" "rows", .noat "Shape" "files", .noat "Shape" "blocks", .noat "Shape" "users", .noat "Shape" "first_row", .noat "Shape" "first_user", .noat "Shape" "first_file", .noat "Shape" "first_block", .noat "Shape" "plates", .meth "Shape" "__eq__", .meth "Shape" "told", .meth "Shape" "clock_cell", .meth "Shape" "dir_cell", .meth "Shape" "row_cell", .meth "Shape" "user_cell", .meth "Shape" "file_plate", .meth "Shape" "block_plate", .int "WIDTH" 8, .int "NAMES" 475254, .int "DIRECT" 3, .int "MOST_BLOCKS" 75, .int "MOST_SIZE" 600, .int "FOUND" 1, .free "Exception", .free "abs", .free "all", .free "bool", .free "int", .free "isinstance", .free "len", .free "list", .free "max", .free "min", .free "range", .free "sorted", .free "sum", .free "super", .free "tuple", .free "zip"]
def nn : List PySem.Str := []
def names : List PySem.Str := (["_wall", "StoreError", "BadShape", "WIDTH", "NAMES", "DIRECT", "MOST_BLOCKS", "MOST_SIZE", "FOUND", "is_whole", "plates_for", "Shape", "cell_at", "dir_at", "row_at", "is_dir", "rows_of", "named_files", "size_at", "owner_at"] : List PySem.Str) ++ (["block_of", "pointers_at", "met_below", "met", "spot_of", "data_block", "numbers_at", "content_of", "_law_number", "_law_take", "_law_pick", "_law_unlike", "_law_cells_of", "_law_any", "_law_is_read", "_law_are_met", "_law_are_names", "_law_is_refused"] : List PySem.Str)
abbrev s_BadShape_init : Stmt := inClass (top 3) 0
def x_BadShape : DL.XD := ⟨"BadShape", "BadShape.__init__", defArgs s_BadShape_init, defBody s_BadShape_init, defScope s_BadShape_init, some "word"⟩
def nes : List PySem.Str := ["Shape"]
def xs : List DL.XD := [x_BadShape]
def fileN : PySem.Str := PySem.Challenge.pw_plugproof_k70_whole_readings.main.file
abbrev R : PySem.W.OpenRow := PySem.W.OpenLaw.row PySem.Challenge.rw_plugproof_k70_whole_readings
abbrev hk : PySem.W.Hook := DL.hookE 5 fileN xs nes nn fa fn
def ob (s : PySem.W.SharedT) : DL.AlE := DL.obsEG 5 fileN xs nes nn fa fn (HandSHeadRun.getT s)
theorem ob_eq (s : PySem.W.SharedT) : ob s = hk.obs s.abs := DL.obsEG_eq (HandSHeadRun.getT_eq s)
theorem run (w : World) : HandSHeadRun.RunEq R (PySem.W.view R.prog [42]) hk ob 9000 names w := by
  intro os
  kernel_rfl
end Lw
set_option Elab.async false
set_option linter.all false
set_option maxRecDepth 100000
set_option maxHeartbeats 4000000
/-! Data, abstract heaps and what Python's constructs do over them: plain functions (own work). -/
namespace DL
open PySem

/-- a value: pure data, or the number of an abstract object -/
inductive D where
  | non | bl (b : Bool) | int (i : Int) | str (x : Str) | tup (ds : List D) | ref (n : Nat)
  deriving Inhabited

mutual
def D.bd (n : Nat) : D → Bool
  | .tup ds => bdAll n ds
  | .ref i => decide (i < n)
  | .non => true
  | .bl _ => true
  | .int _ => true
  | .str _ => true
def bdAll (n : Nat) : List D → Bool
  | [] => true
  | d :: ds => D.bd n d && bdAll n ds
end

/-- an abstract object: a list, a list that is only read, a dict (keys ints, texts; tuples of these), an instance of the class numbered c, a dict that is walked -/
inductive O where
  | lst (ds : List D) | rol (ds : List D) | dic (kvs : List (D × D)) | dit (kvs : List (D × D)) | ins (c : Nat) (fs : List (Nat × D)) | fro (kvs : List (D × D))
  deriving Inhabited
def O.bd (n : Nat) : O → Bool
  | .lst ds => bdAll n ds
  | .rol ds => bdAll n ds
  | .dic kvs => kvs.all fun p => D.bd n p.1 && D.bd n p.2
  | .dit kvs => kvs.all fun p => D.bd n p.1 && D.bd n p.2
  | .ins _ fs => fs.all fun p => D.bd n p.2
  | .fro kvs => kvs.all fun p => D.bd n p.1 && D.bd n p.2
def O.mut : O → Bool
  | .rol _ => false
  | _ => true
abbrev AH := List O
abbrev Env := List (Option D)
structure Exn where
  cls : Nat
  fs : List (Nat × D)

/-- how an expression ends -/
inductive Res (α : Type) where
  | ok (a : α) (A : AH) | exc (x : Exn) (A : AH) | bad
def Res.bind {α β : Type} (r : Res α) (f : α → AH → Res β) : Res β := match r with
  | .ok a A => f a A
  | .exc x A => .exc x A
  | .bad => .bad
@[simp] theorem bind_ok {α β : Type} (a : α) (A : AH) (f : α → AH → Res β) : (Res.ok a A).bind f = f a A := rfl
@[simp] theorem bind_exc {α β : Type} (x : Exn) (A : AH) (f : α → AH → Res β) : (Res.exc x A : Res α).bind f = .exc x A := rfl
@[simp] theorem bind_bad {α β : Type} (f : α → AH → Res β) : (Res.bad : Res α).bind f = .bad := rfl

/-- .. where nothing is raised -/
def Res.bindN {α β : Type} (r : Res α) (f : α → AH → Res β) : Res β := match r with
  | .ok a A => f a A
  | _ => .bad
@[simp] theorem bindN_ok {α β : Type} (a : α) (A : AH) (f : α → AH → Res β) : (Res.ok a A).bindN f = f a A := rfl
abbrev Ex := Env → AH → Res D
abbrev Tx := Env → AH → Res Bool
abbrev Ax := Env → AH → Res (List D)
/-- what a def, an operation does with its arguments -/
abbrev Fn := List D → AH → Res D

/-- how a statement ends -/
inductive SRes where
  | nx (E : Env) (A : AH) | rt (d : D) (A : AH) | bk (E : Env) (A : AH) | ct (E : Env) (A : AH) | exc (x : Exn) (E : Env) (A : AH) | bad
abbrev Sx := Env → AH → SRes
def Res.then {α : Type} (r : Res α) (E : Env) (f : α → AH → SRes) : SRes := match r with
  | .ok a A => f a A
  | .exc x A => .exc x E A
  | .bad => .bad
@[simp] theorem then_ok {α : Type} (a : α) (A : AH) (E : Env) (f : α → AH → SRes) : (Res.ok a A).then E f = f a A := rfl
@[simp] theorem then_exc {α : Type} (x : Exn) (A : AH) (E : Env) (f : α → AH → SRes) : (Res.exc x A : Res α).then E f = .exc x E A := rfl
@[simp] theorem then_bad {α : Type} (E : Env) (f : α → AH → SRes) : (Res.bad : Res α).then E f = .bad := rfl
def SRes.seq (r : SRes) (f : Sx) : SRes := match r with
  | .nx E A => f E A
  | .rt d A => .rt d A
  | .bk E A => .bk E A
  | .ct E A => .ct E A
  | .exc x E A => .exc x E A
  | .bad => .bad
@[simp] theorem seq_nx (E : Env) (A : AH) (f : Sx) : (SRes.nx E A).seq f = f E A := rfl
@[simp] theorem seq_rt (d : D) (A : AH) (f : Sx) : (SRes.rt d A).seq f = .rt d A := rfl
@[simp] theorem seq_bk (E : Env) (A : AH) (f : Sx) : (SRes.bk E A).seq f = .bk E A := rfl
@[simp] theorem seq_ct (E : Env) (A : AH) (f : Sx) : (SRes.ct E A).seq f = .ct E A := rfl
@[simp] theorem seq_exc (x : Exn) (E : Env) (A : AH) (f : Sx) : (SRes.exc x E A).seq f = .exc x E A := rfl
@[simp] theorem seq_bad (f : Sx) : SRes.bad.seq f = .bad := rfl
/-- a store ends in the next state, or raises -/
def SRes.only : SRes → SRes
  | .nx E A => .nx E A
  | .exc x E A => .exc x E A
  | _ => .bad
@[simp] theorem only_nx (E : Env) (A : AH) : (SRes.nx E A).only = .nx E A := rfl
@[simp] theorem only_exc (x : Exn) (E : Env) (A : AH) : (SRes.exc x E A).only = .exc x E A := rfl
@[simp] theorem only_bad : SRes.bad.only = .bad := rfl
def okS (E : Env) : Option AH → SRes
  | some A => .nx E A
  | none => .bad
@[simp] theorem okS_some (E : Env) (A : AH) : okS E (some A) = .nx E A := rfl
@[simp] theorem okS_none (E : Env) : okS E none = .bad := rfl

/-! ### expressions; each continuation has a name (so that nothing is looked at ahead of its turn) -/
def okD (A : AH) : Option (Option D) → Res D
  | some (some d) => .ok d A
  | _ => .bad
@[simp] theorem okD_some (A : AH) (d : D) : okD A (some (some d)) = .ok d A := rfl
def eVar (i : Nat) : Ex := fun E A => okD A E[i]?
def eC (d : D) : Ex := fun _ A => .ok d A
def aNil : Ax := fun _ A => .ok [] A
def kCons2 (d : D) : List D → AH → Res (List D) := fun ds A => .ok (d :: ds) A
def kCons (r : Ax) (E : Env) : D → AH → Res (List D) := fun d A => (r E A).bind (kCons2 d)
def aCons (e : Ex) (r : Ax) : Ax := fun E A => (e E A).bind (kCons r E)
/-- an operation of evaluated arguments -/
def eF (F : Fn) (a : Ax) : Ex := fun E A => (a E A).bind F
/-- a method of an instance of the class c -/
def isIns (c : Nat) (A : AH) : D → Bool
  | .ref i => (match A[i]? with
    | some (.ins c' _) => c == c'
    | _ => false)
  | _ => false
def kM2 (F : Fn) (x : D) : List D → AH → Res D := fun ds A => F (x :: ds) A
def kM (c : Nat) (F : Fn) (a : Ax) (E : Env) : D → AH → Res D := fun x A => if isIns c A x = true then (a E A).bind (kM2 F x) else .bad
def eM (c : Nat) (F : Fn) (o : Ex) (a : Ax) : Ex := fun E A => (o E A).bind (kM c F a E)
def kB : D → AH → Res Bool
  | .bl b, A => .ok b A
  | _, _ => .bad
def tB (e : Ex) : Tx := fun E A => (e E A).bind kB
def kAnd (u : Tx) (E : Env) : Bool → AH → Res Bool := fun b A => if b = true then u E A else .ok false A
def tAnd (t u : Tx) : Tx := fun E A => (t E A).bind (kAnd u E)
def kOr (u : Tx) (E : Env) : Bool → AH → Res Bool := fun b A => if b = true then .ok true A else u E A
def tOr (t u : Tx) : Tx := fun E A => (t E A).bind (kOr u E)
def kNot : Bool → AH → Res Bool := fun b A => .ok (!b) A
def tNot (t : Tx) : Tx := fun E A => (t E A).bind kNot
def kIf (a b : Ex) (E : Env) : Bool → AH → Res D := fun c A => if c = true then a E A else b E A
def eIf (t : Tx) (a b : Ex) : Ex := fun E A => (t E A).bind (kIf a b E)
/-- and, or of bools as values -/
def kAndV (b : Ex) (E : Env) : D → AH → Res D
  | .bl c, A => if c = true then b E A else .ok (.bl false) A
  | _, _ => .bad
def eAnd (a b : Ex) : Ex := fun E A => (a E A).bind (kAndV b E)
def kOrV (b : Ex) (E : Env) : D → AH → Res D
  | .bl c, A => if c = true then .ok (.bl true) A else b E A
  | _, _ => .bad
def eOr (a b : Ex) : Ex := fun E A => (a E A).bind (kOrV b E)
def kNotV : D → AH → Res D
  | .bl c, A => .ok (.bl (!c)) A
  | _, _ => .bad
def eNot (a : Ex) : Ex := fun E A => (a E A).bind kNotV
/-- a < b < c -/
def kCh4 (G : Fn) (y : D) : D → AH → Res D := fun w A => G [y, w] A
def kCh3 (G : Fn) (c : Ex) (E : Env) (y : D) : D → AH → Res D
  | .bl k, A => if k = true then (c E A).bind (kCh4 G y) else .ok (.bl false) A
  | _, _ => .bad
def kCh2 (F G : Fn) (c : Ex) (E : Env) (x : D) : D → AH → Res D := fun y A => (F [x, y] A).bind (kCh3 G c E y)
def kCh (F G : Fn) (b c : Ex) (E : Env) : D → AH → Res D := fun x A => (b E A).bind (kCh2 F G c E x)
def eChain (F G : Fn) (a b c : Ex) : Ex := fun E A => (a E A).bind (kCh F G b c E)

/-! ### statements -/
def sNop : Sx := fun E A => .nx E A
def sSeq (a b : Sx) : Sx := fun E A => (a E A).seq b
def kDrop (E : Env) : D → AH → SRes := fun _ A => .nx E A
def sDrop (e : Ex) : Sx := fun E A => (e E A).then E (kDrop E)
def kRet : D → AH → SRes := fun d A => .rt d A
def sRet (e : Ex) : Sx := fun E A => (e E A).then E kRet
def sRetN : Sx := fun _ A => .rt .non A
def sBrk : Sx := fun E A => .bk E A
def sCnt : Sx := fun E A => .ct E A
def sBad : Sx := fun _ _ => .bad
def kIfS (a b : Sx) (E : Env) : Bool → AH → SRes := fun c A => if c = true then a E A else b E A
def sIf (t : Tx) (a b : Sx) : Sx := fun E A => (t E A).then E (kIfS a b E)
/-- targets -/
abbrev Gx := D → Env → AH → SRes
def gName (i : Nat) : Gx := fun d E A => .nx (E.set i (some d)) A
abbrev Gsx := List D → Env → AH → SRes
def gNil : Gsx
  | [], E, A => .nx E A
  | _ :: _, _, _ => .bad
def gCons (g : Gx) (r : Gsx) : Gsx
  | d :: ds, E, A => (g d E A).only.seq (r ds)
  | [], _, _ => .bad
def gTup (n : Nat) (r : Gsx) : Gx
  | .tup ds, E, A => if ds.length = n then r ds E A else .bad
  | _, _, _ => .bad
/-- o[i] = d, by values -/
abbrev Stx := D → D → D → AH → Option AH
def kSub2 (S : Stx) (d : D) (E : Env) (x : D) : D → AH → SRes := fun y A => okS E (S x y d A)
def kSub (S : Stx) (i : Ex) (d : D) (E : Env) : D → AH → SRes := fun x A => (i E A).then E (kSub2 S d E x)
def gSub (o i : Ex) (S : Stx) : Gx := fun d E A => (o E A).then E (kSub S i d E)
def kAsg (g : Gx) (E : Env) : D → AH → SRes := fun d A => (g d E A).only
def sAsg (e : Ex) (g : Gx) : Sx := fun E A => (e E A).then E (kAsg g E)
def kSet (i : Nat) (E : Env) : D → AH → SRes := fun d A => .nx (E.set i (some d)) A
def kPar (i j : Nat) (E : Env) : List D → AH → SRes
  | [x, y], A => .nx ((E.set i (some x)).set j (some y)) A
  | _, _ => .bad
def sPar (i j : Nat) (a : Ax) : Sx := fun E A => (a E A).then E (kPar i j E)
def kAug2 (i : Nat) (F : Fn) (E : Env) (d : D) : D → AH → SRes := fun y A => (F [d, y] A).then E (kSet i E)
def kAug (i : Nat) (e : Ex) (F : Fn) (E : Env) : D → AH → SRes := fun d A => (e E A).then E (kAug2 i F E d)
def sAug (i : Nat) (e : Ex) (F : Fn) : Sx := fun E A => (okD A E[i]?).then E (kAug i e F E)
def kAS5 (S : Stx) (E : Env) (x y : D) : D → AH → SRes := fun z A => okS E (S x y z A)
def kAS4 (F : Fn) (S : Stx) (E : Env) (x y old : D) : D → AH → SRes := fun d A => (F [old, d] A).then E (kAS5 S E x y)
def kAS3 (e : Ex) (F : Fn) (S : Stx) (E : Env) (x y : D) : D → AH → SRes := fun old A => (e E A).then E (kAS4 F S E x y old)
def kAS2 (e : Ex) (G F : Fn) (S : Stx) (E : Env) (x : D) : D → AH → SRes := fun y A => (G [x, y] A).then E (kAS3 e F S E x y)
def kAS1 (i e : Ex) (G F : Fn) (S : Stx) (E : Env) : D → AH → SRes := fun x A => (i E A).then E (kAS2 e G F S E x)
def sAugS (o i e : Ex) (G F : Fn) (S : Stx) : Sx := fun E A => (o E A).then E (kAS1 i e G F S E)
def setF (n : Nat) (d : D) : List (Nat × D) → List (Nat × D)
  | [] => [(n, d)]
  | (m, c) :: r => if m = n then (m, d) :: r else (m, c) :: setF n d r
def lookF (n : Nat) : List (Nat × D) → Option D
  | [] => none
  | (m, c) :: r => if m = n then some c else lookF n r
/-- an attribute, read and stored; cs: the classes whose instances are met here -/
def oFld (cs : List Nat) (n : Nat) (A : AH) : Option O → Res D
  | some (.ins c fs) => if c ∈ cs then okD A (some (lookF n fs)) else .bad
  | _ => .bad
def fFld (cs : List Nat) (n : Nat) : Fn
  | [.ref i], A => oFld cs n A A[i]?
  | _, _ => .bad
def oPut (cs : List Nat) (n : Nat) (i : Nat) (d : D) (A : AH) : Option O → Option AH
  | some (.ins c fs) => if c ∈ cs ∧ fs.length < 1000 then some (A.set i (.ins c (setF n d fs))) else none
  | _ => none
def putFld (cs : List Nat) (n : Nat) (d : D) (A : AH) : D → Option AH
  | .ref i => oPut cs n i d A A[i]?
  | _ => none
def kFld2 (cs : List Nat) (n : Nat) (E : Env) (d : D) : D → AH → SRes := fun x A => okS E (putFld cs n d A x)
def kFld (cs : List Nat) (n : Nat) (o : Ex) (E : Env) : D → AH → SRes := fun d A => (o E A).then E (kFld2 cs n E d)
def sFld (cs : List Nat) (n : Nat) (o e : Ex) : Sx := fun E A => (e E A).then E (kFld cs n o E)
def kFA4 (cs : List Nat) (n : Nat) (E : Env) (x : D) : D → AH → SRes := fun z A => okS E (putFld cs n z A x)
def kFA3 (cs : List Nat) (n : Nat) (F : Fn) (E : Env) (x old : D) : D → AH → SRes := fun d A => (F [old, d] A).then E (kFA4 cs n E x)
def kFA2 (cs : List Nat) (n : Nat) (e : Ex) (F : Fn) (E : Env) (x : D) : D → AH → SRes := fun old A => (e E A).then E (kFA3 cs n F E x old)
def kFA1 (cs : List Nat) (n : Nat) (e : Ex) (F : Fn) (E : Env) : D → AH → SRes := fun x A => (fFld cs n [x] A).then E (kFA2 cs n e F E x)
def sFldAug (cs : List Nat) (n : Nat) (o e : Ex) (F : Fn) : Sx := fun E A => (o E A).then E (kFA1 cs n e F E)

/-! ### what is walked -/
inductive Src where
  | seq (ds : List D) | lst (i : Nat) | enum (i : Nat)
inductive Step where
  | item (d : D) | stop | bad
def seqO : Option O → Option (List D)
  | some (.lst ds) => some ds
  | some (.rol ds) => some ds
  | _ => none
def seqAt (A : AH) (i : Nat) : Option (List D) := seqO A[i]?
def stepO : Option D → Step
  | some d => .item d
  | none => .stop
def stepE (k : Nat) : Option D → Step
  | some d => .item (.tup [.int k, d])
  | none => .stop
def Src.at (A : AH) (k : Nat) : Src → Step
  | .seq ds => stepO ds[k]?
  | .lst i => (match seqAt A i with
    | some ds => stepO ds[k]?
    | none => .bad)
  | .enum i => (match seqAt A i with
    | some ds => stepE k ds[k]?
    | none => .bad)
def Src.size (A : AH) : Src → Nat
  | .seq ds => ds.length
  | .lst i => ((seqAt A i).getD []).length
  | .enum i => ((seqAt A i).getD []).length
abbrev Ix := Env → AH → Res Src
def SRes.turn (r : SRes) (f : Sx) : SRes := match r with
  | .nx E A => f E A
  | .ct E A => f E A
  | .bk E A => .nx E A
  | .rt d A => .rt d A
  | .exc x E A => .exc x E A
  | .bad => .bad
@[simp] theorem turn_nx (E : Env) (A : AH) (f : Sx) : (SRes.nx E A).turn f = f E A := rfl
@[simp] theorem turn_ct (E : Env) (A : AH) (f : Sx) : (SRes.ct E A).turn f = f E A := rfl
@[simp] theorem turn_bk (E : Env) (A : AH) (f : Sx) : (SRes.bk E A).turn f = .nx E A := rfl
@[simp] theorem turn_rt (d : D) (A : AH) (f : Sx) : (SRes.rt d A).turn f = .rt d A := rfl
@[simp] theorem turn_exc (x : Exn) (E : Env) (A : AH) (f : Sx) : (SRes.exc x E A).turn f = .exc x E A := rfl
@[simp] theorem turn_bad (f : Sx) : SRes.bad.turn f = .bad := rfl
/-- one turn of a for; f: the turns behind it -/
def forK (g : Gx) (b f : Sx) (E : Env) (A : AH) : Step → SRes
  | .stop => .nx E A
  | .bad => .bad
  | .item d => ((g d E A).only.seq b).turn f
def forN (src : Src) (g : Gx) (b : Sx) : Nat → Nat → Env → AH → SRes
  | 0, _, _, _ => .bad
  | n + 1, k, E, A => forK g b (forN src g b n (k + 1)) E A (src.at A k)
def kFor (g : Gx) (b : Sx) (E : Env) : Src → AH → SRes := fun src A => forN src g b (src.size A + 1) 0 E A
def sFor (it : Ix) (g : Gx) (b : Sx) : Sx := fun E A => (it E A).then E (kFor g b E)
def kWh (b f : Sx) (E : Env) : Bool → AH → SRes := fun c A => if c = true then (b E A).turn f else .nx E A
def whileN (t : Tx) (b : Sx) : Nat → Env → AH → SRes
  | 0, _, _ => .bad
  | n + 1, E, A => (t E A).then E (kWh b (whileN t b n) E)
def fuel : Nat := 1000000
def sWhile (t : Tx) (b : Sx) : Sx := fun E A => whileN t b fuel E A
/-- iterators -/
def okI (s : Src) (A : AH) : Option (List D) → Res Src
  | some _ => .ok s A
  | none => .bad
def kSeq : D → AH → Res Src
  | .tup ds, A => .ok (.seq ds) A
  | .ref i, A => okI (.lst i) A (seqAt A i)
  | _, _ => .bad
def iSeq (e : Ex) : Ix := fun E A => (e E A).bind kSeq
def small62 (i : Int) : Bool := decide (-(2 ^ 62) ≤ i) && decide (i < 2 ^ 62)
def upto (lo : Int) (n : Nat) : List D := (List.range n).map fun (i : Nat) => D.int (lo + i)
def kRng1 : List D → AH → Res Src
  | [.int j], A => if small62 j = true then .ok (.seq (upto 0 j.toNat)) A else .bad
  | _, _ => .bad
def iRng1 (a : Ax) : Ix := fun E A => (a E A).bind kRng1
def kRng2 : List D → AH → Res Src
  | [.int i, .int j], A => if (small62 i && small62 j) = true then .ok (.seq (upto i (j - i).toNat)) A else .bad
  | _, _ => .bad
def iRng2 (a : Ax) : Ix := fun E A => (a E A).bind kRng2
def enumD : Nat → List D → List D
  | _, [] => []
  | k, d :: ds => .tup [.int k, d] :: enumD (k + 1) ds
def kEnum : List D → AH → Res Src
  | [.tup ds], A => .ok (.seq (enumD 0 ds)) A
  | [.ref i], A => okI (.enum i) A (seqAt A i)
  | _, _ => .bad
def iEnum (a : Ax) : Ix := fun E A => (a E A).bind kEnum

/-! ### comprehensions: the new list stands at its number from the start -/
def line : Nat := 16777216
def addO (n : Nat) (d : D) (A : AH) : Option O → Option AH
  | some (.lst acc) => if acc.length < line then some (A.set n (.lst (acc ++ [d]))) else none
  | _ => none
def addTo (n : Nat) (d : D) (A : AH) : Option AH := addO n d A A[n]?
/-- own: the comprehension's slots (they are empty ahead of each turn) -/
def wipeE (E : Env) : List Nat → Env
  | [] => E
  | v :: vs => (wipeE E vs).set v none
def okA (f : AH → Res D) : Option AH → Res D
  | some A => f A
  | none => .bad
def kLc3 (n : Nat) (f : AH → Res D) : D → AH → Res D := fun y A => okA f (addTo n y A)
def kLc2 (e : Ex) (E : Env) (n : Nat) (f : AH → Res D) : Bool → AH → Res D := fun b A => if b = true then (e E A).bindN (kLc3 n f) else f A
def kLc1 (t : Tx) (e : Ex) (n : Nat) (f : AH → Res D) : SRes → Res D
  | .nx E A => (t E A).bindN (kLc2 e E n f)
  | _ => .bad
def lcK (g : Gx) (t : Tx) (e : Ex) (E : Env) (n : Nat) (f : AH → Res D) (A : AH) : Step → Res D
  | .stop => .ok (.ref n) A
  | .bad => .bad
  | .item d => kLc1 t e n f (g d E A)
def lcN (src : Src) (g : Gx) (t : Tx) (e : Ex) (E : Env) (at_ : Nat) : Nat → Nat → AH → Res D
  | 0, _, _ => .bad
  | n + 1, k, A => lcK g t e E at_ (lcN src g t e E at_ n (k + 1)) A (src.at A k)
def tYes : Tx := fun _ A => .ok true A
def kLc (g : Gx) (t : Tx) (e : Ex) (E : Env) : Src → AH → Res D := fun src A => lcN src g t e E A.length (src.size A + 1) 0 (A ++ [.lst []])
def eLc (it : Ix) (g : Gx) (t : Tx) (e : Ex) (own : List Nat) : Ex := fun E A => (it E A).bind (kLc g t e (wipeE E own))

/-! ### calls of the program's own defs -/
def okPre (A B : AH) : Prop := B.length = A.length ∧ ∀ (j : Nat) (o : O), B[j]? = some o → A[j]? = some o ∨ o.bd A.length = true
/-- the value of the fresh object that is handed back -/
def refO (A B : AH) : D → Option O
  | .ref i => if A.length ≤ i then B[i]? else none
  | _ => none
open Classical in
noncomputable def gcO (A : AH) (d : D) (B : AH) : Option O → Res D
  | some o => if o.mut = true ∧ o.bd A.length = true ∧ okPre A (B.take A.length) then .ok (.ref A.length) (B.take A.length ++ [o]) else .ok d B
  | none => .ok d B
open Classical in
/-- behind a call what the caller cannot reach is let go -/
noncomputable def gc (A : AH) (d : D) (B : AH) : Res D :=
  if d.bd A.length = true ∧ okPre A (B.take A.length) then .ok d (B.take A.length) else gcO A d B (refO A B d)
open Classical in
noncomputable def gcX (A : AH) (x : Exn) (B : AH) : Res D :=
  if (x.fs.all fun p => p.2.bd A.length) = true ∧ okPre A (B.take A.length) then .exc x (B.take A.length) else .exc x B
def startE (N : Nat) (ds : List D) : Env := ds.map some ++ List.replicate (N - ds.length) none
noncomputable def endF (A : AH) : SRes → Res D
  | .nx _ B => gc A .non B
  | .rt d B => gc A d B
  | .exc x _ B => gcX A x B
  | _ => .bad
/-- a def of np parameters and N names -/
noncomputable def runDef (np N : Nat) (b : Sx) : Fn := fun ds A => if ds.length = np then endF A (b (startE N ds) A) else .bad
/-- a new instance of the class c, then its __init__ -/
def kMk (n : Nat) : D → AH → Res D
  | .non, A => .ok (.ref n) A
  | _, _ => .bad
def mkIns (c : Nat) (F : Fn) : Fn := fun ds A => (F (.ref A.length :: ds) (A ++ [.ins c []])).bind (kMk A.length)
end DL
set_option Elab.async false
set_option linter.all false
/-! The classes and the attributes of this law's text by number (printed). -/
namespace DL
open PySem
def clsN : List Str := (["Shape", "Draft", "StoreError", "BadShape", "Refused"] : List Str)
def fldN : List Str := (["dirs", "rows", "files", "blocks", "users", "first_row", "first_user", "first_file", "first_block", "plates", "shape", "home", "counts", "pins", "changes", "word"] : List Str)
end DL
set_option Elab.async false
set_option linter.all false
set_option maxRecDepth 100000
set_option maxHeartbeats 4000000
/-! What the plain functions say, over the hand layer (own work). -/
namespace DL
open PySem PySem.Spec PyProof.Rows L2
theorem fldN_nd : fldN.Nodup := by decide +kernel
theorem fld_inj {i j : Nat} {x : Str} (a : fldN[i]? = some x) (b : fldN[j]? = some x) : i = j := nodup_ix fldN_nd a b
def clsA (K : PySem.W.Frag) (c : Nat) : Addr := He.ga K (clsN.getD c "")

/-! ### values -/
mutual
inductive RepV (ρ : Nat → Addr) (n : Nat) (H : Hp) : D → V → Prop
  | non : RepV ρ n H .non .non
  | bl (b : Bool) : RepV ρ n H (.bl b) (.bl b)
  | int (i : Int) : RepV ρ n H (.int i) (.int i)
  | str (x : Str) : RepV ρ n H (.str x) (.str x)
  | tup {a : Addr} {vs : List V} {ds : List D} : H a = some (.tup vs) → RepVs ρ n H ds vs → RepV ρ n H (.tup ds) (.ref a)
  | ref {i : Nat} : i < n → RepV ρ n H (.ref i) (.ref (ρ i))
inductive RepVs (ρ : Nat → Addr) (n : Nat) (H : Hp) : List D → List V → Prop
  | nil : RepVs ρ n H [] []
  | cons {d : D} {ds : List D} {v : V} {vs : List V} : RepV ρ n H d v → RepVs ρ n H ds vs → RepVs ρ n H (d :: ds) (v :: vs)
end
/-- from one state to a later one: numbers keep their addresses, tuples stay -/
structure Ext (ρ : Nat → Addr) (n : Nat) (H : Hp) (ρ' : Nat → Addr) (n' : Nat) (H' : Hp) : Prop where
  le : n ≤ n'
  same : ∀ i, i < n → ρ' i = ρ i
  tups : ∀ a vs, H a = some (.tup vs) → H' a = some (.tup vs)
  frzs : ∀ a o u, H a = some (.frz o u) → H' a = some (.frz o u)
theorem Ext.refl {ρ : Nat → Addr} {n : Nat} {H : Hp} : Ext ρ n H ρ n H := ⟨Nat.le_refl _, fun _ _ => rfl, fun _ _ h => h, fun _ _ _ h => h⟩
theorem Ext.trans {ρ ρ1 ρ2 : Nat → Addr} {n n1 n2 : Nat} {H H1 H2 : Hp} (a : Ext ρ n H ρ1 n1 H1) (b : Ext ρ1 n1 H1 ρ2 n2 H2) : Ext ρ n H ρ2 n2 H2 :=
  ⟨Nat.le_trans a.le b.le, fun i h => (b.same i (Nat.lt_of_lt_of_le h a.le)).trans (a.same i h), fun c vs h => b.tups c vs (a.tups c vs h), fun c o u h => b.frzs c o u (a.frzs c o u h)⟩
section
variable {ρ ρ' : Nat → Addr} {n n' : Nat} {H H' : Hp}
mutual
theorem RepV.ext (x : Ext ρ n H ρ' n' H') : ∀ {d : D} {v : V}, RepV ρ n H d v → RepV ρ' n' H' d v
  | .non, _, .non => .non
  | .bl b, _, .bl _ => .bl b
  | .int i, _, .int _ => .int i
  | .str z, _, .str _ => .str z
  | .tup ds, _, .tup h r => .tup (x.tups _ _ h) (RepVs.ext x r)
  | .ref i, _, .ref h => by rw [← x.same i h]; exact .ref (Nat.lt_of_lt_of_le h x.le)
theorem RepVs.ext (x : Ext ρ n H ρ' n' H') : ∀ {ds : List D} {vs : List V}, RepVs ρ n H ds vs → RepVs ρ' n' H' ds vs
  | [], _, .nil => .nil
  | _ :: _, _, .cons a b => .cons (RepV.ext x a) (RepVs.ext x b)
end
mutual
theorem RepV.bd : ∀ {d : D} {v : V}, RepV ρ n H d v → d.bd n = true
  | .non, _, .non => by simp [D.bd]
  | .bl _, _, .bl _ => by simp [D.bd]
  | .int _, _, .int _ => by simp [D.bd]
  | .str _, _, .str _ => by simp [D.bd]
  | .tup ds, _, .tup _ r => by simp only [D.bd]; exact RepVs.bd r
  | .ref i, _, .ref h => by simp [D.bd, h]
theorem RepVs.bd : ∀ {ds : List D} {vs : List V}, RepVs ρ n H ds vs → bdAll n ds = true
  | [], _, .nil => by simp [bdAll]
  | _ :: _, _, .cons a b => by simp [bdAll, RepV.bd a, RepVs.bd b]
end
mutual
/-- fewer numbers are enough -/
theorem RepV.cut {m : Nat} : ∀ {d : D} {v : V}, RepV ρ n H d v → d.bd m = true → RepV ρ m H d v
  | .non, _, .non, _ => .non
  | .bl b, _, .bl _, _ => .bl b
  | .int i, _, .int _, _ => .int i
  | .str z, _, .str _, _ => .str z
  | .tup ds, _, .tup h r, e => .tup h (RepVs.cut r (by simpa [D.bd] using e))
  | .ref i, _, .ref h, e => .ref (by simpa [D.bd] using e)
theorem RepVs.cut {m : Nat} : ∀ {ds : List D} {vs : List V}, RepVs ρ n H ds vs → bdAll m ds = true → RepVs ρ m H ds vs
  | [], _, .nil, _ => .nil
  | d :: ds, _, .cons a b, e => by
    simp only [bdAll, Bool.and_eq_true] at e
    exact .cons (RepV.cut a e.1) (RepVs.cut b e.2)
end
theorem RepVs.len : ∀ {ds : List D} {vs : List V}, RepVs ρ n H ds vs → ds.length = vs.length
  | [], _, .nil => rfl
  | _ :: _, _, .cons _ b => by rw [List.length_cons, List.length_cons, RepVs.len b]
theorem RepVs.get : ∀ {ds : List D} {vs : List V} {i : Nat} {d : D}, RepVs ρ n H ds vs → ds[i]? = some d → ∃ v, vs[i]? = some v ∧ RepV ρ n H d v
  | [], _, _, _, .nil, e => by simp at e
  | d :: ds, v :: vs, 0, _, .cons a b, e => by
    simp at e; subst e; exact ⟨v, by simp, a⟩
  | d :: ds, v :: vs, i + 1, c, .cons a b, e => by
    obtain ⟨v', h1, h2⟩ := RepVs.get (i := i) b (by simpa using e)
    exact ⟨v', by simpa using h1, h2⟩
theorem RepVs.set {x : D} {y : V} (r : RepV ρ n H x y) : ∀ {ds : List D} {vs : List V} (i : Nat), RepVs ρ n H ds vs → RepVs ρ n H (ds.set i x) (vs.set i y)
  | [], _, _, .nil => .nil
  | _ :: _, _, 0, .cons _ b => .cons r b
  | _ :: _, _, i + 1, .cons a b => .cons a (RepVs.set r i b)
theorem RepVs.app : ∀ {ds es : List D} {vs us : List V}, RepVs ρ n H ds vs → RepVs ρ n H es us → RepVs ρ n H (ds ++ es) (vs ++ us)
  | [], _, _, _, .nil, s => s
  | _ :: _, _, _, _, .cons a b, s => .cons a (RepVs.app b s)
theorem RepVs.take : ∀ {ds : List D} {vs : List V} (k : Nat), RepVs ρ n H ds vs → RepVs ρ n H (ds.take k) (vs.take k)
  | _, _, 0, _ => by rw [List.take_zero, List.take_zero]; exact .nil
  | [], _, _ + 1, .nil => .nil
  | _ :: _, _, k + 1, .cons a b => .cons a (RepVs.take k b)
theorem RepVs.drop : ∀ {ds : List D} {vs : List V} (k : Nat), RepVs ρ n H ds vs → RepVs ρ n H (ds.drop k) (vs.drop k)
  | _, _, 0, r => r
  | [], _, _ + 1, .nil => .nil
  | _ :: _, _, k + 1, .cons _ b => RepVs.drop k b
theorem RepVs.ints : ∀ (ns : List Int), RepVs ρ n H (ns.map D.int) (ns.map V.int)
  | [] => .nil
  | i :: ns => .cons (.int i) (RepVs.ints ns)
theorem RepVs.of_ints : ∀ {ns : List Int} {vs : List V}, RepVs ρ n H (ns.map D.int) vs → vs = ns.map V.int
  | [], _, .nil => rfl
  | i :: ns, _, .cons a b => by
    cases a
    rw [RepVs.of_ints (ns := ns) b, List.map_cons]
end

/-! ### attributes -/
inductive RepF (ρ : Nat → Addr) (n : Nat) (H : Hp) : List (Nat × D) → List (Str × V) → Prop
  | nil : RepF ρ n H [] []
  | cons {i : Nat} {d : D} {x : Str} {v : V} {fs : List (Nat × D)} {gs : List (Str × V)} : fldN[i]? = some x → RepV ρ n H d v → RepF ρ n H fs gs → RepF ρ n H ((i, d) :: fs) ((x, v) :: gs)
section
variable {ρ ρ' : Nat → Addr} {n n' : Nat} {H H' : Hp}
theorem RepF.ext (x : Ext ρ n H ρ' n' H') : ∀ {fs : List (Nat × D)} {gs : List (Str × V)}, RepF ρ n H fs gs → RepF ρ' n' H' fs gs
  | [], _, .nil => .nil
  | _ :: _, _, .cons a b c => .cons a (b.ext x) (RepF.ext x c)
theorem RepF.cut {m : Nat} : ∀ {fs : List (Nat × D)} {gs : List (Str × V)}, RepF ρ n H fs gs → (fs.all fun p => p.2.bd m) = true → RepF ρ m H fs gs
  | [], _, .nil, _ => .nil
  | _ :: _, _, .cons a b c, e => by
    rw [List.all_cons, Bool.and_eq_true] at e
    exact .cons a (b.cut e.1) (RepF.cut c e.2)
theorem RepF.len : ∀ {fs : List (Nat × D)} {gs : List (Str × V)}, RepF ρ n H fs gs → fs.length = gs.length
  | [], _, .nil => rfl
  | _ :: _, _, .cons _ _ c => by rw [List.length_cons, List.length_cons, RepF.len c]
theorem RepF.look {i : Nat} {x : Str} {d : D} (hx : fldN[i]? = some x) : ∀ {fs : List (Nat × D)} {gs : List (Str × V)}, RepF ρ n H fs gs → lookF i fs = some d → ∃ v, gs.lookup x = some v ∧ RepV ρ n H d v
  | [], _, .nil, e => by cases e
  | (j, c) :: fs, (y, v) :: gs, .cons a b t, e => by
    unfold lookF at e
    by_cases hj : j = i
    · rw [if_pos hj] at e
      cases e
      subst hj
      rw [hx] at a
      cases a
      exact ⟨v, by rw [List.lookup_cons, beq_self_eq_true], b⟩
    · rw [if_neg hj] at e
      obtain ⟨u, h1, h2⟩ := RepF.look hx t e
      refine ⟨u, ?_, h2⟩
      have ne : (x == y) = false := beq_eq_false_iff_ne.mpr fun z => hj (fld_inj a (z ▸ hx))
      rw [List.lookup_cons, ne]
      exact h1
theorem RepF.none {i : Nat} {x : Str} (hx : fldN[i]? = some x) : ∀ {fs : List (Nat × D)} {gs : List (Str × V)}, RepF ρ n H fs gs → lookF i fs = .none → gs.lookup x = .none
  | [], _, .nil, e => rfl
  | (j, c) :: fs, (y, v) :: gs, .cons a b t, e => by
    unfold lookF at e
    by_cases hj : j = i
    · rw [if_pos hj] at e
      cases e
    · rw [if_neg hj] at e
      have ne : (x == y) = false := beq_eq_false_iff_ne.mpr fun z => hj (fld_inj a (z ▸ hx))
      rw [List.lookup_cons, ne]
      exact RepF.none hx t e
theorem RepF.out {x : Str} (hx : x ∉ fldN) : ∀ {fs : List (Nat × D)} {gs : List (Str × V)}, RepF ρ n H fs gs → gs.lookup x = .none
  | [], _, .nil => rfl
  | (j, c) :: fs, (y, v) :: gs, .cons a b t => by
    have ne : (x == y) = false := beq_eq_false_iff_ne.mpr fun z => hx (z ▸ List.mem_of_getElem? a)
    rw [List.lookup_cons, ne]
    exact RepF.out hx t
theorem RepF.put {i : Nat} {x : Str} {d : D} {v : V} (hx : fldN[i]? = some x) (r : RepV ρ n H d v) : ∀ {fs : List (Nat × D)} {gs : List (Str × V)}, RepF ρ n H fs gs → RepF ρ n H (setF i d fs) (putF x v gs)
  | [], _, .nil => .cons hx r .nil
  | (j, c) :: fs, (y, u) :: gs, .cons a b t => by
    unfold setF putF
    by_cases hj : j = i
    · subst hj
      rw [hx] at a
      cases a
      rw [if_pos rfl, if_pos rfl]
      exact .cons hx r t
    · rw [if_neg hj, if_neg fun z : y = x => hj (fld_inj (z ▸ a) hx)]
      exact .cons a b (RepF.put hx r t)
end

/-! ### dicts: keys are ints and texts, or tuples of these -/
def keyD : D → Option Key
  | .int i => some (.inl i)
  | .str x => some (.inr x)
  | _ => none
def keysD : List D → Option (List Key)
  | [] => some []
  | d :: ds => match keyD d, keysD ds with
    | some k, some ks => some (k :: ks)
    | _, _ => none
def keyT : D → Option (List Key)
  | .tup ds => keysD ds
  | _ => none
inductive RepK {κ : Type} (kf : D → Option κ) (ρ : Nat → Addr) (n : Nat) (H : Hp) : List (D × D) → List (κ × V) → Prop
  | nil : RepK kf ρ n H [] []
  | cons {k d : D} {x : κ} {v : V} {fs : List (D × D)} {gs : List (κ × V)} : kf k = some x → RepV ρ n H d v → RepK kf ρ n H fs gs → RepK kf ρ n H ((k, d) :: fs) ((x, v) :: gs)
section
variable {κ : Type} {kf : D → Option κ} {ρ ρ' : Nat → Addr} {n n' : Nat} {H H' : Hp}
theorem RepK.ext (x : Ext ρ n H ρ' n' H') : ∀ {fs : List (D × D)} {gs : List (κ × V)}, RepK kf ρ n H fs gs → RepK kf ρ' n' H' fs gs
  | [], _, .nil => .nil
  | _ :: _, _, .cons a b c => .cons a (b.ext x) (RepK.ext x c)
theorem RepK.cut {m : Nat} : ∀ {fs : List (D × D)} {gs : List (κ × V)}, RepK kf ρ n H fs gs → (fs.all fun p => p.1.bd m && p.2.bd m) = true → RepK kf ρ m H fs gs
  | [], _, .nil, _ => .nil
  | _ :: _, _, .cons a b c, e => by
    rw [List.all_cons, Bool.and_eq_true, Bool.and_eq_true] at e
    exact .cons a (b.cut e.1.2) (RepK.cut c e.2)
theorem RepK.len : ∀ {fs : List (D × D)} {gs : List (κ × V)}, RepK kf ρ n H fs gs → fs.length = gs.length
  | [], _, .nil => rfl
  | _ :: _, _, .cons _ _ c => by rw [List.length_cons, List.length_cons, RepK.len c]
end

/-! ### objects -/
def RepO (K : PySem.W.Frag) (ρ : Nat → Addr) (n : Nat) (H : Hp) (a : Addr) : O → Prop
  | .lst ds => ∃ vs, H a = some (.lst vs) ∧ RepVs ρ n H ds vs
  | .rol _ => True
  | .dic kvs => ∃ gs : List (Key × V), H a = some (.dK gs) ∧ RepK keyD ρ n H kvs gs
  | .dit kvs => ∃ gs : List (List Key × V), H a = some (.dT gs) ∧ RepK keyT ρ n H kvs gs
  | .ins c fs => ∃ dx gs, H a = some (.ins (clsA K c) dx gs) ∧ RepF ρ n H fs gs
  | .fro kvs => ∃ (ob : Obj) (gs : List (Key × V)), H a = some (.frz ob (.dK gs)) ∧ RepK keyD ρ n H kvs gs
def KL (K : PySem.W.Frag) (a : Addr) (xs : List V) : Prop := ∃ (o : Obj) (its : Array Value) (n : Nat), K.lookup a = some o ∧ o.cls = .type "list" ∧ o.dict = none ∧ o.data = .seq its n ∧ its.size ≤ sizeLine ∧ Vals xs its.toList
structure RepA (K : PySem.W.Frag) (ρ : Nat → Addr) (H : Hp) (A : AH) : Prop where
  objs : ∀ i o, A[i]? = some o → RepO K ρ A.length H (ρ i) o
  rols : ∀ i ds, A[i]? = some (.rol ds) → ∃ vs, RepVs ρ A.length H ds vs ∧ (KL K (ρ i) vs ∨ (Rd H (ρ i) (.lst vs) ∧ ∀ j o, A[j]? = some o → o.mut = true → ρ j ≠ ρ i))
  inj : ∀ i j o u, A[i]? = some o → A[j]? = some u → o.mut = true → u.mut = true → ρ i = ρ j → i = j
structure Nxt (K : PySem.W.Frag) (ρ : Nat → Addr) (A : AH) (H : Hp) (ρ' : Nat → Addr) (A' : AH) (H' : Hp) : Prop where
  ext : Ext ρ A.length H ρ' A'.length H'
  rep : RepA K ρ' H' A'
/-- a mutable object as it stands -/
def Live : Option HO → Prop
  | some (.lst _) => True
  | some (.dK _) => True
  | some (.dT _) => True
  | some (.ins _ _ _) => True
  | some (.frz _ _) => True
  | _ => False
section
variable {K : PySem.W.Frag} {ρ ρ' ρ1 : Nat → Addr} {A A' B : AH} {n n' : Nat} {H H' H1 : Hp} {a p : Addr} {o o' : O} {ho : HO} {i : Nat}
theorem RepO.live (h : RepO K ρ n H a o) (m : o.mut = true) : Live (H a) := by
  cases o with
  | lst ds => obtain ⟨_, e, _⟩ := h; rw [e]; trivial
  | rol ds => cases m
  | dic kvs => obtain ⟨_, e, _⟩ := h; rw [e]; trivial
  | dit kvs => obtain ⟨_, e, _⟩ := h; rw [e]; trivial
  | ins c fs => obtain ⟨_, _, e, _⟩ := h; rw [e]; trivial
  | fro kvs => obtain ⟨_, _, e, _⟩ := h; rw [e]; trivial
theorem RepO.unfrz (h : RepO K ρ n H a o) (nf : ∀ kvs, o ≠ .fro kvs) (m : o.mut = true) : ∀ ob u, H a ≠ some (.frz ob u) := by
  intro ob u z
  cases o with
  | lst ds => obtain ⟨_, e, _⟩ := h; rw [e] at z; cases z
  | rol ds => cases m
  | dic kvs => obtain ⟨_, e, _⟩ := h; rw [e] at z; cases z
  | dit kvs => obtain ⟨_, e, _⟩ := h; rw [e] at z; cases z
  | ins c fs => obtain ⟨_, _, e, _⟩ := h; rw [e] at z; cases z
  | fro kvs => exact nf kvs rfl
theorem RepO.ext (x : Ext ρ n H ρ' n' H') (e : H' a = H a) (h : RepO K ρ n H a o) : RepO K ρ' n' H' a o := by
  cases o with
  | lst ds => obtain ⟨vs, h1, h2⟩ := h; exact ⟨vs, e.trans h1, h2.ext x⟩
  | rol ds => trivial
  | dic kvs => obtain ⟨gs, h1, h2⟩ := h; exact ⟨gs, e.trans h1, h2.ext x⟩
  | dit kvs => obtain ⟨gs, h1, h2⟩ := h; exact ⟨gs, e.trans h1, h2.ext x⟩
  | ins c fs => obtain ⟨dx, gs, h1, h2⟩ := h; exact ⟨dx, gs, e.trans h1, h2.ext x⟩
  | fro kvs => obtain ⟨dx, gs, h1, h2⟩ := h; exact ⟨dx, gs, e.trans h1, h2.ext x⟩
theorem RepO.cut {m : Nat} (h : RepO K ρ n H a o) (b : o.bd m = true) : RepO K ρ m H a o := by
  cases o with
  | lst ds => obtain ⟨vs, h1, h2⟩ := h; exact ⟨vs, h1, h2.cut b⟩
  | rol ds => trivial
  | dic kvs => obtain ⟨gs, h1, h2⟩ := h; exact ⟨gs, h1, h2.cut b⟩
  | dit kvs => obtain ⟨gs, h1, h2⟩ := h; exact ⟨gs, h1, h2.cut b⟩
  | ins c fs => obtain ⟨dx, gs, h1, h2⟩ := h; exact ⟨dx, gs, h1, h2.cut b⟩
  | fro kvs => obtain ⟨dx, gs, h1, h2⟩ := h; exact ⟨dx, gs, h1, h2.cut b⟩
theorem Nxt.refl (R : RepA K ρ H A) : Nxt K ρ A H ρ A H := ⟨.refl, R⟩
theorem Nxt.trans (x : Nxt K ρ A H ρ1 B H1) (y : Nxt K ρ1 B H1 ρ' A' H') : Nxt K ρ A H ρ' A' H' := ⟨x.ext.trans y.ext, y.rep⟩
theorem lt_of_get {α : Type} {l : List α} {j : Nat} {u : α} (h : l[j]? = some u) : j < l.length := (List.getElem?_eq_some_iff.mp h).1
/-- more is tracked, nothing else is changed -/
theorem Nxt.same (R : RepA K ρ H A) (s : Same H H') : Nxt K ρ A H ρ A H' := by
  have x : Ext ρ A.length H ρ A.length H' := ⟨Nat.le_refl _, fun _ _ => rfl, fun a vs h => s a _ h, fun a o u h => s a _ h⟩
  refine ⟨x, fun i o h => ?_, fun i ds h => ?_, R.inj⟩
  · have r := R.objs i o h
    cases m : o.mut with
    | true =>
      have l := r.live m
      refine r.ext x ?_
      cases q : H (ρ i) with
      | none => rw [q] at l; exact l.elim
      | some u => exact s _ _ q
    | false =>
      cases o with
      | rol ds => trivial
      | _ => cases m
  · obtain ⟨vs, h1, h2⟩ := R.rols i ds h
    refine ⟨vs, h1.ext x, ?_⟩
    rcases h2 with h2 | ⟨h2, h3⟩
    · exact .inl h2
    · refine .inr ⟨?_, h3⟩
      rcases h2 with h2 | ⟨ob, h2⟩
      · exact .inl (s _ _ h2)
      · exact .inr ⟨ob, s _ _ h2⟩
theorem same_upd (hp : H p = none) : Same H (upd H p ho) := fun b u e => by rw [upd_ne (ne_of_none e hp)]; exact e
/-- a new object -/
theorem Nxt.alloc (R : RepA K ρ H A) (hp : H p = none) (m : o.mut = true)
    (new : ∀ ρ', Ext ρ A.length H ρ' (A.length + 1) (upd H p ho) → RepO K ρ' (A.length + 1) (upd H p ho) p o) :
    ∃ ρ', ρ' A.length = p ∧ Nxt K ρ A H ρ' (A ++ [o]) (upd H p ho) := by
  have s : Same H (upd H p ho) := same_upd hp
  refine ⟨fun i => if i = A.length then p else ρ i, if_pos rfl, ?_⟩
  have x : Ext ρ A.length H (fun i => if i = A.length then p else ρ i) (A.length + 1) (upd H p ho) := ⟨Nat.le_succ _, fun i h => if_neg (Nat.ne_of_lt h), fun a vs h => s a _ h, fun a o u h => s a _ h⟩
  have ge : ∀ i u, (A ++ [o])[i]? = some u → (i < A.length ∧ A[i]? = some u) ∨ (i = A.length ∧ u = o) := fun i u h => by
    by_cases hi : i < A.length
    · rw [List.getElem?_append_left hi] at h; exact .inl ⟨hi, h⟩
    · have hl := lt_of_get h
      rw [List.length_append, List.length_singleton] at hl
      have e : i = A.length := by omega
      subst e
      rw [List.getElem?_append_right (Nat.le_refl _), Nat.sub_self] at h
      exact .inr ⟨rfl, (Option.some.inj h).symm⟩
  have free : ∀ j u, A[j]? = some u → u.mut = true → ρ j ≠ p := fun j u h mu z => by
    have l := (R.objs j u h).live mu
    rw [z, hp] at l
    exact l
  have len : (A ++ [o]).length = A.length + 1 := by rw [List.length_append, List.length_singleton]
  refine ⟨by rw [len]; exact x, fun i u h => ?_, fun i ds h => ?_, fun i j u w h1 h2 m1 m2 e => ?_⟩
  · rw [len]
    rcases ge i u h with ⟨hi, h⟩ | ⟨rfl, rfl⟩
    · show RepO K _ _ _ (if i = A.length then p else ρ i) u
      rw [if_neg (Nat.ne_of_lt hi)]
      have r := R.objs i u h
      cases mu : u.mut with
      | true => exact r.ext x (upd_ne (free i u h mu))
      | false =>
        cases u with
        | rol ds => trivial
        | _ => cases mu
    · show RepO K _ _ _ (if A.length = A.length then p else ρ A.length) u
      rw [if_pos rfl]
      exact new _ x
  · rw [len]
    rcases ge i _ h with ⟨hi, h⟩ | ⟨rfl, rfl⟩
    · obtain ⟨vs, h1, h2⟩ := R.rols i ds h
      refine ⟨vs, h1.ext x, ?_⟩
      show KL K (if i = A.length then p else ρ i) vs ∨ (Rd (upd H p ho) (if i = A.length then p else ρ i) _ ∧ ∀ j o_1, _ → _ → (if j = A.length then p else ρ j) ≠ (if i = A.length then p else ρ i))
      rw [if_neg (Nat.ne_of_lt hi)]
      rcases h2 with h2 | ⟨h2, h3⟩
      · exact .inl h2
      · have hne : ρ i ≠ p := fun z => by
          rcases h2 with h2 | ⟨ob, h2⟩ <;> (rw [z, hp] at h2; cases h2)
        refine .inr ⟨?_, fun j u hj mu => ?_⟩
        · rcases h2 with h2 | ⟨ob, h2⟩
          · exact .inl (s _ _ h2)
          · exact .inr ⟨ob, s _ _ h2⟩
        · rcases ge j u hj with ⟨hjl, hj⟩ | ⟨rfl, rfl⟩
          · rw [if_neg (Nat.ne_of_lt hjl)]; exact h3 j u hj mu
          · rw [if_pos rfl]; exact fun z => hne z.symm
    · cases m
  · have e' : (if i = A.length then p else ρ i) = (if j = A.length then p else ρ j) := e
    rcases ge i u h1 with ⟨hi, g1⟩ | ⟨ei, eu⟩ <;> rcases ge j w h2 with ⟨hj, g2⟩ | ⟨ej, ew⟩
    · rw [if_neg (Nat.ne_of_lt hi), if_neg (Nat.ne_of_lt hj)] at e'
      exact R.inj i j u w g1 g2 m1 m2 e'
    · rw [if_neg (Nat.ne_of_lt hi), if_pos ej] at e'
      exact absurd e' (free i u g1 m1)
    · rw [if_pos ei, if_neg (Nat.ne_of_lt hj)] at e'
      exact absurd e'.symm (free j w g2 m2)
    · rw [ei, ej]
/-! the heap's tuples are all that a value asks -/
section
variable {ρ : Nat → Addr} {n : Nat} {H H' : Hp} (tp : ∀ a vs, H a = some (.tup vs) → H' a = some (.tup vs))
include tp
mutual
theorem RepV.hp : ∀ {d : D} {v : V}, RepV ρ n H d v → RepV ρ n H' d v
  | .non, _, .non => .non
  | .bl b, _, .bl _ => .bl b
  | .int i, _, .int _ => .int i
  | .str z, _, .str _ => .str z
  | .tup ds, _, .tup h r => .tup (tp _ _ h) (RepVs.hp r)
  | .ref i, _, .ref h => .ref h
theorem RepVs.hp : ∀ {ds : List D} {vs : List V}, RepVs ρ n H ds vs → RepVs ρ n H' ds vs
  | [], _, .nil => .nil
  | _ :: _, _, .cons a b => .cons (RepV.hp a) (RepVs.hp b)
end
theorem RepF.hp : ∀ {fs : List (Nat × D)} {gs : List (Str × V)}, RepF ρ n H fs gs → RepF ρ n H' fs gs
  | [], _, .nil => .nil
  | _ :: _, _, .cons a b c => .cons a (RepV.hp tp b) (RepF.hp c)
theorem RepK.hp {κ : Type} {kf : D → Option κ} : ∀ {fs : List (D × D)} {gs : List (κ × V)}, RepK kf ρ n H fs gs → RepK kf ρ n H' fs gs
  | [], _, .nil => .nil
  | _ :: _, _, .cons a b c => .cons a (RepV.hp tp b) (RepK.hp c)
theorem RepO.hp {K : PySem.W.Frag} {a : Addr} {o : O} (e : H' a = H a) (h : RepO K ρ n H a o) : RepO K ρ n H' a o := by
  cases o with
  | lst ds => obtain ⟨vs, h1, h2⟩ := h; exact ⟨vs, e.trans h1, RepVs.hp tp h2⟩
  | rol ds => trivial
  | dic kvs => obtain ⟨gs, h1, h2⟩ := h; exact ⟨gs, e.trans h1, RepK.hp tp h2⟩
  | dit kvs => obtain ⟨gs, h1, h2⟩ := h; exact ⟨gs, e.trans h1, RepK.hp tp h2⟩
  | ins c fs => obtain ⟨dx, gs, h1, h2⟩ := h; exact ⟨dx, gs, e.trans h1, RepF.hp tp h2⟩
  | fro kvs => obtain ⟨dx, gs, h1, h2⟩ := h; exact ⟨dx, gs, e.trans h1, RepK.hp tp h2⟩
end
/-- an object is changed -/
theorem RepA.set (R : RepA K ρ H A) (hi : A[i]? = some o) (m : o.mut = true) (m' : o'.mut = true) (new : RepO K ρ A.length (upd H (ρ i) ho) (ρ i) o') : RepA K ρ (upd H (ρ i) ho) (A.set i o') := by
  have l := (R.objs i o hi).live m
  have tp : ∀ a vs, H a = some (.tup vs) → upd H (ρ i) ho a = some (.tup vs) := fun a vs h => by
    rw [upd_ne fun z => by rw [← z, h] at l; exact l]
    exact h
  have hl := lt_of_get hi
  have ge : ∀ j u, (A.set i o')[j]? = some u → (j ≠ i ∧ A[j]? = some u) ∨ (j = i ∧ u = o') := fun j u h => by
    by_cases e : i = j
    · subst e
      rw [List.getElem?_set_self hl] at h
      exact .inr ⟨rfl, (Option.some.inj h).symm⟩
    · rw [List.getElem?_set_ne e] at h
      exact .inl ⟨fun z => e z.symm, h⟩
  have len : (A.set i o').length = A.length := List.length_set
  refine ⟨fun j u h => ?_, fun j ds h => ?_, fun j k u w h1 h2 m1 m2 e => ?_⟩
  · rw [len]
    rcases ge j u h with ⟨hj, h⟩ | ⟨rfl, rfl⟩
    · have r := R.objs j u h
      cases mu : u.mut with
      | true => exact r.hp tp (upd_ne fun z => hj (R.inj j i u o h hi mu m z))
      | false =>
        cases u with
        | rol ds => trivial
        | _ => cases mu
    · exact new
  · rw [len]
    rcases ge j _ h with ⟨hj, h⟩ | ⟨rfl, rfl⟩
    · obtain ⟨vs, h1, h2⟩ := R.rols j ds h
      refine ⟨vs, h1.hp tp, ?_⟩
      rcases h2 with h2 | ⟨h2, h3⟩
      · exact .inl h2
      · have hne : ρ j ≠ ρ i := fun z => h3 i o hi m z.symm
        refine .inr ⟨?_, fun k u hk mu => ?_⟩
        · rcases h2 with h2 | ⟨ob, h2⟩
          · exact .inl ((upd_ne hne).trans h2)
          · exact .inr ⟨ob, (upd_ne hne).trans h2⟩
        · rcases ge k u hk with ⟨_, hk⟩ | ⟨rfl, rfl⟩
          · exact h3 k u hk mu
          · exact h3 k o hi m
    · cases m'
  · rcases ge j u h1 with ⟨hj, g1⟩ | ⟨ej, eu⟩ <;> rcases ge k w h2 with ⟨hk, g2⟩ | ⟨ek, ew⟩
    · exact R.inj j k u w g1 g2 m1 m2 e
    · rw [ek] at e ⊢
      exact R.inj j i u o g1 hi m1 m e
    · rw [ej] at e ⊢
      exact R.inj i k o w hi g2 m m2 e
    · rw [ej, ek]
theorem Nxt.set (R : RepA K ρ H A) (hi : A[i]? = some o) (m : o.mut = true) (m' : o'.mut = true) (new : Ext ρ A.length H ρ A.length (upd H (ρ i) ho) → RepO K ρ A.length (upd H (ρ i) ho) (ρ i) o') (nf : ∀ kvs, o ≠ .fro kvs := by intro _ h; cases h) :
    Nxt K ρ A H ρ (A.set i o') (upd H (ρ i) ho) := by
  have l := (R.objs i o hi).live m
  have lf := (R.objs i o hi).unfrz nf m
  have x : Ext ρ A.length H ρ A.length (upd H (ρ i) ho) := ⟨Nat.le_refl _, fun _ _ => rfl, fun a vs h => by
    rw [upd_ne fun z => by rw [← z, h] at l; exact l]
    exact h, fun a ob u h => by
    rw [upd_ne fun z => lf ob u (by rw [← z, h])]
    exact h⟩
  exact ⟨by rw [List.length_set]; exact x, R.set hi m m' (new x)⟩
/-- a sequence that is read -/
theorem RepA.seq (R : RepA K ρ H A) {ds : List D} (h : seqAt A i = some ds) : ∃ vs, SqL K H (ρ i) vs ∧ RepVs ρ A.length H ds vs := by
  unfold seqAt at h
  cases e : A[i]? with
  | none => rw [e] at h; cases h
  | some u =>
    rw [e] at h
    cases u with
    | lst xs =>
      cases h
      obtain ⟨vs, h1, h2⟩ := R.objs i _ e
      exact ⟨vs, .inl (.inl h1), h2⟩
    | rol xs =>
      cases h
      obtain ⟨vs, h1, h2⟩ := R.rols i _ e
      refine ⟨vs, ?_, h1⟩
      rcases h2 with h2 | ⟨h2, _⟩
      · exact .inr h2
      · exact .inl h2
    | dic _ => cases h
    | dit _ => cases h
    | ins _ _ => cases h
    | fro _ => cases h
end
end DL
set_option Elab.async false
set_option linter.all false
set_option maxRecDepth 100000
set_option maxHeartbeats 4000000
/-! The judgements: a piece of syntax does what a plain function says (own work). -/
namespace DL
open PySem PySem.Spec PyProof.Rows L2
abbrev Sl := L2.St

theorem PE.imp {X : Cx} {e : Expr} {t t' : TE} (h : PE X e t) (hh : ∀ σ H Q, t' σ H Q → t σ H Q) : PE X e t' := ⟨fun pins s σ H Q I q => h.run pins s σ H Q I (hh σ H Q q)⟩
theorem PT.imp {X : Cx} {e : Expr} {t t' : TT} (h : PT X e t) (hh : ∀ σ H Q, t' σ H Q → t σ H Q) : PT X e t' := ⟨fun pins s σ H Q I q => h.run pins s σ H Q I (hh σ H Q q)⟩
theorem PW.imp {X : Cx} {e : Expr} {t t' : TT} (h : PW X e t) (hh : ∀ σ H Q, t' σ H Q → t σ H Q) : PW X e t' := ⟨fun wh pins s σ H Q I q => h.run wh pins s σ H Q I (hh σ H Q q)⟩
theorem PA.imp {X : Cx} {e : List Expr} {t t' : TA} (h : PA X e t) (hh : ∀ σ H Q, t' σ H Q → t σ H Q) : PA X e t' := ⟨fun pos pins s σ H Q I q => h.run pos pins s σ H Q I (hh σ H Q q)⟩
theorem PI.imp {X : Cx} {tg e : Expr} {t t' : TI} (h : PI X tg e t) (hh : ∀ σ H R, t' σ H R → t σ H R) : PI X tg e t' := ⟨fun pins s σ H R I q => h.run pins s σ H R I (hh σ H R q)⟩
theorem PS.imp {X : Cx} {e : Stmt} {t t' : TS} (h : PS X e t) (hh : ∀ D σ H, t' D σ H → t D σ H) : PS X e t' := ⟨fun pins s σ H D I q => h.run pins s σ H D I (hh D σ H q)⟩
theorem PSs.imp {X : Cx} {e : List Stmt} {t t' : TS} (h : PSs X e t) (hh : ∀ D σ H, t' D σ H → t D σ H) : PSs X e t' := ⟨fun pins s σ H D I q => h.run pins s σ H D I (hh D σ H q)⟩
theorem PG.imp {X : Cx} {e : Expr} {t t' : TG} (h : PG X e t) (hh : ∀ v σ H Q, t' v σ H Q → t v σ H Q) : PG X e t' := ⟨fun pins s σ H v u Q I r q => h.run pins s σ H v u Q I r (hh v σ H Q q)⟩
theorem PGs.imp {X : Cx} {e : List Expr} {t t' : TGs} (h : PGs X e t) (hh : ∀ v σ H Q, t' v σ H Q → t v σ H Q) : PGs X e t' := ⟨fun pins s σ H v u Q I r q => h.run pins s σ H v u Q I r (hh v σ H Q q)⟩

/-- the slots -/
structure RepE (ρ : Nat → Addr) (n : Nat) (H : Hp) (E : Env) (σ : Sl) : Prop where
  len : E.length = σ.length
  get : ∀ (i : Nat) (d : D), E[i]? = some (some d) → ∃ v, σ[i]? = some (some v) ∧ RepV ρ n H d v
theorem RepE.ext {ρ ρ' : Nat → Addr} {n n' : Nat} {H H' : Hp} {E : Env} {σ : Sl} (r : RepE ρ n H E σ) (x : Ext ρ n H ρ' n' H') : RepE ρ' n' H' E σ :=
  ⟨r.len, fun i d h => let ⟨v, h1, h2⟩ := r.get i d h; ⟨v, h1, h2.ext x⟩⟩
theorem RepE.set {ρ : Nat → Addr} {n : Nat} {H : Hp} {E : Env} {σ : Sl} (r : RepE ρ n H E σ) (i : Nat) {d : D} {v : V} (h : RepV ρ n H d v) : RepE ρ n H (E.set i (some d)) (σ.set i (some v)) := by
  refine ⟨by rw [List.length_set, List.length_set]; exact r.len, fun j c e => ?_⟩
  have hl := lt_of_get e
  rw [List.length_set] at hl
  by_cases z : i = j
  · subst z
    rw [List.getElem?_set_self hl] at e
    cases e
    exact ⟨v, List.getElem?_set_self (by rw [← r.len]; exact hl), h⟩
  · rw [List.getElem?_set_ne z] at e
    obtain ⟨u, h1, h2⟩ := r.get j c e
    exact ⟨u, by rw [List.getElem?_set_ne z]; exact h1, h2⟩
theorem RepE.clear {ρ : Nat → Addr} {n : Nat} {H : Hp} {E : Env} {σ : Sl} (r : RepE ρ n H E σ) (i : Nat) : RepE ρ n H (E.set i none) (σ.set i none) := by
  refine ⟨by rw [List.length_set, List.length_set]; exact r.len, fun j c e => ?_⟩
  have hl := lt_of_get e
  rw [List.length_set] at hl
  by_cases z : i = j
  · subst z
    rw [List.getElem?_set_self hl] at e
    cases e
  · rw [List.getElem?_set_ne z] at e
    obtain ⟨u, h1, h2⟩ := r.get j c e
    exact ⟨u, by rw [List.getElem?_set_ne z]; exact h1, h2⟩
theorem RepE.wipe {ρ : Nat → Addr} {n : Nat} {H : Hp} {E : Env} {σ : Sl} (r : RepE ρ n H E σ) : ∀ vs : List Nat, RepE ρ n H (wipeE E vs) (L2.wipe σ vs)
  | [] => r
  | v :: vs => (RepE.wipe r vs).clear v

/-- an exception -/
def RepX (K : PySem.W.Frag) (ρ : Nat → Addr) (n : Nat) (H : Hp) (x : Exn) (cls : Value) (d : Option Addr) : Prop :=
  cls = .ref (clsA K x.cls) ∧ ((x.fs = [] ∧ d = none) ∨ ∃ a gs, d = some a ∧ H a = some (.xd gs) ∧ RepF ρ n H x.fs gs)

/-- what must hold of a result -/
def Post {α β : Type} (K : PySem.W.Frag) (W : WX) (rel : (Nat → Addr) → Nat → Hp → α → β → Prop) (ρ : Nat → Addr) (A : AH) (σ : Sl) (H : Hp) (r : Res α) (Q : β → Hp → Prop) : Prop := match r with
  | .ok a B => ∀ ρ' b H', Nxt K ρ A H ρ' B H' → rel ρ' B.length H' a b → Q b H'
  | .exc x B => ∀ ρ' cls d H', Nxt K ρ A H ρ' B H' → RepX K ρ' B.length H' x cls d → W cls d σ H'
  | .bad => False
abbrev relB : (Nat → Addr) → Nat → Hp → Bool → Bool → Prop := fun _ _ _ a b => a = b
theorem Post.imp {α β : Type} {K : PySem.W.Frag} {W : WX} {rel : (Nat → Addr) → Nat → Hp → α → β → Prop} {ρ : Nat → Addr} {A : AH} {σ : Sl} {H : Hp} {r : Res α} {Q Q' : β → Hp → Prop} (h : Post K W rel ρ A σ H r Q) (hq : ∀ b H', Q b H' → Q' b H') : Post K W rel ρ A σ H r Q' := by
  cases r with
  | ok a B => exact fun ρ' b H' n r => hq _ _ (h ρ' b H' n r)
  | exc x B => exact h
  | bad => exact h
/-- from a later state -/
theorem Post.later {α β : Type} {K : PySem.W.Frag} {W : WX} {rel : (Nat → Addr) → Nat → Hp → α → β → Prop} {ρ ρ1 : Nat → Addr} {A B : AH} {σ : Sl} {H H1 : Hp} {r : Res α} {Q : β → Hp → Prop} (h : Post K W rel ρ A σ H r Q) (n : Nxt K ρ A H ρ1 B H1) : Post K W rel ρ1 B σ H1 r Q := by
  cases r with
  | ok a C => exact fun ρ' b H' n' r => h ρ' b H' (n.trans n') r
  | exc x C => exact fun ρ' c d H' n' r => h ρ' c d H' (n.trans n') r
  | bad => exact h
theorem Post.bind {α β γ δ : Type} {K : PySem.W.Frag} {W : WX} {rel : (Nat → Addr) → Nat → Hp → α → β → Prop} {rel2 : (Nat → Addr) → Nat → Hp → γ → δ → Prop} {ρ : Nat → Addr} {A : AH} {σ : Sl} {H : Hp} {r : Res α} {f : α → AH → Res γ} {Q : δ → Hp → Prop} {Q1 : β → Hp → Prop}
    (h : Post K W rel2 ρ A σ H (r.bind f) Q) (hq : ∀ ρ1 a B b H1, Nxt K ρ A H ρ1 B H1 → rel ρ1 B.length H1 a b → Post K W rel2 ρ1 B σ H1 (f a B) Q → Q1 b H1) : Post K W rel ρ A σ H r Q1 := by
  cases r with
  | ok a B => exact fun ρ' b H' n r => hq ρ' a B b H' n r (Post.later h n)
  | exc x B => exact h
  | bad => exact h

/-- the transformers -/
def tE (K : PySem.W.Frag) (W : WX) (m : Ex) : TE := fun σ H Q => ∃ ρ E A, RepE ρ A.length H E σ ∧ RepA K ρ H A ∧ Post K W RepV ρ A σ H (m E A) Q
def tT (K : PySem.W.Frag) (W : WX) (m : Tx) : TT := fun σ H Q => ∃ ρ E A, RepE ρ A.length H E σ ∧ RepA K ρ H A ∧ Post K W relB ρ A σ H (m E A) Q
def tAr (K : PySem.W.Frag) (W : WX) (m : Ax) : TA := fun σ H Q => ∃ ρ E A, RepE ρ A.length H E σ ∧ RepA K ρ H A ∧ Post K W RepVs ρ A σ H (m E A) Q
/-- an iterator, abstractly -/
def ItOk (K : PySem.W.Frag) (ρ0 : Nat → Addr) (A0 : AH) (H0 : Hp) (src : Src) (J : It) : Prop := ∀ ρ A H, Nxt K ρ0 A0 H0 ρ A H → ∀ i, match src.at A i with
  | .item d => J.go i H ∧ ∀ x H', J.yld i H x H' → Same H H' ∧ RepV ρ A.length H' d x
  | .stop => J.stop i H
  | .bad => True
abbrev relI (K : PySem.W.Frag) (A : AH) : (Nat → Addr) → Nat → Hp → Src → It → Prop := fun ρ _ H s J => ItOk K ρ A H s J
def PostI (K : PySem.W.Frag) (W : WX) (ρ : Nat → Addr) (A : AH) (σ : Sl) (H : Hp) (r : Res Src) (Q : It → Hp → Prop) : Prop := match r with
  | .ok a B => ∀ ρ' b H', Nxt K ρ A H ρ' B H' → ItOk K ρ' B H' a b → Q b H'
  | .exc x B => ∀ ρ' cls d H', Nxt K ρ A H ρ' B H' → RepX K ρ' B.length H' x cls d → W cls d σ H'
  | .bad => False
def tI (K : PySem.W.Frag) (W : WX) (m : Ix) : TI := fun σ H R => ∃ ρ E A, RepE ρ A.length H E σ ∧ RepA K ρ H A ∧ PostI K W ρ A σ H (m E A) R
def PostS (K : PySem.W.Frag) (W : WX) (ρ : Nat → Addr) (A : AH) (H : Hp) (r : SRes) (Dn : Ends) : Prop := match r with
  | .nx E B => ∀ ρ' σ H', Nxt K ρ A H ρ' B H' → RepE ρ' B.length H' E σ → Dn.nx σ H'
  | .rt d B => ∀ ρ' v H', Nxt K ρ A H ρ' B H' → RepV ρ' B.length H' d v → Dn.rt v H'
  | .bk E B => ∀ ρ' σ H', Nxt K ρ A H ρ' B H' → RepE ρ' B.length H' E σ → Dn.bk σ H'
  | .ct E B => ∀ ρ' σ H', Nxt K ρ A H ρ' B H' → RepE ρ' B.length H' E σ → Dn.ct σ H'
  | .exc x E B => ∀ ρ' cls d σ H', Nxt K ρ A H ρ' B H' → RepE ρ' B.length H' E σ → RepX K ρ' B.length H' x cls d → W cls d σ H'
  | .bad => False
def tS (K : PySem.W.Frag) (W : WX) (m : Sx) : TS := fun Dn σ H => ∃ ρ E A, RepE ρ A.length H E σ ∧ RepA K ρ H A ∧ PostS K W ρ A H (m E A) Dn
/-- a target: of a value -/
def PostG (K : PySem.W.Frag) (W : WX) (ρ : Nat → Addr) (A : AH) (H : Hp) (r : SRes) (Q : Sl → Hp → Prop) : Prop := match r with
  | .nx E B => ∀ ρ' σ H', Nxt K ρ A H ρ' B H' → RepE ρ' B.length H' E σ → Q σ H'
  | .exc x E B => ∀ ρ' cls d σ H', Nxt K ρ A H ρ' B H' → RepE ρ' B.length H' E σ → RepX K ρ' B.length H' x cls d → W cls d σ H'
  | _ => False
def tG (K : PySem.W.Frag) (W : WX) (g : Gx) : TG := fun v σ H Q => ∃ ρ E A d, RepE ρ A.length H E σ ∧ RepA K ρ H A ∧ RepV ρ A.length H d v ∧ PostG K W ρ A H (g d E A) Q
def tGs (K : PySem.W.Frag) (W : WX) (g : Gsx) : TGs := fun vs σ H Q => ∃ ρ E A ds, RepE ρ A.length H E σ ∧ RepA K ρ H A ∧ RepVs ρ A.length H ds vs ∧ PostG K W ρ A H (g ds E A) Q

section
variable {K : PySem.W.Frag} {W : WX} {ρ ρ1 : Nat → Addr} {A B : AH} {σ : Sl} {H H1 : Hp} {r : SRes} {Dn : Ends} {Q : Sl → Hp → Prop}
theorem PostS.later (h : PostS K W ρ A H r Dn) (n : Nxt K ρ A H ρ1 B H1) : PostS K W ρ1 B H1 r Dn := by
  cases r with
  | nx E C => exact fun ρ' σ H' n' r => h ρ' σ H' (n.trans n') r
  | rt d C => exact fun ρ' v H' n' r => h ρ' v H' (n.trans n') r
  | bk E C => exact fun ρ' σ H' n' r => h ρ' σ H' (n.trans n') r
  | ct E C => exact fun ρ' σ H' n' r => h ρ' σ H' (n.trans n') r
  | exc x E C => exact fun ρ' c d σ H' n' r => h ρ' c d σ H' (n.trans n') r
  | bad => exact h
theorem PostG.later (h : PostG K W ρ A H r Q) (n : Nxt K ρ A H ρ1 B H1) : PostG K W ρ1 B H1 r Q := by
  cases r with
  | nx E C => exact fun ρ' σ H' n' r => h ρ' σ H' (n.trans n') r
  | rt d C => exact h
  | bk E C => exact h
  | ct E C => exact h
  | exc x E C => exact fun ρ' c d σ H' n' r => h ρ' c d σ H' (n.trans n') r
  | bad => exact h
/-- an expression ahead of a statement's rest -/
theorem PostS.then {α β : Type} {rel : (Nat → Addr) → Nat → Hp → α → β → Prop} {q : Res α} {E : Env} {f : α → AH → SRes} {Q1 : β → Hp → Prop} (hE : RepE ρ A.length H E σ) (h : PostS K W ρ A H (q.then E f) Dn)
    (hq : ∀ ρ1 a B b H1, Nxt K ρ A H ρ1 B H1 → rel ρ1 B.length H1 a b → PostS K W ρ1 B H1 (f a B) Dn → Q1 b H1) : Post K W rel ρ A σ H q Q1 := by
  cases q with
  | ok a B => exact fun ρ' b H' n r => hq ρ' a B b H' n r (PostS.later h n)
  | exc x B => exact fun ρ' c d H' n r => h ρ' c d σ H' n (hE.ext n.ext) r
  | bad => exact h
theorem PostG.then {α β : Type} {rel : (Nat → Addr) → Nat → Hp → α → β → Prop} {q : Res α} {E : Env} {f : α → AH → SRes} {Q1 : β → Hp → Prop} (hE : RepE ρ A.length H E σ) (h : PostG K W ρ A H (q.then E f) Q)
    (hq : ∀ ρ1 a B b H1, Nxt K ρ A H ρ1 B H1 → rel ρ1 B.length H1 a b → PostG K W ρ1 B H1 (f a B) Q → Q1 b H1) : Post K W rel ρ A σ H q Q1 := by
  cases q with
  | ok a B => exact fun ρ' b H' n r => hq ρ' a B b H' n r (PostG.later h n)
  | exc x B => exact fun ρ' c d H' n r => h ρ' c d σ H' n (hE.ext n.ext) r
  | bad => exact h
end

/-- the judgements -/
def RE (X : Cx) (W : WX) (e : Expr) (m : Ex) : Prop := PE X e (tE X.K W m)
def RT (X : Cx) (W : WX) (e : Expr) (m : Tx) : Prop := PT X e (tT X.K W m)
def RW (X : Cx) (W : WX) (e : Expr) (m : Tx) : Prop := PW X e (tT X.K W m)
def RA (X : Cx) (W : WX) (e : List Expr) (m : Ax) : Prop := PA X e (tAr X.K W m)
def RI (X : Cx) (W : WX) (tg e : Expr) (m : Ix) : Prop := PI X tg e (tI X.K W m)
def RS (X : Cx) (W : WX) (e : Stmt) (m : Sx) : Prop := PS X e (tS X.K W m)
def RSs (X : Cx) (W : WX) (e : List Stmt) (m : Sx) : Prop := PSs X e (tS X.K W m)
def RG (X : Cx) (W : WX) (e : Expr) (m : Gx) : Prop := PG X e (tG X.K W m)
def RGs (X : Cx) (W : WX) (e : List Expr) (m : Gsx) : Prop := PGs X e (tGs X.K W m)
/-- an operation's rule says what the function says -/
def OkL (K : PySem.W.Frag) (r : List V → Hp → VK → Prop) (F : Fn) : Prop := ∀ W ρ A σ H ds vs Q, RepA K ρ H A → RepVs ρ A.length H ds vs → Post K W RepV ρ A σ H (F ds A) Q → r vs H Q
def Ok2 (K : PySem.W.Frag) (r : R2) (F : Fn) : Prop := ∀ W ρ A σ H d e v u Q, RepA K ρ H A → RepV ρ A.length H d v → RepV ρ A.length H e u → Post K W RepV ρ A σ H (F [d, e] A) Q → r v u H Q

section
variable {X : Cx} {W : WX} {pos : Pos}
theorem re_var (i : Nat) {x : Str} (hN : X.N[i]? = some x := by rfl) (hv : Vis X.env.scope x := by first | exact Or.inl rfl | exact Or.inr (Or.inl rfl) | exact Or.inr (Or.inr rfl)) (hd : (x == ("__debug__" : Str)) = false := by decide)
    (hcd : (x == ("__classdict__" : Str)) = false := by decide) : RE X W (.Name x pos) (eVar i) := by
  refine PE.imp (pe_var hN hv hd hcd) fun σ H Q ⟨ρ, E, A, hE, hA, h⟩ => ?_
  have h' : Post X.K W RepV ρ A σ H (okD A E[i]?) Q := h
  cases e : E[i]? with
  | none => rw [e] at h'; exact h'.elim
  | some o =>
    rw [e] at h'
    cases o with
    | none => exact h'.elim
    | some d =>
      obtain ⟨v, h1, h2⟩ := hE.get i d e
      exact ⟨v, h1, h' ρ v H (.refl hA) h2⟩
theorem re_const {e : Expr} {d : D} {v : V} (h : PE X e (L2.tC v)) (r : ∀ ρ n H, RepV ρ n H d v) : RE X W e (eC d) :=
  PE.imp h fun σ H Q ⟨ρ, E, A, hE, hA, q⟩ => q ρ v H (.refl hA) (r _ _ _)
theorem re_int {i j} : RE X W (.Constant (.int i) j pos) (eC (.int i)) := re_const pe_int fun _ _ _ => .int i
theorem re_bl {b j} : RE X W (.Constant (.bool b) j pos) (eC (.bl b)) := re_const pe_bl fun _ _ _ => .bl b
theorem re_non {j} : RE X W (.Constant .none j pos) (eC .non) := re_const pe_non fun _ _ _ => .non
theorem re_str {x j} : RE X W (.Constant (.str x) j pos) (eC (.str x)) := re_const pe_str fun _ _ _ => .str x
/-- a module's number -/
theorem re_globI {x : Str} {i : Int} (hg : Gl X x) (hm : ∃ t, X.mg x = some (.int i t)) (hd : (x == ("__debug__" : Str)) = false := by decide) : RE X W (.Name x pos) (eC (.int i)) := by
  obtain ⟨t, hm⟩ := hm
  exact re_const (pe_glob (v := .int i) hg hm ⟨t, rfl⟩ hd) fun _ _ _ => .int i
theorem re_globS {x z : Str} (hg : Gl X x) (hm : ∃ t, X.mg x = some (.str z t)) (hd : (x == ("__debug__" : Str)) = false := by decide) : RE X W (.Name x pos) (eC (.str z)) := by
  obtain ⟨t, hm⟩ := hm
  exact re_const (pe_glob (v := .str z) hg hm ⟨t, rfl⟩ hd) fun _ _ _ => .str z
theorem re_globN {x : Str} (hg : Gl X x) (hm : X.mg x = some .none) (hd : (x == ("__debug__" : Str)) = false := by decide) : RE X W (.Name x pos) (eC .non) :=
  re_const (pe_glob (v := .non) hg hm rfl hd) fun _ _ _ => .non

/-! ### arguments -/
variable {e a b c : Expr} {es : List Expr} {ma mb mc : Ex} {mr : Ax}
theorem ra_nil : RA X W [] aNil := PA.imp pa_nil fun σ H Q ⟨ρ, E, A, hE, hA, h⟩ => h ρ [] H (.refl hA) .nil
theorem ra_cons (ha : RE X W e ma) (hr : RA X W es mr) (hs : starEach (e :: es) X.env = (false, eval e X.env) :: starEach es X.env := by rfl) : RA X W (e :: es) (aCons ma mr) := by
  refine PA.imp (pa_cons ha hr hs) fun σ H Q ⟨ρ, E, A, hE, hA, h⟩ => ?_
  refine ⟨ρ, E, A, hE, hA, Post.bind h fun ρ1 d B v H1 n1 r1 h1 => ?_⟩
  refine ⟨ρ1, E, B, hE.ext n1.ext, n1.rep, Post.bind h1 fun ρ2 ds C vs H2 n2 r2 h2 => ?_⟩
  exact h2 ρ2 (v :: vs) H2 (.refl n2.rep) (.cons (r1.ext n2.ext) r2)
theorem eF1 {F : Fn} {E : Env} {A : AH} : eF F (aCons ma aNil) E A = (ma E A).bind fun x A1 => F [x] A1 := by
  unfold eF aCons
  cases ma E A <;> rfl
theorem eF2 {F : Fn} {E : Env} {A : AH} : eF F (aCons ma (aCons mb aNil)) E A = (ma E A).bind fun x A1 => (mb E A1).bind fun y A2 => F [x, y] A2 := by
  unfold eF aCons
  cases ma E A with
  | ok d A1 =>
    show ((Res.bind (Res.bind (mb E A1) (kCons aNil E)) (kCons2 d)).bind F) = (mb E A1).bind fun y A2 => F [d, y] A2
    cases e : mb E A1 <;> rfl
  | exc x A1 => rfl
  | bad => rfl
/-- two operands -/
theorem two {r : R2} {F : Fn} (hk : Ok2 X.K r F) {σ : Sl} {H : Hp} {Q : VK} (h : tE X.K W (eF F (aCons ma (aCons mb aNil))) σ H Q) : tOp r (tE X.K W ma) (tE X.K W mb) σ H Q := by
  obtain ⟨ρ, E, A, hE, hA, h⟩ := h
  rw [eF2] at h
  refine ⟨ρ, E, A, hE, hA, Post.bind h fun ρ1 d B v H1 n1 r1 h1 => ?_⟩
  refine ⟨ρ1, E, B, hE.ext n1.ext, n1.rep, Post.bind h1 fun ρ2 d2 C v2 H2 n2 r2 h2 => ?_⟩
  exact hk W ρ2 C σ H2 d d2 v v2 Q n2.rep (r1.ext n2.ext) r2 h2
theorem re_bin {op : Operator} {r : R2} {F : Fn} (ho : OpR X (binaryOp op) r) (hk : Ok2 X.K r F) (ha : RE X W a ma) (hb : RE X W b mb) : RE X W (.BinOp a op b pos) (eF F (aCons ma (aCons mb aNil))) :=
  PE.imp (pe_op ho ha hb) fun σ H Q h => two hk h
theorem re_cmp {op : CmpOp} {r : R2} {F : Fn} (ho : OpR X (compareOp op) r) (hk : Ok2 X.K r F) (ha : RE X W a ma) (hb : RE X W b mb) (hm : behindInMarks op b = false) : RE X W (.Compare a [op] [b] pos) (eF F (aCons ma (aCons mb aNil))) :=
  PE.imp (pe_cmpR ho ha hb hm) fun σ H Q h => two hk h
theorem rt_cmp {op : CmpOp} {r : R2} {F : Fn} (ho : OpR X (compareOp op) r) (hk : Ok2 X.K r F) (ha : RE X W a ma) (hb : RE X W b mb) (hm : behindInMarks op b = false) : RT X W (.Compare a [op] [b] pos) (tB (eF F (aCons ma (aCons mb aNil)))) := by
  refine PT.imp (pt_cmpR ho ha hb hm) fun σ H Q ⟨ρ, E, A, hE, hA, h⟩ => two hk (W := W) ⟨ρ, E, A, hE, hA, Post.bind h fun ρ1 d B v H1 n1 r1 h1 => ?_⟩
  cases d with
  | bl k =>
    cases r1
    exact ⟨k, rfl, h1 ρ1 k H1 (.refl n1.rep) rfl⟩
  | _ => exact h1.elim
theorem re_ix {r : R2} {F : Fn} (ho : IxR X r) (hk : Ok2 X.K r F) (ha : RE X W a ma) (hb : RE X W b mb) (hs : PlainIx b) : RE X W (.Subscript a b pos) (eF F (aCons ma (aCons mb aNil))) :=
  PE.imp (pe_ix ho ha hb hs) fun σ H Q h => two hk h
theorem re_un {op : UnaryOp} {r : V → Hp → VK → Prop} {F : Fn} (ho : UnR X (unaryOp op) r) (hk : OkL X.K (fun vs H Q => ∃ v, vs = [v] ∧ r v H Q) F) (ha : RE X W a ma) : RE X W (.UnaryOp op a pos) (eF F (aCons ma aNil)) := by
  refine PE.imp (pe_un ho ha) fun σ H Q ⟨ρ, E, A, hE, hA, h⟩ => ?_
  rw [eF1] at h
  refine ⟨ρ, E, A, hE, hA, Post.bind h fun ρ1 d B v H1 n1 r1 h1 => ?_⟩
  obtain ⟨v', e, q⟩ := hk W ρ1 B σ H1 [d] [v] Q n1.rep (.cons r1 .nil) h1
  cases e
  exact q
/-- a built-in by its name, a built-in class -/
theorem many {r : List V → Hp → VK → Prop} {F : Fn} (hk : OkL X.K r F) {σ : Sl} {H : Hp} {Q : VK} (h : tE X.K W (eF F mr) σ H Q) : tCB r (tAr X.K W mr) σ H Q := by
  obtain ⟨ρ, E, A, hE, hA, h⟩ := h
  refine ⟨ρ, E, A, hE, hA, Post.bind h fun ρ1 ds B vs H1 n1 r1 h1 => ?_⟩
  exact hk W ρ1 B σ H1 ds vs Q n1.rep r1 h1
theorem re_callB {id : String} {x : Str} {p : Pos} {r : List V → Hp → VK → Prop} {F : Fn} (hc : CallR X (.builtin id) r) (hk : OkL X.K r F) (hg : Gl X x) (hm : X.mg x = none) (hv : bootBuiltins x = some (.builtin id)) (ha : RA X W (e :: es) mr)
    (hn : x ≠ "__name__" := by decide) (hdb : (x == ("__debug__" : Str)) = false := by decide) (he : starEach (e :: es) X.env = (false, eval e X.env) :: starEach es X.env := by rfl) (hpl : (backTo pos (starEach es X.env)).any (·.1) = false := by rfl) :
    RE X W (.Call (.Name x p) (e :: es) [] pos) (eF F mr) := PE.imp (pe_callB hc hg hm hv ha hn hdb he hpl) fun σ H Q h => many hk h
theorem re_callTy {T : String} {x : Str} {p : Pos} {r : List V → Hp → VK → Prop} {F : Fn} (hc : CallR X (.type T) r) (hk : OkL X.K r F) (hg : Gl X x) (hm : X.mg x = none) (hv : bootBuiltins x = some (.type T)) (ha : RA X W (e :: es) mr)
    (hn : x ≠ "__name__" := by decide) (hdb : (x == ("__debug__" : Str)) = false := by decide) (he : starEach (e :: es) X.env = (false, eval e X.env) :: starEach es X.env := by rfl) (hpl : (backTo pos (starEach es X.env)).any (·.1) = false := by rfl) :
    RE X W (.Call (.Name x p) (e :: es) [] pos) (eF F mr) := PE.imp (pe_callTy hc hg hm hv ha hn hdb he hpl) fun σ H Q h => many hk h
end
end DL
set_option Elab.async false
set_option linter.all false
set_option maxRecDepth 100000
set_option maxHeartbeats 4000000
/-! Calls, tests, statements, loops (own work). -/
namespace DL
open PySem PySem.Spec PyProof.Rows L2

/-- the promise of a def of n parameters: it does what F says -/
def spD (K : PySem.W.Frag) (n : Nat) (F : Fn) : Sp := fun vs H Q E => vs.length = n ∧ ∃ ρ ds A, RepVs ρ A.length H ds vs ∧ RepA K ρ H A ∧ Post K (fun c d _ H' => E c d H') RepV ρ A [] H (F ds A) Q
/-- a wish about exceptions does not look at the slots -/
theorem Post.wish {α β : Type} {K : PySem.W.Frag} {W W' : WX} {rel : (Nat → Addr) → Nat → Hp → α → β → Prop} {ρ : Nat → Addr} {A : AH} {σ σ' : Sl} {H : Hp} {r : Res α} {Q : β → Hp → Prop} (h : Post K W rel ρ A σ H r Q) (hw : ∀ c d H', W c d σ H' → W' c d σ' H') : Post K W' rel ρ A σ' H r Q := by
  cases r with
  | ok a B => exact h
  | exc x B => exact fun ρ' c d H' n r => hw _ _ _ (h ρ' c d H' n r)
  | bad => exact h

/-- what every body's context has -/
structure Ctx (X : Cx) (W : WX) (k : Nat) : Prop where
  calm : X.calm = true
  nd : X.N.Nodup
  tk : L2N.Takes X W
  po : PassesOwn (model X.prog X.w) X.A X.env X.xe
  room : Room k X.A
theorem Ctx.mono {X : Cx} {W : WX} {k j : Nat} (c : Ctx X W k) (h : j ≤ k) : Ctx X W j := ⟨c.calm, c.nd, c.tk, c.po, c.room.mono h⟩
/-- a def stands at f and does what F says -/
structure DefOk (P : Program) (w : World) (K : PySem.W.Frag) (mg : Str → Option Value) (base : Heap) (k : Nat) (f : Addr) (ps : List Str) (ds : List Value) (n : Nat) (F : Fn) : Prop where
  ex : ∃ fd, FnOk P w K mg base (L2N.CX P w) k f fd ps (spD K n F) ∧ Binds K fd ps ds
  kp : PySem.W.keepIn K (.ref f) = true
theorem DefOk.mono {P : Program} {w : World} {K : PySem.W.Frag} {mg : Str → Option Value} {base : Heap} {j k : Nat} {f : Addr} {ps : List Str} {ds : List Value} {n : Nat} {F : Fn} (d : DefOk P w K mg base j f ps ds n F) (h : j ≤ k) : DefOk P w K mg base k f ps ds n F := by
  obtain ⟨fd, g, b⟩ := d.ex
  exact ⟨⟨fd, g.mono h, b⟩, d.kp⟩

section
variable {X : Cx} {W : WX} {k : Nat} {f : Addr} {ps : List Str} {ds : List Value} {n : Nat} {F : Fn} {x m : Str} {p pos apos : Pos} {e o a b : Expr} {es : List Expr} {mr : Ax} {mo ma mb : Ex} {dd : List D} {dv : List V}
/-- the call itself -/
theorem run_def {fd : FuncData} (G : FnOk X.prog X.w X.K X.mg X.base (L2N.CX X.prog X.w) k f fd ps (spD X.K n F)) (hb : Binds X.K fd ps ds) (hr : Room k X.A) (tk : L2N.Takes X W) (hd : Vals dv ds) (hD : ∀ ρ n H, RepVs ρ n H dd dv)
    {pins : List (Addr × Obj)} {σ : Sl} {H : Hp} {s : Shared} {Q : VK} {us : List Value} {vs : List V} {ρ : Nat → Addr} {A : AH} {xs : List D} (I : Inv X pins σ H s) (r : Vals vs us) (hA : RepA X.K ρ H A) (hv : RepVs ρ A.length H xs vs)
    (h : Post X.K W RepV ρ A σ H (F (xs ++ dd) A) Q) (hl : (vs ++ dv).length = n) : wpAny (model X.prog X.w) X.A (call (.ref f) us) (EP X pins σ Q) X.xe s :=
  run_fnSD (E := WE W) G hr hb hd (L2N.passAt tk σ) I r ⟨hl, ρ, xs ++ dd, A, hv.app (hD ρ A.length H), hA, Post.wish h fun _ _ _ z => z⟩
/-- a Fn that asks n arguments -/
def Asks (n : Nat) (F : Fn) : Prop := ∀ xs A, F xs A ≠ .bad → xs.length = n
theorem Asks.run {np N : Nat} {b : Sx} : Asks np (runDef np N b) := fun xs A h => by
  by_cases e : xs.length = np
  · exact e
  · exact absurd (if_neg e) h
theorem Post.ne {α β : Type} {K : PySem.W.Frag} {W : WX} {rel : (Nat → Addr) → Nat → Hp → α → β → Prop} {ρ : Nat → Addr} {A : AH} {σ : Sl} {H : Hp} {r : Res α} {Q : β → Hp → Prop} (h : Post K W rel ρ A σ H r Q) : r ≠ .bad := by
  intro e
  rw [e] at h
  exact h
theorem lenD (hn : Asks n F) {xs : List D} {A : AH} {vs : List V} {ρ : Nat → Addr} {H : Hp} (hD : RepVs ρ A.length H dd dv) (hv : RepVs ρ A.length H xs vs) (h : F (xs ++ dd) A ≠ .bad) : (vs ++ dv).length = n := by
  rw [← (hv.app hD).len]
  exact hn _ _ h
/-- f(e, ..) -/
theorem re_call (G : DefOk X.prog X.w X.K X.mg X.base k f ps ds n F) (c : Ctx X W k) (hn : Asks n F) (hg : Gl X x) (hm : X.mg x = some (.ref f)) (hd : Vals dv ds) (hD : ∀ ρ n H, RepVs ρ n H dd dv) (ha : RA X W (e :: es) mr)
    (hdb : (x == ("__debug__" : Str)) = false := by decide) (he : starEach (e :: es) X.env = (false, eval e X.env) :: starEach es X.env := by rfl) (hpl : (backTo pos (starEach es X.env)).any (·.1) = false := by rfl) :
    RE X W (.Call (.Name x p) (e :: es) [] pos) (eF (fun xs A => F (xs ++ dd) A) mr) := by
  obtain ⟨fd, G1, hb⟩ := G.ex
  refine ⟨fun pins s σ H Q I ⟨ρ, E, A, hE, hA, h⟩ => ?_⟩
  refine wpAny_Call_Name_kw (ld_glob I hg hm ?_ hdb)
  have q := ha.run pos pins s σ H _ I ⟨ρ, E, A, hE, hA, Post.bind h fun ρ1 xs B vs H1 n1 r1 h1 => (⟨ρ1, xs, B, n1.rep, r1, h1⟩ : ∃ ρ1 xs B, RepA X.K ρ1 H1 B ∧ RepVs ρ1 B.length H1 xs vs ∧ Post X.K W RepV ρ1 B σ H1 (F (xs ++ dd) B) Q)⟩
  refine PySem.W.callWith_K (h₀ := X.base) I.ok.mod.kin G.kp (thn q fun us s1 ⟨vs, H1, I1, rv, ρ1, xs, B, hB, r1, h1⟩ => ⟨I1.kIn, ?_⟩) he hpl
  exact run_def G1 hb c.room c.tk hd hD I1 rv hB r1 h1 (lenD hn (hD _ _ _) r1 (Post.ne h1))
theorem re_call0 (G : DefOk X.prog X.w X.K X.mg X.base k f ps ds n F) (c : Ctx X W k) (hn : Asks n F) (hg : Gl X x) (hm : X.mg x = some (.ref f)) (hd : Vals dv ds) (hD : ∀ ρ n H, RepVs ρ n H dd dv)
    (hdb : (x == ("__debug__" : Str)) = false := by decide) : RE X W (.Call (.Name x p) [] [] pos) (eF (fun xs A => F (xs ++ dd) A) aNil) := by
  obtain ⟨fd, G1, hb⟩ := G.ex
  refine ⟨fun pins s σ H Q I ⟨ρ, E, A, hE, hA, h⟩ => ?_⟩
  refine wpAny_Call_Name_kw (ld_glob I hg hm ?_ hdb)
  have h1 : Post X.K W RepV ρ A σ H (F ([] ++ dd) A) Q := h
  exact PySem.W.callWith_K0 I.kIn G.kp (run_def (us := []) (xs := []) G1 hb c.room c.tk hd hD I .nil hA .nil h1 (lenD (ρ := ρ) (A := A) (H := H) hn (hD _ _ _) .nil (Post.ne h1)))
/-- an instance of the class, as the method's look-up sees it -/
theorem ins_of {K : PySem.W.Frag} {ρ : Nat → Addr} {A : AH} {H : Hp} {c : Nat} {d : D} {v : V} (hA : RepA K ρ H A) (hv : RepV ρ A.length H d v) (h : isIns c A d = true) : ∃ a dx gs fs, v = .ref a ∧ H a = some (.ins (clsA K c) dx gs) ∧ RepF ρ A.length H fs gs ∧ ∃ i, d = .ref i ∧ A[i]? = some (.ins c fs) := by
  cases hv with
  | @ref i hi =>
    have h' : (match A[i]? with | some (.ins c' _) => c == c' | _ => false) = true := h
    cases e : A[i]? with
    | none => rw [e] at h'; cases h'
    | some u =>
      rw [e] at h'
      cases u with
      | ins c' fs =>
        have ec : c = c' := by simpa using h'
        subst ec
        obtain ⟨dx, gs, h1, h2⟩ := hA.objs i _ e
        exact ⟨ρ i, dx, gs, fs, rfl, h1, h2, i, rfl, e⟩
      | _ => cases h'
  | _ => cases h
/-- o.m(e, ..); the method's name is no attribute's -/
theorem re_meth {pl : Sem Bool} {C : Nat} (G : DefOk X.prog X.w X.K X.mg X.base k f ps ds n F) (c : Ctx X W k) (hn : Asks n F) (cl : Cls X.K (clsA X.K C)) (hm : Meth X.K (clsA X.K C) m f) (hout : m ∉ fldN) (hd : Vals dv ds) (hD : ∀ ρ n H, RepVs ρ n H dd dv) (ho : RE X W o mo) (ha : RA X W (e :: es) mr)
    (hst : starEach (e :: es) X.env = (false, eval e X.env) :: starEach es X.env := by rfl) (hpl : (backTo pos (starEach es X.env)).any (·.1) = false := by rfl)
    (ht : eval (.Call (.Attribute o m apos) (e :: es) [] pos) X.env = (do
      let ov ← eval o X.env
      standAt apos.atName
      let (f, first) ← holding [ov] (getMethod ov m pl)
      callWith pos f first (backTo pos (starEach (e :: es) X.env)) (backToKw pos (keywordEach [] X.env))) := by rfl) :
    RE X W (.Call (.Attribute o m apos) (e :: es) [] pos) (eM C (fun xs A => F (xs ++ dd) A) mo mr) := by
  obtain ⟨fd, G1, hb⟩ := G.ex
  refine ⟨fun pins s σ H Q I ⟨ρ, E, A, hE, hA, h⟩ => ?_⟩
  have q0 := ho.run pins s σ H _ I ⟨ρ, E, A, hE, hA, Post.bind h fun ρ1 d B v H1 n1 r1 h1 => (⟨ρ1, d, B, n1, r1, h1⟩ : ∃ ρ1 d B, Nxt X.K ρ A H ρ1 B H1 ∧ RepV ρ1 B.length H1 d v ∧ Post X.K W RepV ρ1 B σ H1 (kM C (fun xs A => F (xs ++ dd) A) mr E d B) Q)⟩
  refine PySem.W.methodCall_KW (pl := pl) (thn q0 fun u s1 ⟨v, H1, I1, rx, ρ1, d, B, n1, r1, h1⟩ => ?_) ht
  have hi : isIns C B d = true := by
    cases z : isIns C B d with
    | true => rfl
    | false =>
      unfold kM at h1
      rw [z] at h1
      exact h1.elim
  have h2 : Post X.K W RepV ρ1 B σ H1 ((mr E B).bind (kM2 (fun xs A => F (xs ++ dd) A) d)) Q := by
    unfold kM at h1
    rw [if_pos hi] at h1
    exact h1
  obtain ⟨a, dx, gs, fs, rfl, ea, rf, _⟩ := ins_of n1.rep r1 hi
  obtain rfl : u = Value.ref a := rx
  refine getmeth_ok I1 ea cl hm (rf.out hout) ?_
  have q := ha.run pos pins s1 σ H1 _ I1 ⟨ρ1, E, B, hE.ext n1.ext, n1.rep, Post.bind h2 fun ρ2 xs B2 vs H2 n2 r2 h3 => (⟨ρ2, xs, B2, n2, r2, h3⟩ : ∃ ρ2 xs B2, Nxt X.K ρ1 B H1 ρ2 B2 H2 ∧ RepVs ρ2 B2.length H2 xs vs ∧ Post X.K W RepV ρ2 B2 σ H2 (kM2 (fun xs A => F (xs ++ dd) A) d xs B2) Q)⟩
  refine PySem.W.callWith_K (first := [.ref a]) (h₀ := X.base) I.ok.mod.kin hm.kp (thn q fun us s2 ⟨vs, H2, I2, rv, ρ2, xs, B2, n2, r2, h3⟩ => ⟨I2.kIn, ?_⟩) hst hpl
  have r3 : RepVs ρ2 B2.length H2 (d :: xs) (.ref a :: vs) := .cons (r1.ext n2.ext) r2
  exact run_def (us := .ref a :: us) (vs := .ref a :: vs) (xs := d :: xs) G1 hb c.room c.tk hd hD I2 (.cons rfl rv) n2.rep r3 h3 (lenD hn (hD _ _ _) r3 (Post.ne h3))
theorem re_meth0 {pl : Sem Bool} {C : Nat} (G : DefOk X.prog X.w X.K X.mg X.base k f ps ds n F) (c : Ctx X W k) (hn : Asks n F) (cl : Cls X.K (clsA X.K C)) (hm : Meth X.K (clsA X.K C) m f) (hout : m ∉ fldN) (hd : Vals dv ds) (hD : ∀ ρ n H, RepVs ρ n H dd dv) (ho : RE X W o mo)
    (ht : eval (.Call (.Attribute o m apos) [] [] pos) X.env = (do
      let ov ← eval o X.env
      standAt apos.atName
      let (f, first) ← holding [ov] (getMethod ov m pl)
      callWith pos f first (backTo pos (starEach [] X.env)) (backToKw pos (keywordEach [] X.env))) := by rfl) :
    RE X W (.Call (.Attribute o m apos) [] [] pos) (eM C (fun xs A => F (xs ++ dd) A) mo aNil) := by
  obtain ⟨fd, G1, hb⟩ := G.ex
  refine ⟨fun pins s σ H Q I ⟨ρ, E, A, hE, hA, h⟩ => ?_⟩
  have q0 := ho.run pins s σ H _ I ⟨ρ, E, A, hE, hA, Post.bind h fun ρ1 d B v H1 n1 r1 h1 => (⟨ρ1, d, B, n1, r1, h1⟩ : ∃ ρ1 d B, Nxt X.K ρ A H ρ1 B H1 ∧ RepV ρ1 B.length H1 d v ∧ Post X.K W RepV ρ1 B σ H1 (kM C (fun xs A => F (xs ++ dd) A) aNil E d B) Q)⟩
  refine PySem.W.methodCall_KW (pl := pl) (thn q0 fun u s1 ⟨v, H1, I1, rx, ρ1, d, B, n1, r1, h1⟩ => ?_) ht
  have hi : isIns C B d = true := by
    cases z : isIns C B d with
    | true => rfl
    | false =>
      unfold kM at h1
      rw [z] at h1
      exact h1.elim
  have h2 : Post X.K W RepV ρ1 B σ H1 (F ([d] ++ dd) B) Q := by
    unfold kM at h1
    rw [if_pos hi] at h1
    exact h1
  obtain ⟨a, dx, gs, fs, rfl, ea, rf, _⟩ := ins_of n1.rep r1 hi
  obtain rfl : u = Value.ref a := rx
  refine getmeth_ok I1 ea cl hm (rf.out hout) ?_
  have r3 : RepVs ρ1 B.length H1 [d] [.ref a] := .cons r1 .nil
  exact PySem.W.callWith_K0 (first := [.ref a]) I1.kIn hm.kp (run_def (us := [.ref a]) (vs := [.ref a]) (xs := [d]) G1 hb c.room c.tk hd hD I1 (.cons rfl .nil) n1.rep r3 h2 (lenD hn (hD _ _ _) r3 (Post.ne h2)))
end
end DL
set_option Elab.async false
set_option linter.all false
set_option maxRecDepth 100000
set_option maxHeartbeats 4000000
/-! A def keeps the promise that its body's function makes (own work). -/
namespace DL
open PySem PySem.Spec PyProof.Rows L2
section
variable {K : PySem.W.Frag} {ρ ρ' : Nat → Addr} {A B : AH} {H H' : Hp} {n : Nat} {a : Addr} {o : O} {i : Nat}
theorem RepF.bd : ∀ {fs : List (Nat × D)} {gs : List (Str × V)}, RepF ρ n H fs gs → (fs.all fun p => p.2.bd n) = true
  | [], _, .nil => rfl
  | _ :: _, _, .cons _ b c => by rw [List.all_cons, RepF.bd c]; simp [RepV.bd b]
theorem keyD_bd {d : D} {k : Key} (h : keyD d = some k) : d.bd n = true := by
  cases d with
  | int i => simp [D.bd]
  | str x => simp [D.bd]
  | _ => cases h
theorem keysD_bd : ∀ {ds : List D} {ks : List Key}, keysD ds = some ks → bdAll n ds = true
  | [], _, _ => by simp [bdAll]
  | d :: ds, ks, h => by
    unfold keysD at h
    cases e1 : keyD d with
    | none => rw [e1] at h; cases h
    | some k =>
      cases e2 : keysD ds with
      | none => rw [e1, e2] at h; cases h
      | some r => simp [bdAll, keyD_bd e1, keysD_bd e2]
theorem keyT_bd {d : D} {k : List Key} (h : keyT d = some k) : d.bd n = true := by
  cases d with
  | tup ds => simp only [D.bd]; exact keysD_bd h
  | _ => cases h
theorem RepK.bd {κ : Type} {kf : D → Option κ} (hk : ∀ d k, kf d = some k → d.bd n = true) : ∀ {fs : List (D × D)} {gs : List (κ × V)}, RepK kf ρ n H fs gs → (fs.all fun p => p.1.bd n && p.2.bd n) = true
  | [], _, .nil => rfl
  | _ :: _, _, .cons a b c => by
    rw [List.all_cons, RepK.bd hk c]
    simp [RepV.bd b, hk _ _ a]
theorem RepA.bd (R : RepA K ρ H A) (h : A[i]? = some o) : o.bd A.length = true := by
  cases o with
  | lst ds =>
    obtain ⟨vs, _, r⟩ := R.objs i _ h
    exact r.bd
  | rol ds =>
    obtain ⟨vs, r, _⟩ := R.rols i _ h
    exact r.bd
  | dic kvs =>
    obtain ⟨gs, _, r⟩ := R.objs i _ h
    exact r.bd fun _ _ => keyD_bd
  | dit kvs =>
    obtain ⟨gs, _, r⟩ := R.objs i _ h
    exact r.bd fun _ _ => keyT_bd
  | ins c fs =>
    obtain ⟨dx, gs, _, r⟩ := R.objs i _ h
    exact r.bd
  | fro kvs =>
    obtain ⟨_, gs, _, r⟩ := R.objs i _ h
    exact r.bd fun _ _ => keyD_bd
theorem take_get {j : Nat} (h : (B.take n)[j]? = some o) : j < n ∧ B[j]? = some o := by
  rw [List.getElem?_take] at h
  by_cases z : j < n
  · rw [if_pos z] at h; exact ⟨z, h⟩
  · rw [if_neg z] at h; cases h
/-- the first numbers alone -/
theorem Nxt.cut (R : RepA K ρ H A) (x : Nxt K ρ A H ρ' B H') (p : okPre A (B.take A.length)) : Nxt K ρ A H ρ' (B.take A.length) H' := by
  obtain ⟨pl, po⟩ := p
  have b : ∀ (j : Nat) (u : O), (B.take A.length)[j]? = some u → u.bd A.length = true := fun j u h => by
    rcases po j u h with h | h
    · exact R.bd h
    · exact h
  refine ⟨⟨by rw [pl]; exact Nat.le_refl _, x.ext.same, x.ext.tups, x.ext.frzs⟩, fun i u h => ?_, fun i ds h => ?_, fun i j u w h1 h2 => x.rep.inj i j u w (take_get h1).2 (take_get h2).2⟩
  · rw [pl]
    exact (x.rep.objs i u (take_get h).2).cut (b i u h)
  · rw [pl]
    obtain ⟨vs, r, q⟩ := x.rep.rols i ds (take_get h).2
    refine ⟨vs, r.cut (b i _ h), ?_⟩
    rcases q with q | ⟨q, q2⟩
    · exact .inl q
    · exact .inr ⟨q, fun j u hj m => q2 j u (take_get hj).2 m⟩
/-- the first numbers and one more object under the next number -/
theorem Nxt.move (R : RepA K ρ H A) (x : Nxt K ρ A H ρ' B H') (p : okPre A (B.take A.length)) (hi : A.length ≤ i) (hb : B[i]? = some o) (m : o.mut = true) (ob : o.bd A.length = true) :
    ∃ ρ2, ρ2 A.length = ρ' i ∧ Nxt K ρ A H ρ2 (B.take A.length ++ [o]) H' := by
  have c := Nxt.cut R x p
  obtain ⟨pl, po⟩ := p
  have e : Ext ρ' A.length H' (fun j => if j = A.length then ρ' i else ρ' j) (A.length + 1) H' := ⟨Nat.le_succ _, fun j h => if_neg (Nat.ne_of_lt h), fun _ _ h => h, fun _ _ _ h => h⟩
  refine ⟨fun j => if j = A.length then ρ' i else ρ' j, if_pos rfl, ?_⟩
  have len : (B.take A.length ++ [o]).length = A.length + 1 := by rw [List.length_append, pl]; rfl
  have ge : ∀ (j : Nat) (u : O), (B.take A.length ++ [o])[j]? = some u → (j < A.length ∧ (B.take A.length)[j]? = some u) ∨ (j = A.length ∧ u = o) := fun j u h => by
    by_cases z : j < A.length
    · rw [List.getElem?_append_left (by rw [pl]; exact z)] at h; exact .inl ⟨z, h⟩
    · have hl := lt_of_get h
      rw [len] at hl
      have ej : j = A.length := by omega
      subst ej
      rw [List.getElem?_append_right (by rw [pl]; exact Nat.le_refl _), pl, Nat.sub_self] at h
      exact .inr ⟨rfl, (Option.some.inj h).symm⟩
  have rO := x.rep.objs i o hb
  have far : ∀ (j : Nat) (u : O), (B.take A.length)[j]? = some u → u.mut = true → ρ' j ≠ ρ' i := fun j u h mu z => by
    have q := x.rep.inj j i u o (take_get h).2 hb mu m z
    have := (take_get h).1
    omega
  refine ⟨⟨by rw [len]; exact Nat.le_succ _, fun j h => by rw [if_neg (Nat.ne_of_lt h)]; exact x.ext.same j h, x.ext.tups, x.ext.frzs⟩, fun j u h => ?_, fun j ds h => ?_, fun j k u w h1 h2 m1 m2 z => ?_⟩
  · rw [len]
    rcases ge j u h with ⟨hj, h⟩ | ⟨rfl, rfl⟩
    · show RepO K _ _ _ (if j = A.length then ρ' i else ρ' j) u
      rw [if_neg (Nat.ne_of_lt hj)]
      have q := c.rep.objs j u h
      rw [pl] at q
      exact q.ext e rfl
    · show RepO K _ _ _ (if A.length = A.length then ρ' i else ρ' A.length) u
      rw [if_pos rfl]
      exact (rO.cut ob).ext e rfl
  · rw [len]
    rcases ge j _ h with ⟨hj, h⟩ | ⟨rfl, rfl⟩
    · obtain ⟨vs, r, q⟩ := x.rep.rols j ds (take_get h).2
      have b : (O.rol ds).bd A.length = true := by
        rcases po j _ h with h | h
        · exact R.bd h
        · exact h
      have r2 : RepVs ρ' A.length H' ds vs := r.cut b
      refine ⟨vs, r2.ext e, ?_⟩
      show KL K (if j = A.length then ρ' i else ρ' j) vs ∨ (Rd H' (if j = A.length then ρ' i else ρ' j) _ ∧ ∀ k u, _ → _ → (if k = A.length then ρ' i else ρ' k) ≠ (if j = A.length then ρ' i else ρ' j))
      rw [if_neg (Nat.ne_of_lt hj)]
      rcases q with q | ⟨q, q2⟩
      · exact .inl q
      · refine .inr ⟨q, fun k u hk mu => ?_⟩
        rcases ge k u hk with ⟨hkl, hk⟩ | ⟨rfl, rfl⟩
        · rw [if_neg (Nat.ne_of_lt hkl)]; exact q2 k u (take_get hk).2 mu
        · rw [if_pos rfl]; exact q2 i u hb m
    · cases m
  · have z' : (if j = A.length then ρ' i else ρ' j) = (if k = A.length then ρ' i else ρ' k) := z
    rcases ge j u h1 with ⟨hj, g1⟩ | ⟨ej, eu⟩ <;> rcases ge k w h2 with ⟨hk, g2⟩ | ⟨ek, ew⟩
    · rw [if_neg (Nat.ne_of_lt hj), if_neg (Nat.ne_of_lt hk)] at z'
      exact c.rep.inj j k u w g1 g2 m1 m2 z'
    · rw [if_neg (Nat.ne_of_lt hj), if_pos ek] at z'
      exact absurd z' (far j u g1 m1)
    · rw [if_pos ej, if_neg (Nat.ne_of_lt hk)] at z'
      exact absurd z'.symm (far k w g2 m2)
    · rw [ej, ek]
/-- what is handed back -/
theorem gc_post {W : WX} {σ : Sl} {d : D} {Q : VK} (R : RepA K ρ H A) (h : Post K W RepV ρ A σ H (gc A d B) Q) {v : V} (x : Nxt K ρ A H ρ' B H') (r : RepV ρ' B.length H' d v) : Q v H' := by
  unfold gc at h
  by_cases c1 : d.bd A.length = true ∧ okPre A (B.take A.length)
  · rw [if_pos c1] at h
    refine h ρ' v H' (Nxt.cut R x c1.2) ?_
    rw [c1.2.1]
    exact r.cut c1.1
  · rw [if_neg c1] at h
    cases e : refO A B d with
    | none =>
      rw [e] at h
      exact h ρ' v H' x r
    | some o =>
      rw [e] at h
      simp only [gcO] at h
      by_cases c2 : o.mut = true ∧ o.bd A.length = true ∧ okPre A (B.take A.length)
      · have h' := h
        rw [if_pos c2] at h'
        cases d with
        | ref i =>
          have e' : (if A.length ≤ i then B[i]? else none) = some o := e
          by_cases hi : A.length ≤ i
          · rw [if_pos hi] at e'
            obtain ⟨ρ2, q1, q2⟩ := Nxt.move R x c2.2.2 hi e' c2.1 c2.2.1
            cases r with
            | ref hl =>
              rw [← q1]
              refine h' ρ2 _ H' q2 (.ref ?_)
              rw [List.length_append, c2.2.2.1]
              exact Nat.lt_succ_self _
          · rw [if_neg hi] at e'; cases e'
        | _ => cases e
      · have h' := h
        rw [if_neg c2] at h'
        exact h' ρ' v H' x r
theorem gcX_post {W : WX} {σ : Sl} {e : Exn} {Q : VK} (R : RepA K ρ H A) (h : Post K W RepV ρ A σ H (gcX A e B) Q) {cls : Value} {dd : Option Addr} (x : Nxt K ρ A H ρ' B H') (r : RepX K ρ' B.length H' e cls dd) : W cls dd σ H' := by
  unfold gcX at h
  by_cases c1 : (e.fs.all fun p => p.2.bd A.length) = true ∧ okPre A (B.take A.length)
  · rw [if_pos c1] at h
    refine h ρ' cls dd H' (Nxt.cut R x c1.2) ?_
    rw [c1.2.1]
    obtain ⟨r1, r2⟩ := r
    refine ⟨r1, ?_⟩
    rcases r2 with r2 | ⟨a, gs, q1, q2, q3⟩
    · exact .inl r2
    · exact .inr ⟨a, gs, q1, q2, q3.cut c1.1⟩
  · rw [if_neg c1] at h
    exact h ρ' cls dd H' x r
end
theorem startE_rep {ρ : Nat → Addr} {n : Nat} {H : Hp} {N : List Str} {ds : List D} {vs : List V} (r : RepVs ρ n H ds vs) : RepE ρ n H (startE N.length ds) (L2.start N vs) := by
  have hl := r.len
  refine ⟨by unfold startE L2.start; simp [hl], fun i d e => ?_⟩
  unfold startE at e
  unfold L2.start
  by_cases z : i < ds.length
  · rw [List.getElem?_append_left (by simpa using z), List.getElem?_map] at e
    obtain ⟨c, e1, e2⟩ := Option.map_eq_some_iff.mp e
    cases e2
    obtain ⟨v, q1, q2⟩ := r.get e1
    exact ⟨v, by rw [List.getElem?_append_left (by simpa [← hl] using z), List.getElem?_map, q1]; rfl, q2⟩
  · rw [List.getElem?_append_right (by simpa using z)] at e
    have := List.mem_of_getElem? e
    rw [List.mem_replicate] at this
    cases this.2
section
variable {P : Program} {w : World} {K : PySem.W.Frag} {mg : Str → Option Value} {base : Heap} {x qual : Str} {params : Arguments} {body : List Stmt} {scope : Scope} {dvs : List V} {kws : List (Str × V)} {f : Addr} {fd : FuncData}
/-- the context of a def's body -/
abbrev cxD (P : Program) (w : World) (K : PySem.W.Frag) (mg : Str → Option Value) (base : Heap) (N : List Str) (qual : Str) (scope : Scope) (f : Addr) (cdv : Value) (A : Around) (outer : List PySem.Env) (s : Shared) (H : Hp) (E : XK) : Cx := cxOf (L2N.CX P w) P w K mg base N qual scope f cdv A outer s H E
abbrev wxD (E : XK) : WX := fun c d _ H => E c d H
theorem def_okF {N ps : List Str} {k : Nat} {b : Sx} (F : FunD K x qual params body scope dvs kws f fd) (S : FnScope N ps scope)
    (hb : ∀ (cdv : Value) (A : Around) (outer : List PySem.Env) (s : Shared) (H : Hp) (E : XK), Ctx (cxD P w K mg base N qual scope f cdv A outer s H E) (wxD E) k → RSs (cxD P w K mg base N qual scope f cdv A outer s H E) (wxD E) body b) :
    FnOk P w K mg base (L2N.CX P w) (k + 1) f fd ps (spD K ps.length (runDef ps.length N.length b)) := by
  refine F.ok S (fun vs H Q E h => h.1) fun cdv A outer s H vs Q E hr h => ?_
  have c : Ctx (cxD P w K mg base N qual scope f cdv A outer s H E) (wxD E) k := ⟨rfl, S.nd, L2N.takes_of rfl rfl rfl rfl, passes_of rfl, hr⟩
  refine ⟨_, hb cdv A outer s H E c, ?_⟩
  obtain ⟨hl, ρ, xs, C, hv, hA, hp⟩ := h
  refine ⟨ρ, startE N.length xs, C, startE_rep hv, hA, ?_⟩
  have hx : xs.length = ps.length := by rw [hv.len]; exact hl
  unfold runDef at hp
  rw [if_pos hx] at hp
  cases e : b (startE N.length xs) C with
  | nx E1 B =>
    rw [e] at hp
    exact fun ρ' σ H' n r => gc_post hA hp n .non
  | rt d B =>
    rw [e] at hp
    exact fun ρ' v H' n r => gc_post hA hp n r
  | bk E1 B => rw [e] at hp; exact hp.elim
  | ct E1 B => rw [e] at hp; exact hp.elim
  | exc y E1 B =>
    rw [e] at hp
    exact fun ρ' cls d σ H' n _ r => gcX_post hA hp n r
  | bad => rw [e] at hp; exact hp.elim
theorem def_ok {N ps : List Str} {ds : List Value} {k : Nat} {b : Sx} (F : FunD K x qual params body scope dvs kws f fd) (S : FnScope N ps scope) (hB : Binds K fd ps ds)
    (hb : ∀ (cdv : Value) (A : Around) (outer : List PySem.Env) (s : Shared) (H : Hp) (E : XK), Ctx (cxD P w K mg base N qual scope f cdv A outer s H E) (wxD E) k → RSs (cxD P w K mg base N qual scope f cdv A outer s H E) (wxD E) body b) :
    DefOk P w K mg base (k + 1) f ps ds ps.length (runDef ps.length N.length b) := ⟨⟨fd, def_okF F S hb, hB⟩, F.kp⟩
end
end DL
set_option Elab.async false
set_option linter.all false
set_option maxRecDepth 100000
set_option maxHeartbeats 4000000
/-! Tests, statements, loops (own work). -/
namespace DL
open PySem PySem.Spec PyProof.Rows L2
section
variable {X : Cx} {W : WX} {k : Nat} {pos : Pos} {a b c e o : Expr} {es rest : List Expr} {ma mb mc mo me : Ex} {mt mu : Tx} {mr : Ax}
/-! ### tests -/
theorem rt_b (h : RE X W e me) (he : ∀ whole, isTrue e X.env whole = (do let v ← whole; standAt e.pos; holding [v] (truthy v)) := by intro _; rfl) : RT X W e (tB me) := by
  refine PT.imp (pt_val h he) fun σ H Q ⟨ρ, E, A, hE, hA, h⟩ => ⟨ρ, E, A, hE, hA, Post.bind h fun ρ1 d B v H1 n1 r1 h1 => ?_⟩
  cases d with
  | bl k =>
    cases r1
    exact ⟨k, rfl, h1 ρ1 k H1 (.refl n1.rep) rfl⟩
  | _ => exact h1.elim
theorem rt_w (h : RW X W e mt) : RT X W e mt := PW.pt h
theorem rw_and1 (h : RT X W a mt) : RW X W (.BoolOp .And [a] pos) mt := pw_and1 h
theorem rw_or1 (h : RT X W a mt) : RW X W (.BoolOp .Or [a] pos) mt := pw_or1 h
theorem rw_and (h : RT X W a mt) (h2 : RW X W (.BoolOp .And (b :: rest) pos) mu) : RW X W (.BoolOp .And (a :: b :: rest) pos) (tAnd mt mu) := by
  refine PW.imp (pw_and h h2) fun σ H Q ⟨ρ, E, A, hE, hA, h⟩ => ⟨ρ, E, A, hE, hA, Post.bind h fun ρ1 d B v H1 n1 r1 h1 => ?_⟩
  have r1' : d = v := r1
  subst r1'
  cases d with
  | true => exact iteT ⟨ρ1, E, B, hE.ext n1.ext, n1.rep, h1⟩
  | false => exact iteF (h1 ρ1 false H1 (.refl n1.rep) rfl)
theorem rw_or (h : RT X W a mt) (h2 : RW X W (.BoolOp .Or (b :: rest) pos) mu) : RW X W (.BoolOp .Or (a :: b :: rest) pos) (tOr mt mu) := by
  refine PW.imp (pw_or h h2) fun σ H Q ⟨ρ, E, A, hE, hA, h⟩ => ⟨ρ, E, A, hE, hA, Post.bind h fun ρ1 d B v H1 n1 r1 h1 => ?_⟩
  have r1' : d = v := r1
  subst r1'
  cases d with
  | true => exact iteT (h1 ρ1 true H1 (.refl n1.rep) rfl)
  | false => exact iteF ⟨ρ1, E, B, hE.ext n1.ext, n1.rep, h1⟩
theorem rt_not (h : RT X W a mt) : RT X W (.UnaryOp .Not a pos) (tNot mt) := by
  refine PT.imp (pt_not h) fun σ H Q ⟨ρ, E, A, hE, hA, h⟩ => ⟨ρ, E, A, hE, hA, Post.bind h fun ρ1 d B v H1 n1 r1 h1 => ?_⟩
  have r1' : d = v := r1
  subst r1'
  exact h1 ρ1 (!d) H1 (.refl n1.rep) rfl
theorem re_ifExp (hc : RT X W c mt) (ha : RE X W a ma) (hb : RE X W b mb) : RE X W (.IfExp c a b pos) (eIf mt ma mb) := by
  refine PE.imp (pe_ifExp hc ha hb) fun σ H Q ⟨ρ, E, A, hE, hA, h⟩ => ⟨ρ, E, A, hE, hA, Post.bind h fun ρ1 d B v H1 n1 r1 h1 => ?_⟩
  have r1' : d = v := r1
  subst r1'
  cases d with
  | true => exact iteT ⟨ρ1, E, B, hE.ext n1.ext, n1.rep, h1⟩
  | false => exact iteF ⟨ρ1, E, B, hE.ext n1.ext, n1.rep, h1⟩
theorem re_one {op} (h : RE X W a ma) : RE X W (.BoolOp op [a] pos) ma := pe_one h
theorem re_and (ha : RE X W a ma) (hb : RE X W (.BoolOp .And (b :: rest) pos) mb) : RE X W (.BoolOp .And (a :: b :: rest) pos) (eAnd ma mb) := by
  refine PE.imp (pe_and ha hb) fun σ H Q ⟨ρ, E, A, hE, hA, h⟩ => ⟨ρ, E, A, hE, hA, Post.bind h fun ρ1 d B v H1 n1 r1 h1 => ?_⟩
  cases d with
  | bl k =>
    cases r1
    refine ⟨k, rfl, ?_⟩
    cases k with
    | true => exact iteT ⟨ρ1, E, B, hE.ext n1.ext, n1.rep, h1⟩
    | false => exact iteF (h1 ρ1 _ H1 (.refl n1.rep) (.bl false))
  | _ => exact h1.elim
theorem re_or (ha : RE X W a ma) (hb : RE X W (.BoolOp .Or (b :: rest) pos) mb) : RE X W (.BoolOp .Or (a :: b :: rest) pos) (eOr ma mb) := by
  refine PE.imp (pe_or ha hb) fun σ H Q ⟨ρ, E, A, hE, hA, h⟩ => ⟨ρ, E, A, hE, hA, Post.bind h fun ρ1 d B v H1 n1 r1 h1 => ?_⟩
  cases d with
  | bl k =>
    cases r1
    refine ⟨k, rfl, ?_⟩
    cases k with
    | true => exact iteT (h1 ρ1 _ H1 (.refl n1.rep) (.bl true))
    | false => exact iteF ⟨ρ1, E, B, hE.ext n1.ext, n1.rep, h1⟩
  | _ => exact h1.elim
theorem re_not (ha : RE X W a ma) : RE X W (.UnaryOp .Not a pos) (eNot ma) := by
  refine PE.imp (pe_not ha) fun σ H Q ⟨ρ, E, A, hE, hA, h⟩ => ⟨ρ, E, A, hE, hA, Post.bind h fun ρ1 d B v H1 n1 r1 h1 => ?_⟩
  cases d with
  | bl k =>
    cases r1
    exact ⟨k, rfl, h1 ρ1 _ H1 (.refl n1.rep) (.bl _)⟩
  | _ => exact h1.elim
theorem chain {r r' : R2} {F G : Fn} (hk : Ok2 X.K r F) (hk' : Ok2 X.K r' G) {σ : Sl} {H : Hp} {Q : VK} (h : tE X.K W (eChain F G ma mb mc) σ H Q) : tChain r r' (tE X.K W ma) (tE X.K W mb) (tE X.K W mc) σ H Q := by
  obtain ⟨ρ, E, A, hE, hA, h⟩ := h
  refine ⟨ρ, E, A, hE, hA, Post.bind h fun ρ1 d B v H1 n1 r1 h1 => ?_⟩
  refine ⟨ρ1, E, B, hE.ext n1.ext, n1.rep, Post.bind h1 fun ρ2 d2 C u H2 n2 r2 h2 => ?_⟩
  refine hk W ρ2 C σ H2 d d2 v u _ n2.rep (r1.ext n2.ext) r2 (Post.bind (rel := RepV) (show Post X.K W RepV ρ2 C σ H2 ((F [d, d2] C).bind (kCh3 G mc E d2)) Q from h2) fun ρ3 z B3 w H3 n3 r3 h3 => ?_)
  cases z with
  | bl q =>
    cases r3
    refine ⟨q, rfl, ?_⟩
    cases q with
    | true =>
      refine iteT ⟨ρ3, E, B3, (hE.ext n1.ext).ext (n2.ext.trans n3.ext), n3.rep, Post.bind (show Post X.K W RepV ρ3 B3 σ H3 ((mc E B3).bind (kCh4 G d2)) Q from h3) fun ρ4 d4 B4 v4 H4 n4 r4 h4 => ?_⟩
      exact hk' W ρ4 B4 σ H4 d2 d4 u v4 Q n4.rep (r2.ext (n3.ext.trans n4.ext)) r4 h4
    | false => exact iteF (h3 ρ3 _ H3 (.refl n3.rep) (.bl false))
  | _ => exact h3.elim
theorem re_chain {op op' : CmpOp} {r r' : R2} {F G : Fn} (ho : OpR X (compareOp op) r) (hk : Ok2 X.K r F) (ho' : OpR X (compareOp op') r') (hk' : Ok2 X.K r' G) (ha : RE X W a ma) (hb : RE X W b mb) (hc : RE X W c mc) (hl : lastMarks [op, op'] [b, c] = false := by rfl) : RE X W (.Compare a [op, op'] [b, c] pos) (eChain F G ma mb mc) :=
  PE.imp (pe_chain ho ho' ha hb hc hl) fun σ H Q h => chain hk hk' h
theorem rt_chain {op op' : CmpOp} {r r' : R2} {F G : Fn} (ho : OpR X (compareOp op) r) (hk : Ok2 X.K r F) (ho' : OpR X (compareOp op') r') (hk' : Ok2 X.K r' G) (ha : RE X W a ma) (hb : RE X W b mb) (hc : RE X W c mc) (hl : lastMarks [op, op'] [b, c] = false := by rfl) : RT X W (.Compare a [op, op'] [b, c] pos) (tB (eChain F G ma mb mc)) := by
  refine PT.imp (pt_chain ho ho' ha hb hc hl) fun σ H Q ⟨ρ, E, A, hE, hA, h⟩ => chain hk hk' (W := W) ⟨ρ, E, A, hE, hA, Post.bind h fun ρ1 d B v H1 n1 r1 h1 => ?_⟩
  cases d with
  | bl k =>
    cases r1
    exact ⟨k, rfl, h1 ρ1 k H1 (.refl n1.rep) rfl⟩
  | _ => exact h1.elim
end
section
variable {X : Cx} {W : WX} {k : Nat} {pos : Pos} {a b c e o : Expr} {es rest : List Expr} {ma mb mc mo me : Ex} {mt mu : Tx} {mr : Ax} {st : Stmt} {sts sts2 : List Stmt} {m m2 : Sx} {g : Gx} {gs : Gsx}
/-! ### blocks -/
theorem rss_nil : RSs X W [] sNop := PSs.imp pss_nil fun Dn σ H ⟨ρ, E, A, hE, hA, h⟩ => h ρ σ H (.refl hA) hE
theorem PostS.seq {K : PySem.W.Frag} {ρ : Nat → Addr} {A : AH} {H : Hp} {r : SRes} {Dn : Ends} (h : PostS K W ρ A H (r.seq m2) Dn) : PostS K W ρ A H r { Dn with nx := tS K W m2 Dn } := by
  cases r with
  | nx E B => exact fun ρ' σ H' n r => ⟨ρ', E, B, r, n.rep, PostS.later h n⟩
  | rt d B => exact h
  | bk E B => exact h
  | ct E B => exact h
  | exc x E B => exact h
  | bad => exact h
theorem rss_cons (h1 : RS X W st m) (h2 : RSs X W sts m2) : RSs X W (st :: sts) (sSeq m m2) :=
  PSs.imp (pss_cons h1 h2) fun Dn σ H ⟨ρ, E, A, hE, hA, h⟩ => ⟨ρ, E, A, hE, hA, PostS.seq h⟩
theorem rss_one (h1 : RS X W st m) : RSs X W [st] m := pss_one h1
theorem rs_pass : RS X W (.Pass pos) sNop := PS.imp ps_pass fun Dn σ H ⟨ρ, E, A, hE, hA, h⟩ => h ρ σ H (.refl hA) hE
theorem rs_break : RS X W (.Break pos) sBrk := PS.imp ps_break fun Dn σ H ⟨ρ, E, A, hE, hA, h⟩ => h ρ σ H (.refl hA) hE
theorem rs_cont : RS X W (.Continue pos) sCnt := PS.imp ps_continue fun Dn σ H ⟨ρ, E, A, hE, hA, h⟩ => h ρ σ H (.refl hA) hE
theorem rs_doc {x j pos'} : RS X W (.Expr (.Constant (.str x) j pos) pos') sNop := PS.imp ps_doc fun Dn σ H ⟨ρ, E, A, hE, hA, h⟩ => h ρ σ H (.refl hA) hE
theorem rs_never : RS X W st sBad := PS.imp ps_never fun Dn σ H ⟨ρ, E, A, hE, hA, h⟩ => h
theorem rss_never : RSs X W sts sBad := PSs.imp pss_never fun Dn σ H ⟨ρ, E, A, hE, hA, h⟩ => h
theorem rs_expr (he : RE X W e me) (hs : swapsWith e none pos.line X.env = pure false := by rfl) : RS X W (.Expr e pos) (sDrop me) :=
  PS.imp (ps_expr he hs) fun Dn σ H ⟨ρ, E, A, hE, hA, h⟩ => ⟨ρ, E, A, hE, hA, PostS.then hE h fun ρ1 d B v H1 n1 r1 h1 => h1 ρ1 σ H1 (.refl n1.rep) (hE.ext n1.ext)⟩
theorem rs_ret (he : RE X W e me) : RS X W (.Return (some e) pos) (sRet me) :=
  PS.imp (ps_ret he) fun Dn σ H ⟨ρ, E, A, hE, hA, h⟩ => ⟨ρ, E, A, hE, hA, PostS.then hE h fun ρ1 d B v H1 n1 r1 h1 => h1 ρ1 v H1 (.refl n1.rep) r1⟩
theorem rs_retN : RS X W (.Return none pos) sRetN := PS.imp ps_retN fun Dn σ H ⟨ρ, E, A, hE, hA, h⟩ => h ρ .non H (.refl hA) .non
theorem rs_if (hc : RT X W c mt) (h1 : RSs X W sts m) (h2 : RSs X W sts2 m2) : RS X W (.If c sts sts2 pos) (sIf mt m m2) := by
  refine PS.imp (ps_if hc h1 h2) fun Dn σ H ⟨ρ, E, A, hE, hA, h⟩ => ⟨ρ, E, A, hE, hA, PostS.then hE h fun ρ1 d B v H1 n1 r1 h1 => ?_⟩
  have r1' : d = v := r1
  subst r1'
  cases d with
  | true => exact iteT ⟨ρ1, E, B, hE.ext n1.ext, n1.rep, h1⟩
  | false => exact iteF ⟨ρ1, E, B, hE.ext n1.ext, n1.rep, h1⟩
/-! ### targets and stores -/
theorem rg_name (cx : Ctx X W k) (i : Nat) {x : Str} (hi : X.N[i]? = some x := by rfl) (hx : Loc X.env.scope x := by first | exact Or.inl rfl | exact Or.inr rfl) (hf : X.fn x = true ∨ X.env.scope.names.lookup x = some .local := by first | exact .inl rfl | exact .inr rfl | assumption) : RG X W (.Name x pos) (gName i) :=
  PG.imp (pg_name cx.nd hi hx hf) fun v σ H Q ⟨ρ, E, A, d, hE, hA, r, h⟩ => h ρ _ H (.refl hA) (hE.set i r)
theorem rgs_nil : RGs X W [] gNil := PGs.imp pgs_nil fun vs σ H Q ⟨ρ, E, A, ds, hE, hA, r, h⟩ => by
  cases r with
  | nil => exact ⟨rfl, h ρ _ H (.refl hA) hE⟩
  | cons _ _ => exact h.elim
theorem PostG.only {K : PySem.W.Frag} {ρ : Nat → Addr} {A : AH} {H : Hp} {r : SRes} {f : Sx} {Q Q' : Sl → Hp → Prop} (h : PostG K W ρ A H (r.only.seq f) Q) (hq : ∀ ρ1 E B σ H1, Nxt K ρ A H ρ1 B H1 → RepE ρ1 B.length H1 E σ → PostG K W ρ1 B H1 (f E B) Q → Q' σ H1) : PostG K W ρ A H r Q' := by
  cases r with
  | nx E B => exact fun ρ' σ H' n r => hq ρ' E B σ H' n r (PostG.later h n)
  | exc x E B => exact h
  | _ => exact h
theorem rgs_cons (h1 : RG X W e g) (h2 : RGs X W es gs) (hs : (assignEach (e :: es) X.env).map (·.2) = assign e X.env :: (assignEach es X.env).map (·.2) := by rfl) : RGs X W (e :: es) (gCons g gs) := by
  refine PGs.imp (pgs_cons h1 h2 hs) fun vs σ H Q ⟨ρ, E, A, ds, hE, hA, r, h⟩ => ?_
  cases r with
  | nil => exact h.elim
  | @cons d ds v vs r1 r2 =>
    exact ⟨v, vs, rfl, ρ, E, A, d, hE, hA, r1, PostG.only h fun ρ1 E1 B σ1 H1 n1 e1 h1 => ⟨ρ1, E1, B, ds, e1, n1.rep, r2.ext n1.ext, h1⟩⟩
theorem rg_tup (cx : Ctx X W k) {x1 n : Nat} (h : RGs X W es gs) (hn : (assignEach es X.env).length = n := by rfl) (hst : (assignEach es X.env).findIdx? (·.1) = none := by rfl) : RG X W (.Tuple es x1 pos) (gTup n gs) := by
  refine PG.imp (pg_tup cx.calm h hn hst) fun v σ H Q ⟨ρ, E, A, d, hE, hA, r, h⟩ => ?_
  cases r with
  | @tup a vs ds h1 h2 =>
    have h' : PostG X.K W ρ A H (if ds.length = n then gs ds E A else .bad) Q := h
    by_cases z : ds.length = n
    · rw [if_pos z] at h'
      exact ⟨a, vs, rfl, SqT.of h1, by rw [← h2.len]; exact z, ρ, E, A, ds, hE, hA, h2, h'⟩
    · rw [if_neg z] at h'
      exact h'.elim
  | _ => exact h.elim
/-- a store to o[i], by values -/
def OkSt (K : PySem.W.Frag) (t : TSet) (S : Stx) : Prop := ∀ ρ A H x y d u v w B (Q : Hp → Prop), RepA K ρ H A → RepV ρ A.length H x u → RepV ρ A.length H y v → RepV ρ A.length H d w → S x y d A = some B → (∀ H', Nxt K ρ A H ρ B H' → Q H') → t u v w H Q
theorem PostG.okS {K : PySem.W.Frag} {ρ : Nat → Addr} {A : AH} {H : Hp} {E : Env} {q : Option AH} {Q : Sl → Hp → Prop} (h : PostG K W ρ A H (okS E q) Q) : ∃ B, q = some B := by
  cases q with
  | some B => exact ⟨B, rfl⟩
  | none => exact h.elim
theorem PostS.okS {K : PySem.W.Frag} {ρ : Nat → Addr} {A : AH} {H : Hp} {E : Env} {q : Option AH} {Dn : Ends} (h : PostS K W ρ A H (okS E q) Dn) : ∃ B, q = some B := by
  cases q with
  | some B => exact ⟨B, rfl⟩
  | none => exact h.elim
theorem rg_sub {t : TSet} {S : Stx} (hs : PSet X t) (hk : OkSt X.K t S) (ho : RE X W o mo) (hi : RE X W e me) (ha : ∀ v, assign (.Subscript o e pos) X.env v = (do
      let ov ← holding [v] (eval o X.env)
      let iv ← holding [v, ov] (eval e X.env)
      standAt pos
      holding [v, ov, iv] (setItem ov iv v)
      release [v, ov, iv] []) := by intro _; rfl) : RG X W (.Subscript o e pos) (gSub mo me S) := by
  refine PG.imp (pg_sub ho hi hs ha) fun v σ H Q ⟨ρ, E, A, d, hE, hA, r, h⟩ => ⟨ρ, E, A, hE, hA, PostG.then hE h fun ρ1 x B u H1 n1 r1 h1 => ?_⟩
  refine ⟨ρ1, E, B, hE.ext n1.ext, n1.rep, PostG.then (hE.ext n1.ext) h1 fun ρ2 y B2 w H2 n2 r2 h2 => ?_⟩
  obtain ⟨B3, e3⟩ := PostG.okS h2
  refine hk ρ2 B2 H2 x y d u w v B3 _ n2.rep (r1.ext n2.ext) r2 (r.ext (n1.ext.trans n2.ext)) e3 fun H3 n3 => ?_
  have h2' : PostG X.K W ρ2 B2 H2 (okS E (S x y d B2)) Q := h2
  rw [e3] at h2'
  exact h2' ρ2 σ H3 n3 (hE.ext (n1.ext.trans (n2.ext.trans n3.ext)))
theorem PostS.asg {K : PySem.W.Frag} {ρ : Nat → Addr} {A : AH} {H : Hp} {r : SRes} {Dn : Ends} (h : PostS K W ρ A H r.only Dn) : PostG K W ρ A H r Dn.nx := by
  cases r with
  | nx E B => exact h
  | exc x E B => exact h
  | _ => exact h
theorem rs_asg (he : RE X W e me) {tg : Expr} (hg : RG X W tg g) (hs : swapsWithSole [tg] e pos.line X.env = pure false := by rfl) (hw : swappedStores [tg] e X.env = pure none := by rfl)
    (h1 : (assignEach [tg] X.env).map (·.2) = [assign tg X.env] := by rfl) : RS X W (.Assign [tg] e pos) (sAsg me g) :=
  PS.imp (ps_asg he hg hs hw h1) fun Dn σ H ⟨ρ, E, A, hE, hA, h⟩ => ⟨ρ, E, A, hE, hA, PostS.then hE h fun ρ1 d B v H1 n1 r1 h1 => ⟨ρ1, E, B, d, hE.ext n1.ext, n1.rep, r1, PostS.asg h1⟩⟩
theorem rs_set (cx : Ctx X W k) (i : Nat) {x : Str} {pos' : Pos} (he : RE X W e me) (hi : X.N[i]? = some x := by rfl) (hx : Loc X.env.scope x := by first | exact Or.inl rfl | exact Or.inr rfl) (hs : swapsWith e (some (.Name x pos')) pos.line X.env = pure false := by rfl)
    (hf : X.fn x = true ∨ X.env.scope.names.lookup x = some .local := by first | exact .inl rfl | exact .inr rfl | assumption) : RS X W (.Assign [.Name x pos'] e pos) (sAsg me (gName i)) :=
  PS.imp (ps_set cx.nd hi hx he hs hf) fun Dn σ H ⟨ρ, E, A, hE, hA, h⟩ => ⟨ρ, E, A, hE, hA, PostS.then hE h fun ρ1 d B v H1 n1 r1 h1 => h1 ρ1 _ H1 (.refl n1.rep) ((hE.ext n1.ext).set i r1)⟩
/-- a, b = x, y (both names plain) -/
theorem rs_par (cx : Ctx X W k) (i j : Nat) {x y : Str} {px py pt : Pos} {kt k2 pt2} (ha : RA X W [a, b] mr) (hi : X.N[i]? = some x := by rfl) (hj : X.N[j]? = some y := by rfl) (hij : i ≠ j := by decide) (hx : X.env.scope.names.lookup x = some .local := by rfl) (hy : X.env.scope.names.lookup y = some .local := by rfl)
    (hw : swappedStores [.Tuple [.Name x px, .Name y py] kt pt] (.Tuple [a, b] k2 pt2) X.env = pure (some [x, y]) := by rfl) (hs : swapsWithSole [.Tuple [.Name x px, .Name y py] kt pt] (.Tuple [a, b] k2 pt2) pos.line X.env = pure false := by rfl) :
    RS X W (.Assign [.Tuple [.Name x px, .Name y py] kt pt] (.Tuple [a, b] k2 pt2) pos) (sPar i j mr) := by
  refine PS.imp (ps_par cx.calm cx.nd hi hj hij hx hy ha hw hs) fun Dn σ H ⟨ρ, E, A, hE, hA, h⟩ => ⟨ρ, E, A, hE, hA, PostS.then hE h fun ρ1 ds B vs H1 n1 r1 h1 => ?_⟩
  cases r1 with
  | nil => exact h1.elim
  | cons r1 r2 => cases r2 with
    | nil => exact h1.elim
    | cons r2 r3 => cases r3 with
      | nil => exact ⟨_, _, rfl, h1 ρ1 _ H1 (.refl n1.rep) (((hE.ext n1.ext).set i r1).set j r2)⟩
      | cons _ _ => exact h1.elim
/-- x op= e -/
def OkIp (K : PySem.W.Frag) (t : TIp) (F : Fn) : Prop := ∀ W ρ A σ H d e v u Q, RepA K ρ H A → RepV ρ A.length H d v → RepV ρ A.length H e u → Post K W RepV ρ A σ H (F [d, e] A) Q → t v u H Q
theorem rs_aug (cx : Ctx X W k) (i : Nat) {x : Str} {op : Operator} {ti : TIp} {F : Fn} {pos' : Pos} (hp : PIp X op ti) (hk : OkIp X.K ti F) (he : RE X W e me) (hi : X.N[i]? = some x := by rfl) (hx : Loc X.env.scope x := by first | exact Or.inl rfl | exact Or.inr rfl)
    (hf : X.fn x = true ∨ X.env.scope.names.lookup x = some .local := by first | exact .inl rfl | exact .inr rfl | assumption) : RS X W (.AugAssign (.Name x pos') op e pos) (sAug i me F) := by
  refine PS.imp (ps_aug cx.nd hi hx he hp hf) fun Dn σ H ⟨ρ, E, A, hE, hA, h⟩ => ?_
  have h' : PostS X.K W ρ A H ((okD A E[i]?).then E (kAug i me F E)) Dn := h
  cases z : E[i]? with
  | none => rw [z] at h'; exact h'.elim
  | some od =>
    cases od with
    | none => rw [z] at h'; exact h'.elim
    | some d =>
      rw [z] at h'
      obtain ⟨v, e1, r0⟩ := hE.get i d z
      have h2 : PostS X.K W ρ A H ((me E A).then E (kAug2 i F E d)) Dn := h'
      refine ⟨v, e1, ρ, E, A, hE, hA, PostS.then hE h2 fun ρ1 y B u H1 n1 r1 h1 => ?_⟩
      exact hk W ρ1 B σ H1 d y v u _ n1.rep (r0.ext n1.ext) r1 (PostS.then (hE.ext n1.ext) (show PostS X.K W ρ1 B H1 ((F [d, y] B).then E (kSet i E)) Dn from h1) fun ρ2 w C u2 H2 n2 r2 h2 => h2 ρ2 _ H2 (.refl n2.rep) ((hE.ext (n1.ext.trans n2.ext)).set i r2))
def OkGt (K : PySem.W.Frag) (t : V → V → Hp → VK → Prop) (F : Fn) : Prop := Ok2 K t F
theorem rs_augS {op : Operator} {tget : V → V → Hp → VK → Prop} {tip : TIp} {tset : TSet} {G F : Fn} {S : Stx} {tpos : Pos} (hg : PGet X tget) (hkg : OkGt X.K tget G) (hp : PIp X op tip) (hkp : OkIp X.K tip F) (hs : PSet X tset) (hks : OkSt X.K tset S) (ho : RE X W o mo) (hi : RE X W a ma) (he : RE X W e me)
    (ha : ∀ ov iv new, augStore a ov iv new = (do holding [new, ov, iv] (setItem ov iv new); release [new, ov, iv] []; pure .next) := by intros; rfl) : RS X W (.AugAssign (.Subscript o a tpos) op e pos) (sAugS mo ma me G F S) := by
  refine PS.imp (ps_augS ho hi hg he hp hs ha) fun Dn σ H ⟨ρ, E, A, hE, hA, h⟩ => ⟨ρ, E, A, hE, hA, PostS.then hE h fun ρ1 x B u H1 n1 r1 h1 => ?_⟩
  have E1 := hE.ext n1.ext
  refine ⟨ρ1, E, B, E1, n1.rep, PostS.then E1 h1 fun ρ2 y B2 w H2 n2 r2 h2 => ?_⟩
  have E2 := E1.ext n2.ext
  refine hkg W ρ2 B2 σ H2 x y u w _ n2.rep (r1.ext n2.ext) r2 (PostS.then E2 (show PostS X.K W ρ2 B2 H2 ((G [x, y] B2).then E (kAS3 me F S E x y)) Dn from h2) fun ρ3 od B3 ou H3 n3 r3 h3 => ?_)
  have E3 := E2.ext n3.ext
  refine ⟨ρ3, E, B3, E3, n3.rep, PostS.then E3 (show PostS X.K W ρ3 B3 H3 ((me E B3).then E (kAS4 F S E x y od)) Dn from h3) fun ρ4 d B4 v H4 n4 r4 h4 => ?_⟩
  have E4 := E3.ext n4.ext
  refine hkp W ρ4 B4 σ H4 od d ou v _ n4.rep (r3.ext n4.ext) r4 (PostS.then E4 (show PostS X.K W ρ4 B4 H4 ((F [od, d] B4).then E (kAS5 S E x y)) Dn from h4) fun ρ5 z B5 zu H5 n5 r5 h5 => ?_)
  have h5' : PostS X.K W ρ5 B5 H5 (okS E (S x y z B5)) Dn := h5
  obtain ⟨B6, e6⟩ := PostS.okS h5'
  refine hks ρ5 B5 H5 x y z u w zu B6 _ n5.rep (r1.ext (n2.ext.trans (n3.ext.trans (n4.ext.trans n5.ext)))) (r2.ext (n3.ext.trans (n4.ext.trans n5.ext))) r5 e6 fun H6 n6 => ?_
  rw [e6] at h5'
  exact h5' ρ5 σ H6 n6 (E4.ext (n5.ext.trans n6.ext))
/-! ### attributes -/
theorem ins_at {K : PySem.W.Frag} {ρ : Nat → Addr} {A : AH} {H : Hp} {i c : Nat} {fs : List (Nat × D)} (hA : RepA K ρ H A) (e : A[i]? = some (.ins c fs)) : ∃ dx gs, H (ρ i) = some (.ins (clsA K c) dx gs) ∧ RepF ρ A.length H fs gs := hA.objs i _ e
/-- what is known of the class's attribute -/
structure At (K : PySem.W.Frag) (cs : List Nat) (n : Nat) (x : Str) : Prop where
  nm : fldN[n]? = some x
  cl : ∀ c ∈ cs, Cls K (clsA K c) ∧ NoAttr K (clsA K c) x
theorem re_fld {cs : List Nat} {n : Nat} {x : Str} (at_ : At X.K cs n x) (ho : RE X W o mo) (hb : attributeBase o x X.env (eval o X.env) = eval o X.env := by rfl) : RE X W (.Attribute o x pos) (eF (fFld cs n) (aCons mo aNil)) := by
  refine PE.imp (pe_fld ho hb) fun σ H Q ⟨ρ, E, A, hE, hA, h⟩ => ?_
  rw [eF1] at h
  refine ⟨ρ, E, A, hE, hA, Post.bind h fun ρ1 d B v H1 n1 r1 h1 => ?_⟩
  cases r1 with
  | @ref i hi =>
    have h2 : Post X.K W RepV ρ1 B σ H1 (oFld cs n B B[i]?) Q := h1
    cases z : B[i]? with
    | none => rw [z] at h2; exact h2.elim
    | some u =>
      rw [z] at h2
      cases u with
      | ins c fs =>
        have h3 : Post X.K W RepV ρ1 B σ H1 (if c ∈ cs then okD B (some (lookF n fs)) else .bad) Q := h2
        by_cases hc : c ∈ cs
        · rw [if_pos hc] at h3
          obtain ⟨dx, gs, q1, q2⟩ := ins_at n1.rep z
          cases l : lookF n fs with
          | none => rw [l] at h3; exact h3.elim
          | some d =>
            rw [l] at h3
            obtain ⟨v, l1, l2⟩ := q2.look at_.nm l
            obtain ⟨k1, k2⟩ := at_.cl c hc
            exact ⟨ρ1 i, clsA X.K c, dx, gs, v, rfl, q1, k1, k2, l1, h3 ρ1 v H1 (.refl n1.rep) l2⟩
        · rw [if_neg hc] at h3
          exact h3.elim
      | _ => exact h2.elim
  | _ => exact h1.elim
theorem rs_fld {cs : List Nat} {n : Nat} {x : Str} {pos' : Pos} (at_ : At X.K cs n x) (ho : RE X W o mo) (he : RE X W e me) (hs : swapsWith e (some (.Attribute o x pos')) pos.line X.env = pure false := by rfl) : RS X W (.Assign [.Attribute o x pos'] e pos) (sFld cs n mo me) := by
  refine PS.imp (ps_fld ho he hs) fun Dn σ H ⟨ρ, E, A, hE, hA, h⟩ => ⟨ρ, E, A, hE, hA, PostS.then hE h fun ρ1 d B v H1 n1 r1 h1 => ?_⟩
  have E1 := hE.ext n1.ext
  refine ⟨ρ1, E, B, E1, n1.rep, PostS.then E1 (show PostS X.K W ρ1 B H1 ((mo E B).then E (kFld2 cs n E d)) Dn from h1) fun ρ2 q B2 u H2 n2 r2 h2 => ?_⟩
  have h2' : PostS X.K W ρ2 B2 H2 (okS E (putFld cs n d B2 q)) Dn := h2
  obtain ⟨B3, e3⟩ := PostS.okS h2'
  cases r2 with
  | @ref i hi =>
    have e3' : oPut cs n i d B2 B2[i]? = some B3 := e3
    cases z : B2[i]? with
    | none => rw [z] at e3'; cases e3'
    | some uo =>
      rw [z] at e3'
      cases uo with
      | ins c fs =>
        have e4 : (if c ∈ cs ∧ fs.length < 1000 then some (B2.set i (.ins c (setF n d fs))) else none) = some B3 := e3'
        by_cases hc : c ∈ cs ∧ fs.length < 1000
        · rw [if_pos hc] at e4
          obtain ⟨dx, gs, q1, q2⟩ := ins_at n2.rep z
          obtain ⟨k1, k2⟩ := at_.cl c hc.1
          refine ⟨ρ2 i, clsA X.K c, dx, gs, rfl, q1, k1, k2, by rw [← q2.len]; exact hc.2, ?_⟩
          have n3 : Nxt X.K ρ2 B2 H2 ρ2 (B2.set i (.ins c (setF n d fs))) (upd H2 (ρ2 i) (.ins (clsA X.K c) dx (putF x v gs))) :=
            Nxt.set n2.rep z rfl rfl fun ex => ⟨dx, putF x v gs, upd_same, (q2.put at_.nm (r1.ext n2.ext)).ext ex⟩
          rw [e3, ← Option.some.inj e4] at h2'
          exact h2' ρ2 σ _ n3 (E1.ext (n2.ext.trans n3.ext))
        · rw [if_neg hc] at e4
          cases e4
      | _ => cases e3'
  | _ => cases e3
end
end DL
set_option Elab.async false
set_option linter.all false
set_option maxRecDepth 100000
set_option maxHeartbeats 4000000
/-! Loops, comprehensions, what they walk (own work). -/
namespace DL
open PySem PySem.Spec PyProof.Rows L2
theorem line_eq : line = sizeLine := by rw [sizeLine_eq]; rfl
section
variable {X : Cx} {W : WX} {k : Nat} {pos : Pos} {tg it e : Expr} {body : List Stmt} {mi : Ix} {g : Gx} {m : Sx} {mt : Tx} {me : Ex} {mr : Ax}
theorem PostG.turn {K : PySem.W.Frag} {ρ : Nat → Addr} {A : AH} {H : Hp} {r : SRes} {b f : Sx} {Dn : Ends} {Q' : Sl → Hp → Prop} (h : PostS K W ρ A H ((r.only.seq b).turn f) Dn)
    (hq : ∀ ρ1 E B σ H1, Nxt K ρ A H ρ1 B H1 → RepE ρ1 B.length H1 E σ → PostS K W ρ1 B H1 ((b E B).turn f) Dn → Q' σ H1) : PostG K W ρ A H r Q' := by
  cases r with
  | nx E B => exact fun ρ' σ H' n r => hq ρ' E B σ H' n r (PostS.later h n)
  | exc x E B => exact h
  | _ => exact h
theorem PostS.turn {K : PySem.W.Frag} {ρ : Nat → Addr} {A : AH} {H : Hp} {r : SRes} {f : Sx} {Dn : Ends} {N : Sl → Hp → Prop} (h : PostS K W ρ A H (r.turn f) Dn)
    (hq : ∀ ρ1 E B σ H1, Nxt K ρ A H ρ1 B H1 → RepE ρ1 B.length H1 E σ → PostS K W ρ1 B H1 (f E B) Dn → N σ H1) : PostS K W ρ A H r { Dn with nx := N, ct := N, bk := Dn.nx } := by
  cases r with
  | nx E B => exact fun ρ' σ H' n r => hq ρ' E B σ H' n r (PostS.later h n)
  | ct E B => exact fun ρ' σ H' n r => hq ρ' E B σ H' n r (PostS.later h n)
  | bk E B => exact h
  | rt d B => exact h
  | exc x E B => exact h
  | bad => exact h
theorem PostS.thenI {K : PySem.W.Frag} {ρ : Nat → Addr} {A : AH} {σ : Sl} {H : Hp} {q : Res Src} {E : Env} {f : Src → AH → SRes} {Dn : Ends} {Q1 : It → Hp → Prop} (hE : RepE ρ A.length H E σ) (h : PostS K W ρ A H (q.then E f) Dn)
    (hq : ∀ ρ1 s B J H1, Nxt K ρ A H ρ1 B H1 → ItOk K ρ1 B H1 s J → PostS K W ρ1 B H1 (f s B) Dn → Q1 J H1) : PostI K W ρ A σ H q Q1 := by
  cases q with
  | ok a B => exact fun ρ' b H' n r => hq ρ' a B b H' n r (PostS.later h n)
  | exc x B => exact fun ρ' c d H' n r => h ρ' c d σ H' n (hE.ext n.ext) r
  | bad => exact h
theorem rs_for (cx : Ctx X W k) (hi : RI X W tg it mi) (hg : RG X W tg g) (hb : RSs X W body m) (hs : ∀ x, foldedSetIterable it X.env x = pure x := by intro _; rfl) : RS X W (.For tg it body [] pos) (sFor mi g m) := by
  refine PS.imp (ps_for cx.po cx.calm hi hg hb hs) fun Dn σ H ⟨ρ, E, A, hE, hA, h⟩ => ⟨ρ, E, A, hE, hA, PostS.thenI hE h fun ρ1 src B J H1 n1 itok h1 => ?_⟩
  refine ⟨fun i m' σ' H' => ∃ ρ2 E2 A2, RepE ρ2 A2.length H' E2 σ' ∧ Nxt X.K ρ1 B H1 ρ2 A2 H' ∧ PostS X.K W ρ2 A2 H' (forN src g m m' i E2 A2) Dn, ⟨src.size B + 1, ρ1, E, B, hE.ext n1.ext, .refl n1.rep, h1⟩, ?_⟩
  rintro i n σ2 H2 ⟨ρ2, E2, A2, e2, n2, h2⟩
  cases n with
  | zero => exact h2.elim
  | succ n =>
    have h3 : PostS X.K W ρ2 A2 H2 (forK g m (forN src g m n (i + 1)) E2 A2 (src.at A2 i)) Dn := h2
    have io := itok ρ2 A2 H2 n2 i
    cases z : src.at A2 i with
    | stop =>
      rw [z] at h3 io
      exact .inl ⟨io, h3 ρ2 σ2 H2 (.refl n2.rep) e2⟩
    | bad =>
      rw [z] at h3
      exact h3.elim
    | item d =>
      rw [z] at h3 io
      refine .inr ⟨io.1, _, fun σ' H' q => ⟨n, Nat.lt_succ_self _, q⟩, fun x H3 y => ?_⟩
      obtain ⟨sm, rv⟩ := io.2 x H3 y
      have n3 := Nxt.same n2.rep sm
      refine ⟨ρ2, E2, A2, d, e2.ext n3.ext, n3.rep, rv, PostG.turn (PostS.later h3 n3) fun ρ4 E4 A4 σ4 H4 n4 e4 h4 => ⟨ρ4, E4, A4, e4, n4.rep, PostS.turn h4 fun ρ5 E5 A5 σ5 H5 n5 e5 h5 => ?_⟩⟩
      exact ⟨ρ5, E5, A5, e5, n2.trans (n3.trans (n4.trans n5)), h5⟩
theorem rs_while (cx : Ctx X W k) (hc : RT X W e mt) (hb : RSs X W body m) : RS X W (.While e body [] pos) (sWhile mt m) := by
  refine PS.imp (ps_while cx.po hc hb) fun Dn σ H ⟨ρ, E, A, hE, hA, h⟩ => ?_
  refine ⟨fun m' σ' H' => ∃ ρ2 E2 A2, RepE ρ2 A2.length H' E2 σ' ∧ RepA X.K ρ2 H' A2 ∧ PostS X.K W ρ2 A2 H' (whileN mt m m' E2 A2) Dn, ⟨fuel, ρ, E, A, hE, hA, h⟩, ?_⟩
  rintro n σ2 H2 ⟨ρ2, E2, A2, e2, a2, h2⟩
  cases n with
  | zero => exact h2.elim
  | succ n =>
    have h3 : PostS X.K W ρ2 A2 H2 ((mt E2 A2).then E2 (kWh m (whileN mt m n) E2)) Dn := h2
    refine ⟨ρ2, E2, A2, e2, a2, PostS.then e2 h3 fun ρ3 c B b H3 n3 r3 h4 => ?_⟩
    have r3' : c = b := r3
    subst r3'
    have e3 := e2.ext n3.ext
    cases c with
    | true =>
      refine iteT ⟨_, fun σ' H' q => ⟨n, Nat.lt_succ_self _, q⟩, ρ3, E2, B, e3, n3.rep, PostS.turn h4 fun ρ5 E5 A5 σ5 H5 n5 e5 h5 => ⟨ρ5, E5, A5, e5, n5.rep, h5⟩⟩
    | false => exact iteF (h4 ρ3 σ2 H3 (.refl n3.rep) e3)

/-! ### what is walked -/
theorem Nxt.reps {K : PySem.W.Frag} {ρ ρ' : Nat → Addr} {A B : AH} {H H' : Hp} {ds : List D} {vs : List V} (n : Nxt K ρ A H ρ' B H') (r : RepVs ρ A.length H ds vs) : RepVs ρ' B.length H' ds vs := r.ext n.ext
theorem Same.rfl {H : Hp} : Same H H := fun _ _ h => h
theorem it_tup {K : PySem.W.Frag} {ρ : Nat → Addr} {A : AH} {H : Hp} {a : Addr} {ds : List D} {vs : List V} (ht : H a = some (.tup vs)) (r : RepVs ρ A.length H ds vs) : ItOk K ρ A H (.seq ds) (Itt K a) := fun ρ1 B H1 n i => by
  have t1 : SqT K H1 a vs := SqT.of (n.ext.tups a vs ht)
  have r1 := n.reps r
  show match stepO ds[i]? with | .item d => _ | .stop => _ | .bad => _
  cases z : ds[i]? with
  | none => exact ⟨vs, t1, by rw [← r.len]; exact List.getElem?_eq_none_iff.mp z⟩
  | some d =>
    obtain ⟨v, h1, h2⟩ := r1.get z
    exact ⟨⟨vs, v, t1, h1⟩, fun x H2 y => by
      obtain ⟨e1, e2⟩ := y
      subst e1
      have := e2 vs t1
      rw [h1] at this
      cases this
      exact ⟨Same.rfl, h2⟩⟩
theorem it_lst {K : PySem.W.Frag} {ρ : Nat → Addr} {A : AH} {H : Hp} {i : Nat} (hi : i < A.length) : ItOk K ρ A H (.lst i) (Itl K (ρ i)) := fun ρ1 B H1 n j => by
  show match (match seqAt B i with | some ds => stepO ds[j]? | none => Step.bad) with | .item d => _ | .stop => _ | .bad => _
  cases z : seqAt B i with
  | none => trivial
  | some ds =>
    obtain ⟨vs, h1, h2⟩ := n.rep.seq z
    rw [n.ext.same i hi] at h1
    show match stepO ds[j]? with | .item d => _ | .stop => _ | .bad => _
    cases y : ds[j]? with
    | none => exact ⟨vs, h1, by rw [← h2.len]; exact List.getElem?_eq_none_iff.mp y⟩
    | some d =>
      obtain ⟨v, q1, q2⟩ := h2.get y
      exact ⟨⟨vs, v, h1, q1⟩, fun x H2 q => by
        obtain ⟨e1, e2⟩ := q
        subst e1
        have := e2 vs h1
        rw [q1] at this
        cases this
        exact ⟨Same.rfl, q2⟩⟩
/-- a list or a tuple is walked -/
theorem pi_seq {l : Expr} {tl : TE} (hl : PE X l tl) : PI X tg l (fun σ H R => tl σ H fun x H1 => ∃ a, x = .ref a ∧ (((∃ xs, SqL X.K H1 a xs) ∧ R (Itl X.K a) H1) ∨ ((∃ xs, SqT X.K H1 a xs) ∧ R (Itt X.K a) H1))) := by
  refine ⟨fun pins s σ H R I h => thn (hl.run pins s σ H _ I h) fun v s1 ⟨x, H1, I1, r1, a, ex, q⟩ => ?_⟩
  subst ex
  obtain rfl : v = Value.ref a := r1
  have new : ∀ (ob : Obj) (b : Addr), b ∈ [s1.heap.objs.size] → FpOk X pins H1 b := fun ob b hb => by
    rw [List.mem_singleton.mp hb]
    exact I1.fpOk (Nat.le_refl _) (I1.hok.fresh (Nat.le_refl _))
  rcases q with ⟨⟨xs, hq⟩, q⟩ | ⟨⟨xs, hq⟩, q⟩
  · obtain ⟨its, rv, p, hz⟩ := I1.list hq
    exact wpAny_pyIter_list p.isList ⟨s1.heap.objs.size, [s1.heap.objs.size], _, _, H1, rfl, I1.kept (t' := s1.toks) fun b o e => Heap.get?_push_of_some _ e, turn_list a _, ⟨_, Heap.get?_push_size _ rfl, rfl, rfl⟩, new default, q⟩
  · obtain ⟨its, rv, p, hz⟩ := I1.tuple hq
    exact wpAny_pyIter_tuple (show s1.heap.IsTuple a its.toArray from p) ⟨s1.heap.objs.size, [s1.heap.objs.size], _, _, H1, rfl, I1.kept (t' := s1.toks) fun b o e => Heap.get?_push_of_some _ e, turn_tuple a _, ⟨_, Heap.get?_push_size _ rfl, rfl, rfl⟩, new default, q⟩
theorem PostI.bind {α β : Type} {rel : (Nat → Addr) → Nat → Hp → α → β → Prop} {K : PySem.W.Frag} {ρ : Nat → Addr} {A : AH} {σ : Sl} {H : Hp} {r : Res α} {f : α → AH → Res Src} {Q : It → Hp → Prop} {Q1 : β → Hp → Prop}
    (h : PostI K W ρ A σ H (r.bind f) Q) (hq : ∀ ρ1 a B b H1, Nxt K ρ A H ρ1 B H1 → rel ρ1 B.length H1 a b → PostI K W ρ1 B σ H1 (f a B) Q → Q1 b H1) : Post K W rel ρ A σ H r Q1 := by
  cases r with
  | ok a B =>
    refine fun ρ' b H' n r => hq ρ' a B b H' n r ?_
    have h' : PostI K W ρ A σ H (f a B) Q := h
    cases z : f a B with
    | ok s C =>
      rw [z] at h'
      exact fun ρ2 J H2 n2 r2 => h' ρ2 J H2 (n.trans n2) r2
    | exc x C =>
      rw [z] at h'
      exact fun ρ2 c d H2 n2 r2 => h' ρ2 c d H2 (n.trans n2) r2
    | bad => rw [z] at h'; exact h'
  | exc x B => exact h
  | bad => exact h
theorem ri_seq (he : RE X W e me) : RI X W tg e (iSeq me) := by
  refine PI.imp (pi_seq he) fun σ H R ⟨ρ, E, A, hE, hA, h⟩ => ⟨ρ, E, A, hE, hA, PostI.bind h fun ρ1 d B v H1 n1 r1 h1 => ?_⟩
  cases r1 with
  | @tup a vs ds q1 q2 => exact ⟨a, rfl, .inr ⟨⟨vs, SqT.of q1⟩, h1 ρ1 _ H1 (.refl n1.rep) (it_tup q1 q2)⟩⟩
  | @ref i hi =>
    have h2 : PostI X.K W ρ1 B σ H1 (okI (.lst i) B (seqAt B i)) R := h1
    cases z : seqAt B i with
    | none => rw [z] at h2; exact h2.elim
    | some ds =>
      rw [z] at h2
      obtain ⟨vs, q1, q2⟩ := n1.rep.seq z
      exact ⟨ρ1 i, rfl, .inl ⟨⟨vs, q1⟩, h2 ρ1 _ H1 (.refl n1.rep) (it_lst hi)⟩⟩
  | _ => exact h1.elim
theorem upto_get {lo : Int} {n i : Nat} : (upto lo n)[i]? = if i < n then some (.int (lo + i)) else none := by
  unfold upto
  rw [List.getElem?_map]
  by_cases z : i < n
  · rw [if_pos z, List.getElem?_range z]; rfl
  · rw [if_neg z, List.getElem?_eq_none (by simpa using z)]; rfl
theorem it_rng {K : PySem.W.Frag} {ρ : Nat → Addr} {A : AH} {H : Hp} {lo : Int} {n : Nat} : ItOk K ρ A H (.seq (upto lo n)) (Itr lo n) := fun ρ1 B H1 nx i => by
  show match stepO (upto lo n)[i]? with | .item d => _ | .stop => _ | .bad => _
  rw [upto_get]
  by_cases z : i < n
  · rw [if_pos z]
    refine ⟨z, fun x H2 y => ?_⟩
    obtain ⟨e1, e2⟩ := y
    subst e1 e2
    exact ⟨Same.rfl, .int _⟩
  · rw [if_neg z]
    exact Nat.le_of_not_lt z
theorem small62_ok {i : Int} (h : small62 i = true) : -(2 ^ 62) ≤ i ∧ i < 2 ^ 62 := by
  unfold small62 at h
  rw [Bool.and_eq_true] at h
  exact ⟨of_decide_eq_true h.1, of_decide_eq_true h.2⟩
variable {a b : Expr} {p : Pos}
theorem ri_rng1 (hg : Gl X "range") (hm : X.mg "range" = none) (ha : RA X W [a] mr) (hs : starEach [a] X.env = [(false, eval a X.env)] := by rfl) : RI X W tg (.Call (.Name "range" p) [a] [] pos) (iRng1 mr) := by
  refine PI.imp (pi_range1 hg hm ha hs) fun σ H R ⟨ρ, E, A, hE, hA, h⟩ => ⟨ρ, E, A, hE, hA, PostI.bind h fun ρ1 ds B vs H1 n1 r1 h1 => ?_⟩
  cases r1 with
  | nil => exact h1.elim
  | cons r1 r2 => cases r2 with
    | cons _ _ => cases r1 <;> exact h1.elim
    | nil => cases r1 with
      | int j =>
        have h2 : PostI X.K W ρ1 B σ H1 (if small62 j = true then .ok (.seq (upto 0 j.toNat)) B else .bad) R := h1
        by_cases z : small62 j = true
        · rw [if_pos z] at h2
          obtain ⟨s1, s2⟩ := small62_ok z
          exact ⟨j, rfl, s1, s2, h2 ρ1 _ H1 (.refl n1.rep) it_rng⟩
        · rw [if_neg z] at h2
          exact h2.elim
      | _ => exact h1.elim
theorem ri_rng2 (hg : Gl X "range") (hm : X.mg "range" = none) (ha : RA X W [a, b] mr) (hs : starEach [a, b] X.env = [(false, eval a X.env), (false, eval b X.env)] := by rfl) (hs2 : starEach [b] X.env = [(false, eval b X.env)] := by rfl) : RI X W tg (.Call (.Name "range" p) [a, b] [] pos) (iRng2 mr) := by
  refine PI.imp (pi_range2 hg hm ha hs hs2) fun σ H R ⟨ρ, E, A, hE, hA, h⟩ => ⟨ρ, E, A, hE, hA, PostI.bind h fun ρ1 ds B vs H1 n1 r1 h1 => ?_⟩
  cases r1 with
  | nil => exact h1.elim
  | cons r1 r2 => cases r2 with
    | nil => cases r1 <;> exact h1.elim
    | cons r2 r3 => cases r3 with
      | cons _ _ => cases r1 <;> cases r2 <;> exact h1.elim
      | nil => cases r1 with
        | int i => cases r2 with
          | int j =>
            have h2 : PostI X.K W ρ1 B σ H1 (if (small62 i && small62 j) = true then .ok (.seq (upto i (j - i).toNat)) B else .bad) R := h1
            by_cases z : (small62 i && small62 j) = true
            · rw [if_pos z] at h2
              rw [Bool.and_eq_true] at z
              obtain ⟨s1, s2⟩ := small62_ok z.1
              obtain ⟨s3, s4⟩ := small62_ok z.2
              exact ⟨i, j, rfl, ⟨s1, s2, s3, s4⟩, h2 ρ1 _ H1 (.refl n1.rep) it_rng⟩
            · rw [if_neg z] at h2
              exact h2.elim
          | _ => exact h1.elim
        | _ => cases r2 <;> exact h1.elim

/-! ### comprehensions -/
theorem wipe_in {σ : Sl} {i : Nat} : ∀ {vs : List Nat}, i ∈ vs → (L2.wipe σ vs)[i]? = if i < σ.length then some none else none
  | v :: vs, h => by
    unfold L2.wipe
    have hl : (L2.wipe σ vs).length = σ.length := wipe_length σ vs
    by_cases e : v = i
    · subst e
      by_cases z : v < σ.length
      · rw [if_pos z, List.getElem?_set_self (by rw [hl]; exact z)]
      · rw [if_neg z, List.getElem?_eq_none (by rw [List.length_set, hl]; omega)]
    · rw [List.getElem?_set_ne e]
      exact wipe_in (by rcases List.mem_cons.mp h with q | q; exact absurd q.symm e; exact q)
theorem wipe_set {σ : Sl} {i : Nat} {v : Option V} {vs : List Nat} (h : i ∈ vs) : L2.wipe (σ.set i v) vs = L2.wipe σ vs := by
  apply List.ext_getElem?
  intro j
  by_cases z : j ∈ vs
  · rw [wipe_in z, wipe_in z, List.length_set]
  · rw [wipe_out z, wipe_out z, List.getElem?_set_ne (fun e : i = j => z (e ▸ h))]
theorem wipe_wipe {σ : Sl} {vs : List Nat} : L2.wipe (L2.wipe σ vs) vs = L2.wipe σ vs := by
  apply List.ext_getElem?
  intro j
  by_cases z : j ∈ vs
  · rw [wipe_in z, wipe_in z, wipe_length]
  · rw [wipe_out z]
/-- a target that stores into the comprehension's own slots -/
def RGo (X : Cx) (W : WX) (own : List Nat) (e : Expr) (g : Gx) : Prop := PG X e (fun v σ H Q => tG X.K W g v σ H fun σ2 H2 => L2.wipe σ2 own = L2.wipe σ own → Q σ2 H2)
def RGos (X : Cx) (W : WX) (own : List Nat) (e : List Expr) (g : Gsx) : Prop := PGs X e (fun v σ H Q => tGs X.K W g v σ H fun σ2 H2 => L2.wipe σ2 own = L2.wipe σ own → Q σ2 H2)
variable {es : List Expr} {gs : Gsx} {own : List Nat}
theorem rgo_name (nd : X.N.Nodup) (i : Nat) {x : Str} (hi : X.N[i]? = some x) (hx : Loc X.env.scope x) (hf : X.fn x = true ∨ X.env.scope.names.lookup x = some .local) (ho : i ∈ own) : RGo X W own (.Name x pos) (gName i) :=
  PG.imp (pg_name nd hi hx hf) fun v σ H Q ⟨ρ, E, A, d, hE, hA, r, h⟩ => h ρ _ H (.refl hA) (hE.set i r) (wipe_set ho)
theorem rgos_nil : RGos X W own [] gNil := PGs.imp pgs_nil fun vs σ H Q ⟨ρ, E, A, ds, hE, hA, r, h⟩ => by
  cases r with
  | nil => exact ⟨rfl, h ρ _ H (.refl hA) hE rfl⟩
  | cons _ _ => exact h.elim
theorem PostG.mono {K : PySem.W.Frag} {ρ : Nat → Addr} {A : AH} {H : Hp} {r : SRes} {Q Q' : Sl → Hp → Prop} (h : PostG K W ρ A H r Q) (hq : ∀ σ H1, Q σ H1 → Q' σ H1) : PostG K W ρ A H r Q' := by
  cases r with
  | nx E B => exact fun ρ' σ H' n r => hq _ _ (h ρ' σ H' n r)
  | exc x E B => exact h
  | _ => exact h
theorem rgos_cons (h1 : RGo X W own e g) (h2 : RGos X W own es gs) (hs : (assignEach (e :: es) X.env).map (·.2) = assign e X.env :: (assignEach es X.env).map (·.2)) : RGos X W own (e :: es) (gCons g gs) := by
  refine PGs.imp (pgs_cons h1 h2 hs) fun vs σ H Q ⟨ρ, E, A, ds, hE, hA, r, h⟩ => ?_
  cases r with
  | nil => exact h.elim
  | @cons d ds v vs r1 r2 =>
    exact ⟨v, vs, rfl, ρ, E, A, d, hE, hA, r1, PostG.only h fun ρ1 E1 B σ1 H1 n1 e1 h1 w1 => ⟨ρ1, E1, B, ds, e1, n1.rep, r2.ext n1.ext, PostG.mono h1 fun σ2 H2 q w2 => q (w2.trans w1)⟩⟩
theorem rgo_tup (calm : X.calm = true) {x1 n : Nat} (h : RGos X W own es gs) (hn : (assignEach es X.env).length = n) (hst : (assignEach es X.env).findIdx? (·.1) = none) : RGo X W own (.Tuple es x1 pos) (gTup n gs) := by
  refine PG.imp (pg_tup calm h hn hst) fun v σ H Q ⟨ρ, E, A, d, hE, hA, r, h⟩ => ?_
  cases r with
  | @tup a vs ds h1 h2 =>
    have h' : PostG X.K W ρ A H (if ds.length = n then gs ds E A else .bad) (fun σ2 H2 => L2.wipe σ2 own = L2.wipe σ own → Q σ2 H2) := h
    by_cases z : ds.length = n
    · rw [if_pos z] at h'
      exact ⟨a, vs, rfl, SqT.of h1, by rw [← h2.len]; exact z, ρ, E, A, ds, hE, hA, h2, h'⟩
    · rw [if_neg z] at h'
      exact h'.elim
  | _ => exact h.elim
abbrev W0 : WX := fun _ _ _ _ => False
def RTs (X : Cx) (W : WX) (ifs : List Expr) (m : Tx) : Prop := PTs X ifs (tT X.K W m)
theorem PTs.imp {ifs : List Expr} {t t' : TT} (h : PTs X ifs t) (hh : ∀ σ H Q, t' σ H Q → t σ H Q) : PTs X ifs t' := ⟨fun pins s σ H Q I q => h.run pins s σ H Q I (hh σ H Q q)⟩
theorem rts_nil : RTs X W [] tYes := PTs.imp pts_nil fun σ H Q ⟨ρ, E, A, hE, hA, h⟩ => h ρ true H (.refl hA) rfl
theorem rts_one {c : Expr} (h : RT X W c mt) : RTs X W [c] mt := pts_one h
theorem Post.bindN {α β γ δ : Type} {K : PySem.W.Frag} {W' : WX} {rel : (Nat → Addr) → Nat → Hp → α → β → Prop} {rel2 : (Nat → Addr) → Nat → Hp → γ → δ → Prop} {ρ : Nat → Addr} {A : AH} {σ σ' : Sl} {H : Hp} {r : Res α} {f : α → AH → Res γ} {Q : δ → Hp → Prop} {Q1 : β → Hp → Prop}
    (h : Post K W rel2 ρ A σ H (r.bindN f) Q) (hq : ∀ ρ1 a B b H1, Nxt K ρ A H ρ1 B H1 → rel ρ1 B.length H1 a b → Post K W rel2 ρ1 B σ H1 (f a B) Q → Q1 b H1) : Post K W' rel ρ A σ' H r Q1 := by
  cases r with
  | ok a B => exact fun ρ' b H' n r => hq ρ' a B b H' n r (Post.later h n)
  | exc x B => exact h.elim
  | bad => exact h
/-- what a comprehension's parts are in its block -/
abbrev blkOf (X : Cx) (scope : Scope) (s : Shared) (H : Hp) (C : Addr) (cl : List (Str × Addr)) (fp : List Addr) : Cx := X.blk s H scope (compEnvC scope cl C X.env) fp
theorem lc_of {σ : Sl} {H : Hp} {Q : VK} (h : tE X.K W (eLc mi g mt me own) σ H Q) :
    tLc (tI X.K W mi) (fun v σ H Q => tG X.K W0 g v σ H fun σ2 H2 => L2.wipe σ2 own = L2.wipe σ own → Q σ2 H2) (tT X.K W0 mt) (tE X.K W0 me) own σ H Q := by
  obtain ⟨ρ, E, A, hE, hA, h⟩ := h
  refine ⟨ρ, E, A, hE, hA, ?_⟩
  have h0 : Post X.K W RepV ρ A σ H ((mi E A).bind (kLc g mt me (wipeE E own))) Q := h
  cases z : mi E A with
  | exc x B => rw [z] at h0; exact h0
  | bad => rw [z] at h0; exact h0
  | ok src B =>
    rw [z] at h0
    intro ρ1 J H1 n1 itok L hL
    have h1 : Post X.K W RepV ρ1 B σ H1 (lcN src g mt me (wipeE E own) B.length (src.size B + 1) 0 (B ++ [.lst []])) Q := Post.later h0 n1
    obtain ⟨ρ2, eL, n2⟩ := Nxt.alloc (o := .lst []) (ho := .lst []) n1.rep hL rfl fun ρ' _ => ⟨[], upd_same, .nil⟩
    have lB : B.length < (B ++ [O.lst []]).length := by rw [List.length_append]; exact Nat.lt_succ_self _
    refine ⟨fun i m H' => ∃ ρ3 A3, Nxt X.K ρ2 (B ++ [.lst []]) (upd H1 L (.lst [])) ρ3 A3 H' ∧ Post X.K W RepV ρ3 A3 σ H' (lcN src g mt me (wipeE E own) B.length m i A3) Q, ⟨src.size B + 1, ρ2, _, .refl n2.rep, Post.later h1 n2⟩, ?_⟩
    rintro i n H3 ⟨ρ3, A3, n3, h3⟩
    cases n with
    | zero => exact h3.elim
    | succ n =>
      have h4 : Post X.K W RepV ρ3 A3 σ H3 (lcK g mt me (wipeE E own) B.length (lcN src g mt me (wipeE E own) B.length n (i + 1)) A3 (src.at A3 i)) Q := h3
      have nn := n1.trans (n2.trans n3)
      have io := itok ρ3 A3 H3 (n2.trans n3) i
      have eW : RepE ρ3 A3.length H3 (wipeE E own) (L2.wipe σ own) := (hE.ext nn.ext).wipe own
      have e3 : ρ3 B.length = L := (n3.ext.same _ lB).trans eL
      have l3 : B.length < A3.length := Nat.lt_of_lt_of_le lB n3.ext.le
      cases y : src.at A3 i with
      | stop =>
        rw [y] at h4 io
        have q := h4 ρ3 (.ref (ρ3 B.length)) H3 (.refl n3.rep) (.ref l3)
        rw [e3] at q
        exact .inl ⟨io, q⟩
      | bad => rw [y] at h4; exact h4.elim
      | item d =>
        rw [y] at h4 io
        refine .inr ⟨io.1, _, fun H' q => ⟨n, Nat.lt_succ_self _, q⟩, fun x H4 yl => ?_⟩
        obtain ⟨sm, rv⟩ := io.2 x H4 yl
        have n4 := Nxt.same n3.rep sm
        refine ⟨ρ3, wipeE E own, A3, d, eW.ext n4.ext, n4.rep, rv, ?_⟩
        have h5 : Post X.K W RepV ρ3 A3 σ H4 (kLc1 mt me B.length (lcN src g mt me (wipeE E own) B.length n (i + 1)) (g d (wipeE E own) A3)) Q := Post.later h4 n4
        cases u : g d (wipeE E own) A3 with
        | nx E5 A5 =>
          rw [u] at h5
          intro ρ5 σ5 H5 n5 e5 w5
          have h6 : Post X.K W RepV ρ5 A5 σ H5 ((mt E5 A5).bindN (kLc2 me E5 B.length (lcN src g mt me (wipeE E own) B.length n (i + 1)))) Q := Post.later h5 n5
          refine ⟨by rw [w5]; exact wipe_wipe, ρ5, E5, A5, e5, n5.rep, Post.bindN h6 fun ρ6 c B6 b6 H6 n6 r6 h7 => ?_⟩
          have r6' : c = b6 := r6
          subst r6'
          cases c with
          | false => exact iteF ⟨ρ6, B6, n3.trans (n4.trans (n5.trans n6)), h7⟩
          | true =>
            have h8 : Post X.K W RepV ρ6 B6 σ H6 ((me E5 B6).bindN (kLc3 B.length (lcN src g mt me (wipeE E own) B.length n (i + 1)))) Q := h7
            refine iteT ⟨ρ6, E5, B6, e5.ext n6.ext, n6.rep, Post.bindN h8 fun ρ7 dv B7 v7 H7 n7 r7 h9 => ?_⟩
            have h10 : Post X.K W RepV ρ7 B7 σ H7 (okA (lcN src g mt me (wipeE E own) B.length n (i + 1)) (addO B.length dv B7 B7[B.length]?)) Q := h9
            have n37 := n3.trans (n4.trans (n5.trans (n6.trans n7)))
            have e7 : ρ7 B.length = L := (n37.ext.same _ lB).trans eL
            cases q : B7[B.length]? with
            | none => rw [q] at h10; exact h10.elim
            | some ob =>
              rw [q] at h10
              cases ob with
              | lst acc =>
                have h11 : Post X.K W RepV ρ7 B7 σ H7 (okA (lcN src g mt me (wipeE E own) B.length n (i + 1)) (if acc.length < line then some (B7.set B.length (.lst (acc ++ [dv]))) else none)) Q := h10
                by_cases lt : acc.length < line
                · rw [if_pos lt] at h11
                  obtain ⟨avs, q1, q2⟩ := n7.rep.objs _ _ q
                  rw [e7] at q1
                  have n8 : Nxt X.K ρ7 B7 H7 ρ7 (B7.set B.length (.lst (acc ++ [dv]))) (upd H7 (ρ7 B.length) (.lst (avs ++ [v7]))) :=
                    Nxt.set n7.rep q rfl rfl fun ex => ⟨_, upd_same, (q2.app (.cons r7 .nil)).ext ex⟩
                  rw [e7] at n8
                  exact ⟨avs, q1, by rw [← q2.len, ← line_eq]; exact lt, ρ7, _, n37.trans n8, Post.later h11 n8⟩
                · rw [if_neg lt] at h11
                  exact h11.elim
              | _ => exact h10.elim
        | exc x E5 A5 => rw [u] at h5; exact h5.elim
        | rt _ _ => rw [u] at h5; exact h5.elim
        | bk _ _ => rw [u] at h5; exact h5.elim
        | ct _ _ => rw [u] at h5; exact h5.elim
        | bad => rw [u] at h5; exact h5.elim
end
section
variable {X : Cx} {W : WX} {k : Nat} {pos : Pos} {tg iter elt : Expr} {ifs : List Expr} {scope : Scope} {own : List (Str × Nat)} {mi : Ix} {g : Gx} {mt : Tx} {me : Ex}
theorem re_lc (cx : Ctx X W k) (hi : RI X W tg iter mi) (ok : BlkOk X.N X.env.scope scope own)
    (hg : ∀ s H C cl fp, RGo (blkOf X scope s H C cl fp) W0 (own.map (·.2)) tg g) (ht : ∀ s H C cl fp, RTs (blkOf X scope s H C cl fp) W0 ifs mt) (he : ∀ s H C cl fp, RE (blkOf X scope s H C cl fp) W0 elt me)
    (hs : ∀ x, foldedSetIterable iter X.env x = pure x := by intro _; rfl) : RE X W (.ListComp elt [⟨tg, iter, ifs, 0⟩] scope pos) (eLc mi g mt me (own.map (·.2))) :=
  PE.imp (pe_lc (g := fun v σ H Q => tG X.K W0 g v σ H fun σ2 H2 => L2.wipe σ2 (own.map (·.2)) = L2.wipe σ (own.map (·.2)) → Q σ2 H2) (tt := tT X.K W0 mt) (te := tE X.K W0 me) cx.calm cx.nd hi ok hg ht he hs) fun σ H Q h => lc_of h
theorem rs_setLc (cx : Ctx X W k) (i : Nat) {y : Str} {py spos : Pos} (hi : RI X W tg iter mi) (ok : BlkOk X.N X.env.scope scope own)
    (hg : ∀ s H C cl fp, RGo (blkOf X scope s H C cl fp) W0 (own.map (·.2)) tg g) (ht : ∀ s H C cl fp, RTs (blkOf X scope s H C cl fp) W0 ifs mt) (he : ∀ s H C cl fp, RE (blkOf X scope s H C cl fp) W0 elt me)
    (hy : X.N[i]? = some y) (hyl : X.env.scope.names.lookup y = some .local) (hsw : swapsWith (.ListComp elt [⟨tg, iter, ifs, 0⟩] scope pos) (some (.Name y py)) spos.line X.env = pure true)
    (hs : ∀ x, foldedSetIterable iter X.env x = pure x := by intro _; rfl) : RS X W (.Assign [.Name y py] (.ListComp elt [⟨tg, iter, ifs, 0⟩] scope pos) spos) (sAsg (eLc mi g mt me (own.map (·.2))) (gName i)) :=
  PS.imp (ps_setLc (g := fun v σ H Q => tG X.K W0 g v σ H fun σ2 H2 => L2.wipe σ2 (own.map (·.2)) = L2.wipe σ (own.map (·.2)) → Q σ2 H2) (tt := tT X.K W0 mt) (te := tE X.K W0 me) cx.calm cx.nd hy hyl hsw hi ok hg ht he hs) fun Dn σ H ⟨ρ, E, A, hE, hA, h⟩ => lc_of (W := W) ⟨ρ, E, A, hE, hA, PostS.then hE h fun ρ1 d B v H1 n1 r1 h1 => h1 ρ1 _ H1 (.refl n1.rep) ((hE.ext n1.ext).set i r1)⟩
/-- a comprehension's block is a context like the others -/
theorem Ctx.blk (cx : Ctx X W k) (s : Shared) (H : Hp) (C : Addr) (cl : List (Str × Addr)) (fp : List Addr) : Ctx (blkOf X scope s H C cl fp) W0 k := ⟨cx.calm, cx.nd, (fun _ _ h => by obtain ⟨_, _, _, _, _, _, _, _, _, _, _, _, _, _, _, _, z⟩ := h; exact z.elim), .never, cx.room⟩
end
end DL
set_option Elab.async false
set_option linter.all false
set_option maxRecDepth 100000
set_option maxHeartbeats 4000000
/-! The operations, as plain functions (own work). -/
namespace DL
open PySem
/-! ### displays -/
def mkTup : Fn := fun ds A => if ds.length ≤ line then .ok (.tup ds) A else .bad
def mkLst : Fn := fun ds A => if ds.length ≤ line then .ok (.ref A.length) (A ++ [.lst ds]) else .bad
def mkDic : Fn
  | [], A => .ok (.ref A.length) (A ++ [.dic []])
  | _ :: _, _ => .bad
/-- {}, to have tuples for keys -/
def mkDit : Fn
  | [], A => .ok (.ref A.length) (A ++ [.dit []])
  | _ :: _, _ => .bad
/-- *e among others: the items of a list or a tuple -/
def itemsO (A : AH) : Option (List D) → Res (List D)
  | some ds => .ok ds A
  | none => .bad
def seqStar : Option O → Option (List D)
  | some (.lst ds) => some ds
  | some (.rol ds) => some ds
  | some (.dic kvs) => some (kvs.map (·.1))
  | _ => none
def itemsOf : D → AH → Res (List D)
  | .tup ds, A => .ok ds A
  | .ref i, A => itemsO A (seqStar A[i]?)
  | _, _ => .bad
def kStar2 (ds : List D) : List D → AH → Res (List D) := fun es A => .ok (ds ++ es) A
def kStar1 (r : Ax) (E : Env) : List D → AH → Res (List D) := fun ds A => (r E A).bind (kStar2 ds)
def kStar (r : Ax) (E : Env) : D → AH → Res (List D) := fun d A => (itemsOf d A).bind (kStar1 r E)
def aStar (e : Ex) (r : Ax) : Ax := fun E A => (e E A).bind (kStar r E)

/-! ### numbers, texts -/
def tooWide (i : Int) : Bool := !(decide (-(2 ^ 64) < i) && decide (i < 2 ^ 64))
def lstO (A : AH) (xs : List D) (n : Nat) : Res D := if n ≤ line then .ok (.ref A.length) (A ++ [.lst xs]) else .bad
def lst2 (A : AH) : Option O → Option O → Res D
  | some (.lst xs), some (.lst ys) => lstO A (xs ++ ys) (xs.length + ys.length)
  | _, _ => .bad
def opAdd : Fn
  | [.int i, .int j], A => .ok (.int (i + j)) A
  | [.str x, .str y], A => if x.length + y.length ≤ line then .ok (.str (x ++ y)) A else .bad
  | [.tup xs, .tup ys], A => if xs.length + ys.length ≤ line then .ok (.tup (xs ++ ys)) A else .bad
  | [.ref i, .ref j], A => lst2 A A[i]? A[j]?
  | _, _ => .bad
def opSub : Fn
  | [.int i, .int j], A => .ok (.int (i - j)) A
  | _, _ => .bad
def rep (k : Int) (xs : List D) : List D := (List.replicate k.toNat xs).flatten
def mulL (A : AH) (k : Int) : Option O → Res D
  | some (.lst xs) => if -(2 ^ 63) ≤ k ∧ k < 2 ^ 63 then lstO A (rep k xs) (xs.length * k.toNat) else .bad
  | _ => .bad
def opMul : Fn
  | [.int i, .int j], A => if tooWide i && tooWide j then .bad else .ok (.int (i * j)) A
  | [.tup xs, .int k], A => if xs ≠ [] ∧ 2 ≤ k ∧ k ≤ 1000 ∧ xs.length ≤ 1000 then .ok (.tup (rep k xs)) A else .bad
  | [.ref i, .int k], A => mulL A k A[i]?
  | _, _ => .bad
def opMod : Fn
  | [.int i, .int j], A => if j ≠ 0 then .ok (.int (i.fmod j)) A else .bad
  | _, _ => .bad
def opDiv : Fn
  | [.int i, .int j], A => if j ≠ 0 ∧ j.natAbs < 1073741824 then .ok (.int (i.fdiv j)) A else .bad
  | _, _ => .bad
def opPow : Fn
  | [.int i, .int j], A => if 0 ≤ j ∧ j ≤ 1000000 ∧ i.natAbs < 2 ^ 64 then .ok (.int (i ^ j.toNat)) A else .bad
  | _, _ => .bad
def opNeg : Fn
  | [.int i], A => .ok (.int (-i)) A
  | _, _ => .bad
def opLt : Fn
  | [.int i, .int j], A => .ok (.bl (decide (i < j))) A
  | _, _ => .bad
def opLe : Fn
  | [.int i, .int j], A => .ok (.bl (decide (i ≤ j))) A
  | _, _ => .bad
def opGt : Fn
  | [.int i, .int j], A => .ok (.bl (decide (j < i))) A
  | _, _ => .bad
def opGe : Fn
  | [.int i, .int j], A => .ok (.bl (decide (j ≤ i))) A
  | _, _ => .bad
def D.isN : D → Bool
  | .non => true
  | _ => false
def opIs : Fn
  | [x, .non], A => .ok (.bl x.isN) A
  | _, _ => .bad
def opNis : Fn
  | [x, .non], A => .ok (.bl (!x.isN)) A
  | _, _ => .bad

/-! ### equality at any depth -/
def allSome {α : Type} : List (Option α) → Option (List α)
  | [] => some []
  | some a :: r => (allSome r).map (a :: ·)
  | none :: _ => none
def toPy (A : AH) : Nat → D → Option PyData
  | 0, _ => none
  | _ + 1, .non => some .none
  | _ + 1, .bl b => some (.bool b)
  | _ + 1, .int i => some (.int i)
  | _ + 1, .str x => if PyData.canLay0 (.str x) = true then some (.str x) else none
  | n + 1, .tup ds => (allSome (ds.map (toPy A n))).map .tuple
  | n + 1, .ref i => match seqAt A i with
    | some ds => (allSome (ds.map (toPy A n))).map .list
    | none => none
def eqO (A : AH) (f : Bool → Bool) : Option PyData → Option PyData → Res D
  | some p, some q => .ok (.bl (f (PyData.eqv p q))) A
  | _, _ => .bad
def opEq : Fn
  | [x, y], A => eqO A id (toPy A 60 x) (toPy A 60 y)
  | _, _ => .bad
def opNe : Fn
  | [x, y], A => eqO A not (toPy A 60 x) (toPy A 60 y)
  | _, _ => .bad

/-! ### items and slices -/
def ixD (n : Nat) (i : Int) : Option Nat := if 0 ≤ i then (if i < n then some i.toNat else none) else if -(n : Int) ≤ i then some (i + n).toNat else none
def atD (ds : List D) (i : Int) : Option D := (ixD ds.length i).bind fun j => ds[j]?
def okO (A : AH) : Option D → Res D
  | some d => .ok d A
  | none => .bad
@[simp] theorem okO_some (A : AH) (d : D) : okO A (some d) = .ok d A := rfl
def atS (A : AH) (i : Int) : Option (List D) → Res D
  | some ds => okO A (atD ds i)
  | none => .bad
def opIx : Fn
  | [.tup ds, .int i], A => okO A (atD ds i)
  | [.ref j, .int i], A => atS A i (seqAt A j)
  | _, _ => .bad
def setO (i : Nat) (j : Int) (d : D) (A : AH) : Option O → Option AH
  | some (.lst ds) => (ixD ds.length j).map fun k => A.set i (.lst (ds.set k d))
  | _ => none
def stIx : Stx := fun x y d A => match x, y with
  | .ref i, .int j => setO i j d A A[i]?
  | _, _ => none
def sIxD (n d : Nat) : Option Int → Nat
  | none => d
  | some v => if v < 0 then (v + (n : Int)).toNat else min v.toNat n
def cutD (xs : List D) (lo hi : Option Int) : List D := (xs.drop (sIxD xs.length 0 lo)).take (sIxD xs.length xs.length hi - sIxD xs.length 0 lo)
abbrev Px := Env → AH → Res (Option Int)
def pNone : Px := fun _ A => .ok none A
def kPart : D → AH → Res (Option Int)
  | .int i, A => .ok (some i) A
  | _, _ => .bad
def pSome (e : Ex) : Px := fun E A => (e E A).bind kPart
def cutS (A : AH) (lo hi : Option Int) : Option (List D) → Res D
  | some ds => .ok (.ref A.length) (A ++ [.lst (cutD ds lo hi)])
  | none => .bad
def opSl (lo hi : Option Int) (A : AH) : D → Res D
  | .tup ds => .ok (.tup (cutD ds lo hi)) A
  | .ref i => cutS A lo hi (seqAt A i)
  | _ => .bad
def kSl3 (d : D) (lo : Option Int) : Option Int → AH → Res D := fun hi A => opSl lo hi A d
def kSl2 (q : Px) (E : Env) (d : D) : Option Int → AH → Res D := fun lo A => (q E A).bind (kSl3 d lo)
def kSl1 (p q : Px) (E : Env) : D → AH → Res D := fun d A => (p E A).bind (kSl2 q E d)
def eSl (e : Ex) (p q : Px) : Ex := fun E A => (e E A).bind (kSl1 p q E)

/-! ### built-in functions and methods -/
def lenS (A : AH) : Option O → Res D
  | some (.lst ds) => .ok (.int ds.length) A
  | some (.rol ds) => .ok (.int ds.length) A
  | _ => .bad
def biLen : Fn
  | [.tup ds], A => .ok (.int ds.length) A
  | [.ref i], A => lenS A A[i]?
  | _, _ => .bad
def toLst (A : AH) : Option (List D) → Res D
  | some ds => .ok (.ref A.length) (A ++ [.lst ds])
  | none => .bad
def biList : Fn
  | [.tup ds], A => .ok (.ref A.length) (A ++ [.lst ds])
  | [.ref i], A => toLst A (seqAt A i)
  | _, _ => .bad
def toTup (A : AH) : Option (List D) → Res D
  | some ds => .ok (.tup ds) A
  | none => .bad
def biTuple : Fn
  | [.tup ds], A => .ok (.tup ds) A
  | [.ref i], A => toTup A (seqAt A i)
  | _, _ => .bad
def biInt : Fn
  | [.int i], A => .ok (.int i) A
  | [.bl b], A => .ok (.int (if b then 1 else 0)) A
  | _, _ => .bad
def biAbs : Fn
  | [.int i], A => .ok (.int (if i < 0 then -i else i)) A
  | _, _ => .bad
def D.int? : D → Option Int
  | .int i => some i
  | _ => none
def D.bl? : D → Option Bool
  | .bl b => some b
  | _ => none
def intsOf (ds : List D) : Option (List Int) := allSome (ds.map D.int?)
def blsOf (ds : List D) : Option (List Bool) := allSome (ds.map D.bl?)
def maxI (m : Int) (ns : List Int) : Int := ns.foldl max m
def maxO (A : AH) : Option (List Int) → Res D
  | some (n :: ns) => .ok (.int (maxI n ns)) A
  | _ => .bad
def biMax : Fn
  | [.ref i], A => maxO A ((seqAt A i).bind intsOf)
  | _, _ => .bad
def allO (A : AH) : Option (List Bool) → Res D
  | some bs => .ok (.bl (bs.all id)) A
  | none => .bad
def biAll : Fn
  | [.ref i], A => allO A ((seqAt A i).bind blsOf)
  | _, _ => .bad
def anyO (A : AH) : Option (List Bool) → Res D
  | some bs => .ok (.bl (bs.any id)) A
  | none => .bad
def biAny : Fn
  | [.ref i], A => anyO A ((seqAt A i).bind blsOf)
  | _, _ => .bad
def sumO (A : AH) : Option (List Int) → Res D
  | some ns => .ok (.int ns.sum) A
  | none => .bad
def biSum : Fn
  | [.ref i], A => sumO A ((seqAt A i).bind intsOf)
  | _, _ => .bad
/-- isinstance(x, T): T an int, a bool, a tuple, a list, a text -/
inductive Ty where
  | int | bool | tuple | list | str
def Ty.ofB : Ty → Bool
  | .int => true
  | .bool => true
  | _ => false
def Ty.ofI : Ty → Bool
  | .int => true
  | _ => false
def Ty.ofS : Ty → Bool
  | .str => true
  | _ => false
def Ty.ofT : Ty → Bool
  | .tuple => true
  | _ => false
def Ty.ofL : Ty → Bool
  | .list => true
  | _ => false
def tyO (t : Ty) (A : AH) : Option O → Res D
  | some (.lst _) => .ok (.bl t.ofL) A
  | _ => .bad
def biIsi (t : Ty) : Fn
  | [.non], A => .ok (.bl false) A
  | [.bl _], A => .ok (.bl t.ofB) A
  | [.int _], A => .ok (.bl t.ofI) A
  | [.str _], A => .ok (.bl t.ofS) A
  | [.tup _], A => .ok (.bl t.ofT) A
  | [.ref i], A => tyO t A A[i]?
  | _, _ => .bad
def appO (i : Nat) (d : D) (A : AH) : Option O → Res D
  | some (.lst ds) => if ds.length < line then .ok .non (A.set i (.lst (ds ++ [d]))) else .bad
  | _ => .bad
def mAppend : Fn
  | [.ref i, d], A => appO i d A A[i]?
  | _, _ => .bad
def popO (i : Nat) (A : AH) : Option O → Res D
  | some (.lst ds) => (match ds.getLast? with
    | some d => .ok d (A.set i (.lst ds.dropLast))
    | none => .bad)
  | _ => .bad
def mPop : Fn
  | [.ref i], A => popO i A A[i]?
  | _, _ => .bad
/-- the kind of what a method of a built-in type is asked of -/
inductive Kd where
  | list | dict | str
def kindO : Kd → Option O → Bool
  | .list, some (.lst _) => true
  | .list, some (.rol _) => true
  | .dict, some (.dic _) => true
  | .dict, some (.dit _) => true
  | _, _ => false
def isKd (k : Kd) (A : AH) : D → Bool
  | .ref i => kindO k A[i]?
  | .str _ => (match k with
    | .str => true
    | _ => false)
  | _ => false
def kBM (k : Kd) (F : Fn) (a : Ax) (E : Env) : D → AH → Res D := fun x A => if isKd k A x = true then (a E A).bind (kM2 F x) else .bad
def eBM (k : Kd) (F : Fn) (o : Ex) (a : Ax) : Ex := fun E A => (o E A).bind (kBM k F a E)
def opIxL : Fn
  | [.ref j, .int i], A => atS A i (seqAt A j)
  | _, _ => .bad
def kPar3 (i j l : Nat) (E : Env) : List D → AH → SRes
  | [x, y, z], A => .nx (((E.set i (some x)).set j (some y)).set l (some z)) A
  | _, _ => .bad
def sPar3 (i j l : Nat) (a : Ax) : Sx := fun E A => (a E A).then E (kPar3 i j l E)
end DL
set_option Elab.async false
set_option linter.all false
set_option maxRecDepth 100000
set_option maxHeartbeats 4000000
/-! The operations' rules say what the plain functions say (own work). -/
namespace DL
open PySem PySem.Spec PyProof.Rows L2
section
variable {K : PySem.W.Frag} {W : WX} {ρ : Nat → Addr} {A : AH} {σ : Sl} {H : Hp} {Q : VK} {ds : List D} {vs : List V} {d : D} {v : V} {p : Addr}
theorem post_val (hA : RepA K ρ H A) (h : Post K W RepV ρ A σ H (.ok d A) Q) (r : RepV ρ A.length H d v) : Q v H := h ρ v H (.refl hA) r
theorem post_tup (hA : RepA K ρ H A) (h : Post K W RepV ρ A σ H (.ok (.tup ds) A) Q) (r : RepVs ρ A.length H ds vs) (hp : H p = none) : Q (.ref p) (upd H p (.tup vs)) := by
  have n := Nxt.same (H' := upd H p (.tup vs)) hA (same_upd hp)
  exact h ρ _ _ n (.tup upd_same (r.ext n.ext))
theorem post_new {o : O} {ho : HO} (hA : RepA K ρ H A) (h : Post K W RepV ρ A σ H (.ok (.ref A.length) (A ++ [o])) Q) (hp : H p = none) (m : o.mut = true)
    (new : ∀ ρ', Ext ρ A.length H ρ' (A.length + 1) (upd H p ho) → RepO K ρ' (A.length + 1) (upd H p ho) p o) : Q (.ref p) (upd H p ho) := by
  obtain ⟨ρ', e, n⟩ := Nxt.alloc hA hp m new
  rw [← e]
  refine h ρ' _ _ (by rw [e]; exact n) (.ref ?_)
  rw [List.length_append]
  exact Nat.lt_succ_self _
theorem post_lst (hA : RepA K ρ H A) (h : Post K W RepV ρ A σ H (.ok (.ref A.length) (A ++ [.lst ds])) Q) (r : RepVs ρ A.length H ds vs) (hp : H p = none) : Q (.ref p) (upd H p (.lst vs)) :=
  post_new hA h hp rfl fun ρ' x => ⟨vs, upd_same, r.ext x⟩
theorem reps1 (r : RepVs ρ n H [d] vs) : ∃ v, vs = [v] ∧ RepV ρ n H d v := by
  cases r with
  | cons a b => cases b; exact ⟨_, rfl, a⟩
end
section
variable {X : Cx} {W : WX} {k : Nat} {pos : Pos} {e : Expr} {es : List Expr} {me : Ex} {mr : Ax}
/-! ### displays -/
theorem re_tup {x1 : Nat} (ha : RA X W es mr) : RE X W (.Tuple es x1 pos) (eF mkTup mr) := by
  refine PE.imp (pe_tup ha) fun σ H Q ⟨ρ, E, A, hE, hA, h⟩ => ⟨ρ, E, A, hE, hA, Post.bind h fun ρ1 ds B vs H1 n1 r1 h1 => ?_⟩
  have h2 : Post X.K W RepV ρ1 B σ H1 (if ds.length ≤ line then .ok (.tup ds) B else .bad) Q := h1
  by_cases z : ds.length ≤ line
  · rw [if_pos z] at h2
    exact ⟨by rw [← r1.len, ← line_eq]; exact z, fun p hp => post_tup n1.rep h2 r1 hp⟩
  · rw [if_neg z] at h2
    exact h2.elim
theorem re_lst (ha : RA X W es mr) : RE X W (.List es pos) (eF mkLst mr) := by
  refine PE.imp (pe_lst ha) fun σ H Q ⟨ρ, E, A, hE, hA, h⟩ => ⟨ρ, E, A, hE, hA, Post.bind h fun ρ1 ds B vs H1 n1 r1 h1 => ?_⟩
  have h2 : Post X.K W RepV ρ1 B σ H1 (if ds.length ≤ line then .ok (.ref B.length) (B ++ [.lst ds]) else .bad) Q := h1
  by_cases z : ds.length ≤ line
  · rw [if_pos z] at h2
    exact ⟨by rw [← r1.len, ← line_eq]; exact z, fun p hp => post_lst n1.rep h2 r1 hp⟩
  · rw [if_neg z] at h2
    exact h2.elim
theorem re_dic : RE X W (.Dict [] [] pos) (eF mkDic aNil) :=
  PE.imp pe_dnewK fun σ H Q ⟨ρ, E, A, hE, hA, h⟩ p hp => post_new hA h hp rfl fun ρ' x => ⟨[], upd_same, .nil⟩
theorem re_dit : RE X W (.Dict [] [] pos) (eF mkDit aNil) :=
  PE.imp pe_dnewT fun σ H Q ⟨ρ, E, A, hE, hA, h⟩ p hp => post_new hA h hp rfl fun ρ' x => ⟨[], upd_same, .nil⟩
end
section
variable {X : Cx}
/-! ### operators -/
def rAdd4 (K : PySem.W.Frag) : R2 := fun x y H Q => (rI0 (fun i j => V.int (i + j)) x y H Q) ∨ (∃ i j, x = .str i ∧ y = .str j ∧ i.length + j.length ≤ sizeLine ∧ Q (.str (i ++ j)) H) ∨ rCatA K x y H Q ∨ rCat x y H Q
theorem op_add4 : OpR X (binaryOp .Add) (rAdd4 X.K) := OpR.or op_add (OpR.or op_add_str (OpR.or op_catA op_cat))
theorem lst_at {K : PySem.W.Frag} {ρ : Nat → Addr} {A : AH} {H : Hp} {i : Nat} {xs : List D} (hA : RepA K ρ H A) (e : A[i]? = some (.lst xs)) : ∃ vs, H (ρ i) = some (.lst vs) ∧ RepVs ρ A.length H xs vs := hA.objs i _ e
theorem ok_add : Ok2 X.K (rAdd4 X.K) opAdd := fun W ρ A σ H d e v u Q hA rd re h => by
  cases rd with
  | int i => cases re with
    | int j => exact .inl ⟨i, j, rfl, rfl, post_val hA h (.int _)⟩
    | _ => exact h.elim
  | str x => cases re with
    | str y =>
      have h2 : Post X.K W RepV ρ A σ H (if x.length + y.length ≤ line then .ok (.str (x ++ y)) A else .bad) Q := h
      by_cases z : x.length + y.length ≤ line
      · rw [if_pos z] at h2
        exact .inr (.inl ⟨x, y, rfl, rfl, by rw [← line_eq]; exact z, post_val hA h2 (.str _)⟩)
      · rw [if_neg z] at h2; exact h2.elim
    | _ => exact h.elim
  | @tup a vs xs q1 q2 => cases re with
    | @tup b us ys q3 q4 =>
      have h2 : Post X.K W RepV ρ A σ H (if xs.length + ys.length ≤ line then .ok (.tup (xs ++ ys)) A else .bad) Q := h
      by_cases z : xs.length + ys.length ≤ line
      · rw [if_pos z] at h2
        refine .inr (.inr (.inl ⟨a, b, vs, us, rfl, rfl, SqT.of q1, SqT.of q3, by rw [← q2.len, ← q4.len, ← line_eq]; exact z, fun e => ?_, fun _ e => ?_, fun _ _ p hp => post_tup hA h2 (q2.app q4) hp⟩))
        · subst e
          cases q2
          exact post_val hA h2 (.tup q3 q4)
        · subst e
          cases q4
          rw [List.append_nil] at h2
          exact post_val hA h2 (.tup q1 q2)
      · rw [if_neg z] at h2; exact h2.elim
    | _ => exact h.elim
  | @ref i hi => cases re with
    | @ref j hj =>
      have h2 : Post X.K W RepV ρ A σ H (lst2 A A[i]? A[j]?) Q := h
      cases e1 : A[i]? with
      | none => rw [e1] at h2; exact h2.elim
      | some o1 => cases e2 : A[j]? with
        | none => rw [e1, e2] at h2; cases o1 <;> exact h2.elim
        | some o2 =>
          rw [e1, e2] at h2
          cases o1 with
          | lst xs => cases o2 with
            | lst ys =>
              obtain ⟨vs, q1, q2⟩ := lst_at hA e1
              obtain ⟨us, q3, q4⟩ := lst_at hA e2
              have h3 : Post X.K W RepV ρ A σ H (if xs.length + ys.length ≤ line then .ok (.ref A.length) (A ++ [.lst (xs ++ ys)]) else .bad) Q := h2
              by_cases z : xs.length + ys.length ≤ line
              · rw [if_pos z] at h3
                exact .inr (.inr (.inr ⟨ρ i, ρ j, vs, us, rfl, rfl, q1, q3, by rw [← q2.len, ← q4.len, ← line_eq]; exact z, fun p hp => post_lst hA h3 (q2.app q4) hp⟩))
              · rw [if_neg z] at h3; exact h3.elim
            | _ => exact h2.elim
          | _ => exact h2.elim
    | _ => exact h.elim
  | _ => exact h.elim
theorem ok_sub : Ok2 X.K (rI0 fun i j => V.int (i - j)) opSub := fun W ρ A σ H d e v u Q hA rd re h => by
  cases rd with
  | int i => cases re with
    | int j => exact ⟨i, j, rfl, rfl, post_val hA h (.int _)⟩
    | _ => exact h.elim
  | _ => exact h.elim
def rMul3 (K : PySem.W.Frag) : R2 := fun x y H Q => (rI CMul (fun i j => V.int (i * j)) x y H Q) ∨ rRepT K x y H Q ∨ rRep x y H Q
theorem op_mul3 : OpR X (binaryOp .Mult) (rMul3 X.K) := OpR.or op_mul (OpR.or op_repT op_rep)
theorem rep_reps {ρ : Nat → Addr} {n : Nat} {H : Hp} {xs : List D} {vs : List V} (r : RepVs ρ n H xs vs) (k : Int) : RepVs ρ n H (rep k xs) (List.replicate k.toNat vs).flatten := by
  unfold rep
  induction k.toNat with
  | zero => exact .nil
  | succ m ih =>
    rw [List.replicate_succ, List.replicate_succ, List.flatten_cons, List.flatten_cons]
    exact r.app ih
theorem wide_of {i : Int} (h : tooWide i = false) : -(2 ^ 64) < i ∧ i < 2 ^ 64 := by
  unfold tooWide at h
  simp only [Bool.not_eq_false', Bool.and_eq_true, decide_eq_true_eq] at h
  exact h
theorem ok_mul : Ok2 X.K (rMul3 X.K) opMul := fun W ρ A σ H d e v u Q hA rd re h => by
  cases rd with
  | int i => cases re with
    | int j =>
      have h2 : Post X.K W RepV ρ A σ H (if (tooWide i && tooWide j) = true then .bad else .ok (.int (i * j)) A) Q := h
      by_cases z : (tooWide i && tooWide j) = true
      · rw [if_pos z] at h2; exact h2.elim
      · rw [if_neg z] at h2
        refine .inl ⟨i, j, rfl, rfl, ?_, post_val hA h2 (.int _)⟩
        cases y : tooWide i with
        | false => exact .inl (wide_of y)
        | true =>
          cases y2 : tooWide j with
          | false => exact .inr (wide_of y2)
          | true => rw [y, y2] at z; exact absurd rfl z
    | _ => exact h.elim
  | @tup a vs xs q1 q2 => cases re with
    | int k =>
      have h2 : Post X.K W RepV ρ A σ H (if xs ≠ [] ∧ 2 ≤ k ∧ k ≤ 1000 ∧ xs.length ≤ 1000 then .ok (.tup (rep k xs)) A else .bad) Q := h
      by_cases z : xs ≠ [] ∧ 2 ≤ k ∧ k ≤ 1000 ∧ xs.length ≤ 1000
      · rw [if_pos z] at h2
        refine .inr (.inl ⟨a, k, vs, rfl, rfl, SqT.of q1, fun e => ?_, z.2.1, z.2.2.1, by rw [← q2.len]; exact z.2.2.2, fun p hp => post_tup hA h2 (rep_reps q2 k) hp⟩)
        subst e
        cases q2
        exact z.1 rfl
      · rw [if_neg z] at h2; exact h2.elim
    | _ => exact h.elim
  | @ref i hi => cases re with
    | int k =>
      have h2 : Post X.K W RepV ρ A σ H (mulL A k A[i]?) Q := h
      cases e1 : A[i]? with
      | none => rw [e1] at h2; exact h2.elim
      | some o1 =>
        rw [e1] at h2
        cases o1 with
        | lst xs =>
          obtain ⟨vs, q1, q2⟩ := lst_at hA e1
          have h3 : Post X.K W RepV ρ A σ H (if -(2 ^ 63) ≤ k ∧ k < 2 ^ 63 then (if xs.length * k.toNat ≤ line then .ok (.ref A.length) (A ++ [.lst (rep k xs)]) else .bad) else .bad) Q := h2
          by_cases z : -(2 ^ 63) ≤ k ∧ k < 2 ^ 63
          · rw [if_pos z] at h3
            by_cases y : xs.length * k.toNat ≤ line
            · rw [if_pos y] at h3
              exact .inr (.inr ⟨ρ i, k, vs, rfl, rfl, q1, z.1, z.2, by rw [← q2.len, ← line_eq]; exact y, fun p hp => post_lst hA h3 (rep_reps q2 k) hp⟩)
            · rw [if_neg y] at h3; exact h3.elim
          · rw [if_neg z] at h3; exact h3.elim
        | _ => exact h2.elim
    | _ => exact h.elim
  | _ => exact h.elim
theorem ok_mod : Ok2 X.K (rI (fun _ j => j ≠ 0) fun i j => V.int (i.fmod j)) opMod := fun W ρ A σ H d e v u Q hA rd re h => by
  cases rd with
  | int i => cases re with
    | int j =>
      have h2 : Post X.K W RepV ρ A σ H (if j ≠ 0 then .ok (.int (i.fmod j)) A else .bad) Q := h
      by_cases z : j ≠ 0
      · rw [if_pos z] at h2; exact ⟨i, j, rfl, rfl, z, post_val hA h2 (.int _)⟩
      · rw [if_neg z] at h2; exact h2.elim
    | _ => exact h.elim
  | _ => exact h.elim
theorem ok_div : Ok2 X.K (rI CDivN fun i j => V.int (i.fdiv j)) opDiv := fun W ρ A σ H d e v u Q hA rd re h => by
  cases rd with
  | int i => cases re with
    | int j =>
      have h2 : Post X.K W RepV ρ A σ H (if j ≠ 0 ∧ j.natAbs < 1073741824 then .ok (.int (i.fdiv j)) A else .bad) Q := h
      by_cases z : j ≠ 0 ∧ j.natAbs < 1073741824
      · rw [if_pos z] at h2; exact ⟨i, j, rfl, rfl, z, post_val hA h2 (.int _)⟩
      · rw [if_neg z] at h2; exact h2.elim
    | _ => exact h.elim
  | _ => exact h.elim
theorem ok_pow : Ok2 X.K (rI CPow fun i j => V.int (i ^ j.toNat)) opPow := fun W ρ A σ H d e v u Q hA rd re h => by
  cases rd with
  | int i => cases re with
    | int j =>
      have h2 : Post X.K W RepV ρ A σ H (if 0 ≤ j ∧ j ≤ 1000000 ∧ i.natAbs < 2 ^ 64 then .ok (.int (i ^ j.toNat)) A else .bad) Q := h
      by_cases z : 0 ≤ j ∧ j ≤ 1000000 ∧ i.natAbs < 2 ^ 64
      · rw [if_pos z] at h2; exact ⟨i, j, rfl, rfl, z, post_val hA h2 (.int _)⟩
      · rw [if_neg z] at h2; exact h2.elim
    | _ => exact h.elim
  | _ => exact h.elim
theorem ok_neg : OkL X.K (fun vs H Q => ∃ v, vs = [v] ∧ rU (fun i => V.int (-i)) v H Q) opNeg := fun W ρ A σ H ds vs Q hA r h => by
  cases r with
  | nil => exact h.elim
  | cons r1 r2 => cases r2 with
    | cons _ _ => cases r1 <;> exact h.elim
    | nil => cases r1 with
      | int i => exact ⟨_, rfl, i, rfl, post_val hA h (.int _)⟩
      | _ => exact h.elim
theorem ok_lt : Ok2 X.K (rI0 fun i j => V.bl (decide (i < j))) opLt := fun W ρ A σ H d e v u Q hA rd re h => by
  cases rd with
  | int i => cases re with
    | int j => exact ⟨i, j, rfl, rfl, post_val hA h (.bl _)⟩
    | _ => exact h.elim
  | _ => exact h.elim
theorem ok_le : Ok2 X.K (rI0 fun i j => V.bl (decide (i ≤ j))) opLe := fun W ρ A σ H d e v u Q hA rd re h => by
  cases rd with
  | int i => cases re with
    | int j => exact ⟨i, j, rfl, rfl, post_val hA h (.bl _)⟩
    | _ => exact h.elim
  | _ => exact h.elim
theorem ok_gt : Ok2 X.K (rI0 fun i j => V.bl (decide (j < i))) opGt := fun W ρ A σ H d e v u Q hA rd re h => by
  cases rd with
  | int i => cases re with
    | int j => exact ⟨i, j, rfl, rfl, post_val hA h (.bl _)⟩
    | _ => exact h.elim
  | _ => exact h.elim
theorem ok_ge : Ok2 X.K (rI0 fun i j => V.bl (decide (j ≤ i))) opGe := fun W ρ A σ H d e v u Q hA rd re h => by
  cases rd with
  | int i => cases re with
    | int j => exact ⟨i, j, rfl, rfl, post_val hA h (.bl _)⟩
    | _ => exact h.elim
  | _ => exact h.elim
theorem isN_rep {ρ : Nat → Addr} {n : Nat} {H : Hp} {d : D} {v : V} (r : RepV ρ n H d v) : d.isN = decide (v = .non) := by
  cases r <;> first | rfl | exact (decide_eq_false (by intro z; cases z)).symm
theorem ok_is : Ok2 X.K (fun x y H Q => y = .non ∧ Q (.bl (decide (x = .non))) H) opIs := fun W ρ A σ H d e v u Q hA rd re h => by
  cases re with
  | non =>
    have h2 : Post X.K W RepV ρ A σ H (.ok (.bl d.isN) A) Q := h
    rw [isN_rep rd] at h2
    exact ⟨rfl, post_val hA h2 (.bl _)⟩
  | _ => exact h.elim
theorem ok_nis : Ok2 X.K (fun x y H Q => y = .non ∧ Q (.bl (!decide (x = .non))) H) opNis := fun W ρ A σ H d e v u Q hA rd re h => by
  cases re with
  | non =>
    have h2 : Post X.K W RepV ρ A σ H (.ok (.bl (!d.isN)) A) Q := h
    rw [isN_rep rd] at h2
    exact ⟨rfl, post_val hA h2 (.bl _)⟩
  | _ => exact h.elim

/-! ### equality -/
theorem allSome_get {α : Type} : ∀ {l : List (Option α)} {r : List α}, allSome l = some r → l = r.map some
  | [], r, h => by cases h; rfl
  | some a :: l, r, h => by
    have h' : (allSome l).map (a :: ·) = some r := h
    obtain ⟨r', e1, e2⟩ := Option.map_eq_some_iff.mp h'
    subst e2
    rw [allSome_get e1, List.map_cons]
  | none :: l, r, h => by cases h
theorem canLayAll_of {ps : List PyData} (h : ∀ p ∈ ps, p.canLay0 = true) : PyData.canLayAll0 ps = true := by
  induction ps with
  | nil => simp [PyData.canLayAll0]
  | cons p ps ih => simp [PyData.canLayAll0, h p List.mem_cons_self, ih fun q hq => h q (List.mem_cons_of_mem _ hq)]
theorem toPy_lay {A : AH} : ∀ {n : Nat} {d : D} {p : PyData}, toPy A n d = some p → p.canLay0 = true
  | 0, _, _, h => by simp [toPy] at h
  | n + 1, .non, p, h => by simp [toPy] at h; subst h; simp [PyData.canLay0]
  | n + 1, .bl b, p, h => by simp [toPy] at h; subst h; simp [PyData.canLay0]
  | n + 1, .int i, p, h => by simp [toPy] at h; subst h; simp [PyData.canLay0]
  | n + 1, .str x, p, h => by
    simp only [toPy] at h
    split at h
    · rename_i q; cases h; exact q
    · cases h
  | n + 1, .tup ds, p, h => by
    simp only [toPy] at h
    obtain ⟨ps, e1, e2⟩ := Option.map_eq_some_iff.mp h
    subst e2
    have q := allSome_get e1
    simp only [PyData.canLay0]
    refine canLayAll_of fun z hz => ?_
    have : some z ∈ ds.map (toPy A n) := by rw [q]; exact List.mem_map_of_mem hz
    obtain ⟨d, _, hd⟩ := List.mem_map.mp this
    exact toPy_lay hd
  | n + 1, .ref i, p, h => by
    simp only [toPy] at h
    cases e : seqAt A i with
    | none => rw [e] at h; cases h
    | some ds =>
      rw [e] at h
      obtain ⟨ps, e1, e2⟩ := Option.map_eq_some_iff.mp h
      subst e2
      have q := allSome_get e1
      simp only [PyData.canLay0]
      refine canLayAll_of fun z hz => ?_
      have : some z ∈ ds.map (toPy A n) := by rw [q]; exact List.mem_map_of_mem hz
      obtain ⟨d, _, hd⟩ := List.mem_map.mp this
      exact toPy_lay hd
theorem depthAll_of {n : Nat} {ps : List PyData} (h : ∀ p ∈ ps, p.depth ≤ n) : PyData.depthAll ps ≤ n := by
  induction ps with
  | nil => simp [PyData.depthAll]
  | cons p ps ih =>
    simp only [PyData.depthAll]
    exact Nat.max_le.mpr ⟨h p List.mem_cons_self, ih fun q hq => h q (List.mem_cons_of_mem _ hq)⟩
theorem toPy_depth {A : AH} : ∀ {n : Nat} {d : D} {p : PyData}, toPy A n d = some p → p.depth ≤ n
  | 0, _, _, h => by simp [toPy] at h
  | n + 1, .non, p, h => by simp [toPy] at h; subst h; simp [PyData.depth]
  | n + 1, .bl b, p, h => by simp [toPy] at h; subst h; simp [PyData.depth]
  | n + 1, .int i, p, h => by simp [toPy] at h; subst h; simp [PyData.depth]
  | n + 1, .str x, p, h => by
    simp only [toPy] at h
    split at h
    · cases h; simp [PyData.depth]
    · cases h
  | n + 1, .tup ds, p, h => by
    simp only [toPy] at h
    obtain ⟨ps, e1, e2⟩ := Option.map_eq_some_iff.mp h
    subst e2
    have q := allSome_get e1
    simp only [PyData.depth]
    refine Nat.succ_le_succ (depthAll_of fun z hz => ?_)
    have : some z ∈ ds.map (toPy A n) := by rw [q]; exact List.mem_map_of_mem hz
    obtain ⟨d, _, hd⟩ := List.mem_map.mp this
    exact toPy_depth hd
  | n + 1, .ref i, p, h => by
    simp only [toPy] at h
    cases e : seqAt A i with
    | none => rw [e] at h; cases h
    | some ds =>
      rw [e] at h
      obtain ⟨ps, e1, e2⟩ := Option.map_eq_some_iff.mp h
      subst e2
      have q := allSome_get e1
      simp only [PyData.depth]
      refine Nat.succ_le_succ (depthAll_of fun z hz => ?_)
      have : some z ∈ ds.map (toPy A n) := by rw [q]; exact List.mem_map_of_mem hz
      obtain ⟨d, _, hd⟩ := List.mem_map.mp this
      exact toPy_depth hd
theorem toPy_shaped {A : AH} {d : D} {p : PyData} (h : toPy A 60 d = some p) : SeqAt.shaped p = true := by
  unfold SeqAt.shaped
  rw [toPy_lay h, decide_eq_true (Nat.le_trans (toPy_depth h) (by decide))]
  rfl
theorem toPy_dpAll {K : PySem.W.Frag} {ρ : Nat → Addr} {A : AH} {H : Hp} {n : Nat} (f : ∀ (d : D) (v : V) (p : PyData), toPy A n d = some p → RepV ρ A.length H d v → Dp K H v p) : ∀ {ds : List D} {vs : List V} {ps : List PyData}, allSome (ds.map (toPy A n)) = some ps → RepVs ρ A.length H ds vs → DpAll K H vs ps
  | [], _, ps, h, .nil => by
    have e : ps = [] := by simpa [allSome] using h.symm
    subst e
    exact .nil
  | d :: ds, _, ps, h, .cons a b => by
    have q := allSome_get h
    cases ps with
    | nil => cases q
    | cons p ps =>
      rw [List.map_cons, List.map_cons] at q
      injection q with q1 q2
      refine .cons (f d _ p q1 a) (toPy_dpAll f (ds := ds) ?_ b)
      rw [List.map_cons, q1] at h
      obtain ⟨r, e1, e2⟩ := Option.map_eq_some_iff.mp (show (allSome (ds.map (toPy A n))).map (p :: ·) = some (p :: ps) from h)
      injection e2 with _ e3
      rw [e1, e3]
theorem toPy_dp {K : PySem.W.Frag} {ρ : Nat → Addr} {A : AH} {H : Hp} (hA : RepA K ρ H A) : ∀ (n : Nat) (d : D) (v : V) (p : PyData), toPy A n d = some p → RepV ρ A.length H d v → Dp K H v p
  | 0, _, _, _, h, _ => by simp [toPy] at h
  | n + 1, .non, _, p, h, .non => by simp [toPy] at h; subst h; exact .non
  | n + 1, .bl b, _, p, h, .bl _ => by simp [toPy] at h; subst h; exact .bl b
  | n + 1, .int i, _, p, h, .int _ => by simp [toPy] at h; subst h; exact .int i
  | n + 1, .str x, _, p, h, .str _ => by
    simp only [toPy] at h
    split at h
    · cases h; exact .str x
    · cases h
  | n + 1, .tup ds, _, p, h, .tup q1 q2 => by
    simp only [toPy] at h
    obtain ⟨ps, e1, e2⟩ := Option.map_eq_some_iff.mp h
    subst e2
    exact .tup (SqT.of q1) (toPy_dpAll (fun d v p => toPy_dp hA n d v p) e1 q2)
  | n + 1, .ref i, _, p, h, .ref hi => by
    simp only [toPy] at h
    cases e : seqAt A i with
    | none => rw [e] at h; cases h
    | some ds =>
      rw [e] at h
      obtain ⟨ps, e1, e2⟩ := Option.map_eq_some_iff.mp h
      subst e2
      obtain ⟨vs, q1, q2⟩ := hA.seq e
      exact .lst q1 (toPy_dpAll (fun d v p => toPy_dp hA n d v p) e1 q2)
theorem ok_eq : Ok2 X.K (rEqD X.K) opEq := fun W ρ A σ H d e v u Q hA rd re h => by
  have h2 : Post X.K W RepV ρ A σ H (eqO A id (toPy A 60 d) (toPy A 60 e)) Q := h
  cases e1 : toPy A 60 d with
  | none => rw [e1] at h2; exact h2.elim
  | some p => cases e2 : toPy A 60 e with
    | none => rw [e1, e2] at h2; exact h2.elim
    | some q =>
      rw [e1, e2] at h2
      exact ⟨p, q, toPy_dp hA 60 d v p e1 rd, toPy_dp hA 60 e u q e2 re, toPy_shaped e1, toPy_shaped e2, post_val hA h2 (.bl _)⟩
theorem ok_ne : Ok2 X.K (rNeD X.K) opNe := fun W ρ A σ H d e v u Q hA rd re h => by
  have h2 : Post X.K W RepV ρ A σ H (eqO A not (toPy A 60 d) (toPy A 60 e)) Q := h
  cases e1 : toPy A 60 d with
  | none => rw [e1] at h2; exact h2.elim
  | some p => cases e2 : toPy A 60 e with
    | none => rw [e1, e2] at h2; exact h2.elim
    | some q =>
      rw [e1, e2] at h2
      exact ⟨p, q, toPy_dp hA 60 d v p e1 rd, toPy_dp hA 60 e u q e2 re, toPy_shaped e1, toPy_shaped e2, post_val hA h2 (.bl _)⟩

/-! ### items, slices -/
theorem at_rep {ρ : Nat → Addr} {n : Nat} {H : Hp} {ds : List D} {vs : List V} {i : Int} {d : D} (r : RepVs ρ n H ds vs) (h : atD ds i = some d) : ∃ v, atI vs i = some v ∧ RepV ρ n H d v := by
  unfold atD at h
  obtain ⟨j, e1, e2⟩ := Option.bind_eq_some_iff.mp h
  obtain ⟨v, q1, q2⟩ := r.get e2
  refine ⟨v, ?_, q2⟩
  unfold atI
  rw [← r.len, show ixN ds.length i = some j from e1]
  exact q1
theorem ok_ix : Ok2 X.K (rIx X.K) opIx := fun W ρ A σ H d e v u Q hA rd re h => by
  cases rd with
  | @tup a vs xs q1 q2 => cases re with
    | int i =>
      have h2 : Post X.K W RepV ρ A σ H (okO A (atD xs i)) Q := h
      cases z : atD xs i with
      | none => rw [z] at h2; exact h2.elim
      | some c =>
        rw [z] at h2
        obtain ⟨w, w1, w2⟩ := at_rep q2 z
        exact .inr (.inl ⟨a, vs, i, w, rfl, rfl, SqT.of q1, w1, post_val hA h2 w2⟩)
    | _ => exact h.elim
  | @ref j hj => cases re with
    | int i =>
      have h2 : Post X.K W RepV ρ A σ H (atS A i (seqAt A j)) Q := h
      cases y : seqAt A j with
      | none => rw [y] at h2; exact h2.elim
      | some xs =>
        rw [y] at h2
        have h3 : Post X.K W RepV ρ A σ H (okO A (atD xs i)) Q := h2
        obtain ⟨vs, q1, q2⟩ := hA.seq y
        cases z : atD xs i with
        | none => rw [z] at h3; exact h3.elim
        | some c =>
          rw [z] at h3
          obtain ⟨w, w1, w2⟩ := at_rep q2 z
          exact .inl ⟨ρ j, vs, i, w, rfl, rfl, q1, w1, post_val hA h3 w2⟩
    | _ => exact h.elim
  | _ => cases re <;> exact h.elim
theorem ok_set : OkSt X.K rSetL stIx := fun ρ A H x y d u v w B Q hA rx ry rd e hq => by
  cases rx with
  | @ref i hi => cases ry with
    | int j =>
      have e' : setO i j d A A[i]? = some B := e
      cases z : A[i]? with
      | none => rw [z] at e'; cases e'
      | some o =>
        rw [z] at e'
        cases o with
        | lst ds =>
          obtain ⟨k, e1, e2⟩ := Option.map_eq_some_iff.mp (show (ixD ds.length j).map (fun k => A.set i (.lst (ds.set k d))) = some B from e')
          subst e2
          obtain ⟨vs, q1, q2⟩ := lst_at hA z
          exact ⟨ρ i, vs, j, k, rfl, rfl, q1, by rw [← q2.len]; exact e1, hq _ (Nxt.set hA z rfl rfl fun ex => ⟨_, upd_same, (q2.set rd k).ext ex⟩)⟩
        | _ => cases e'
    | _ => cases e
  | _ => cases ry <;> cases e
theorem sIx_eq (n d : Nat) (o : Option Int) : sIxD n d o = HT.sIx n d o := by cases o <;> rfl
theorem cut_rep {ρ : Nat → Addr} {n : Nat} {H : Hp} {ds : List D} {vs : List V} {lo hi : Option Int} (r : RepVs ρ n H ds vs) : RepVs ρ n H (cutD ds lo hi) (cutV vs lo hi) := by
  unfold cutD cutV
  rw [r.len, sIx_eq, sIx_eq]
  exact (r.drop _).take _
theorem cutV_whole {vs : List V} {lo hi : Option Int} (h : HT.sIx vs.length 0 lo = 0 ∧ HT.sIx vs.length vs.length hi = vs.length) : cutV vs lo hi = vs := by
  unfold cutV
  rw [h.1, h.2, List.drop_zero, Nat.sub_zero, List.take_length]
/-- what a slice's part is -/
def relP : (Nat → Addr) → Nat → Hp → Option Int → Option Int → Prop := fun _ _ _ a b => a = b
def tP (K : PySem.W.Frag) (W : WX) (m : Px) : TO := fun σ H Q => ∃ ρ E A, RepE ρ A.length H E σ ∧ RepA K ρ H A ∧ Post K W relP ρ A σ H (m E A) Q
def RP (X : Cx) (W : WX) (e : Option Expr) (m : Px) : Prop := PO X e (tP X.K W m)
theorem PO.imp {e : Option Expr} {t t' : TO} (h : PO X e t) (hh : ∀ σ H Q, t' σ H Q → t σ H Q) : PO X e t' := ⟨fun pins s σ H Q I q => h.run pins s σ H Q I (hh σ H Q q)⟩
variable {W : WX} {pos p2 : Pos} {e : Expr} {me : Ex}
theorem rp_none : RP X W none pNone := PO.imp po_none fun σ H Q ⟨ρ, E, A, hE, hA, h⟩ => h ρ none H (.refl hA) rfl
theorem rp_some (he : RE X W e me) : RP X W (some e) (pSome me) := PO.imp (po_some he) fun σ H Q ⟨ρ, E, A, hE, hA, h⟩ => ⟨ρ, E, A, hE, hA, Post.bind h fun ρ1 d B v H1 n1 r1 h1 => by
  cases r1 with
  | int i => exact ⟨i, rfl, h1 ρ1 _ H1 (.refl n1.rep) rfl⟩
  | _ => exact h1.elim⟩
theorem re_sl {lo hi : Option Expr} {ml mh : Px} (he : RE X W e me) (hl : RP X W lo ml) (hh : RP X W hi mh) : RE X W (.Subscript e (.Slice lo hi none p2) pos) (eSl me ml mh) := by
  refine PE.imp (pe_slice (SlR.or sl_tupA sl_list) he hl hh) fun σ H Q ⟨ρ, E, A, hE, hA, h⟩ => ⟨ρ, E, A, hE, hA, Post.bind h fun ρ1 d B v H1 n1 r1 h1 => ?_⟩
  refine ⟨ρ1, E, B, hE.ext n1.ext, n1.rep, Post.bind h1 fun ρ2 l C l' H2 n2 r2 h2 => ?_⟩
  have r2' : l = l' := r2
  subst r2'
  refine ⟨ρ2, E, C, hE.ext (n1.ext.trans n2.ext), n2.rep, Post.bind h2 fun ρ3 u G u' H3 n3 r3 h3 => ?_⟩
  have r3' : u = u' := r3
  subst r3'
  have h4 : Post X.K W RepV ρ3 G σ H3 (opSl l u G d) Q := h3
  cases r1.ext (n2.ext.trans n3.ext) with
  | @tup a vs ds q1 q2 =>
    refine .inl ⟨a, vs, rfl, SqT.of q1, fun z => post_val n3.rep h4 (.tup q1 ?_), fun _ p hp => post_tup n3.rep h4 (cut_rep q2) hp⟩
    have q := cut_rep (lo := l) (hi := u) q2
    rw [cutV_whole z] at q
    exact q
  | @ref i hi =>
    have h5 : Post X.K W RepV ρ3 G σ H3 (cutS G l u (seqAt G i)) Q := h4
    cases z : seqAt G i with
    | none => rw [z] at h5; exact h5.elim
    | some ds =>
      rw [z] at h5
      obtain ⟨vs, q1, q2⟩ := n3.rep.seq z
      exact .inr ⟨ρ3 i, vs, rfl, q1, fun p hp => post_lst n3.rep h5 (cut_rep q2) hp⟩
  | _ => exact h4.elim
/-! ### built-in functions -/
theorem one_of {K : PySem.W.Frag} {W : WX} {ρ : Nat → Addr} {A : AH} {σ : Sl} {H : Hp} {Q : VK} {F : Fn} {ds : List D} {vs : List V} (h1 : ∀ A, F [] A = .bad) (h2 : ∀ d e r A, F (d :: e :: r) A = .bad) (r : RepVs ρ A.length H ds vs) (h : Post K W RepV ρ A σ H (F ds A) Q) : ∃ d v, ds = [d] ∧ vs = [v] ∧ RepV ρ A.length H d v := by
  cases r with
  | nil => rw [h1] at h; exact h.elim
  | cons a b => cases b with
    | nil => exact ⟨_, _, rfl, rfl, a⟩
    | cons _ _ => rw [h2] at h; exact h.elim
theorem ok_len : OkL X.K (fun xs H Q => ∃ p ys, xs = [.ref p] ∧ (SqL X.K H p ys ∨ SqT X.K H p ys) ∧ Q (.int ys.length) H) biLen := fun W ρ A σ H ds vs Q hA r h => by
  obtain ⟨d, v, e1, e2, rd⟩ := one_of (F := biLen) (fun _ => rfl) (fun d e r A => by cases d <;> rfl) r h
  subst e1 e2
  cases rd with
  | @tup a vs xs q1 q2 =>
    have h2 : Post X.K W RepV ρ A σ H (.ok (.int xs.length) A) Q := h
    rw [q2.len] at h2
    exact ⟨a, vs, rfl, .inr (SqT.of q1), post_val hA h2 (.int _)⟩
  | @ref i hi =>
    have h2 : Post X.K W RepV ρ A σ H (lenS A A[i]?) Q := h
    have key : ∀ xs, seqAt A i = some xs → Post X.K W RepV ρ A σ H (.ok (.int xs.length) A) Q → ∃ p ys, [V.ref (ρ i)] = [.ref p] ∧ (SqL X.K H p ys ∨ SqT X.K H p ys) ∧ Q (.int ys.length) H := fun xs z h3 => by
      obtain ⟨us, q1, q2⟩ := hA.seq z
      rw [q2.len] at h3
      exact ⟨ρ i, us, rfl, .inl q1, post_val hA h3 (.int _)⟩
    cases z : A[i]? with
    | none => rw [z] at h2; exact h2.elim
    | some o =>
      rw [z] at h2
      cases o with
      | lst xs => exact key xs (by unfold seqAt; rw [z]; rfl) h2
      | rol xs => exact key xs (by unfold seqAt; rw [z]; rfl) h2
      | _ => exact h2.elim
  | _ => exact h.elim
theorem ok_list : OkL X.K (fun xs H Q => ∃ p ys, xs = [.ref p] ∧ (SqL X.K H p ys ∨ SqT X.K H p ys) ∧ ∀ l, H l = none → Q (.ref l) (upd H l (.lst ys))) biList := fun W ρ A σ H ds vs Q hA r h => by
  obtain ⟨d, v, e1, e2, rd⟩ := one_of (F := biList) (fun _ => rfl) (fun d e r A => by cases d <;> rfl) r h
  subst e1 e2
  cases rd with
  | @tup a vs xs q1 q2 => exact ⟨a, vs, rfl, .inr (SqT.of q1), fun l hl => post_lst hA h q2 hl⟩
  | @ref i hi =>
    have h2 : Post X.K W RepV ρ A σ H (toLst A (seqAt A i)) Q := h
    cases z : seqAt A i with
    | none => rw [z] at h2; exact h2.elim
    | some xs =>
      rw [z] at h2
      obtain ⟨us, q1, q2⟩ := hA.seq z
      exact ⟨ρ i, us, rfl, .inl q1, fun l hl => post_lst hA h2 q2 hl⟩
  | _ => exact h.elim
theorem ok_tuple : OkL X.K (fun xs H Q => ∃ p ys, xs = [.ref p] ∧ ((SqL X.K H p ys ∧ ∀ l, H l = none → Q (.ref l) (upd H l (.tup ys))) ∨ (SqT X.K H p ys ∧ Q (.ref p) H))) biTuple := fun W ρ A σ H ds vs Q hA r h => by
  obtain ⟨d, v, e1, e2, rd⟩ := one_of (F := biTuple) (fun _ => rfl) (fun d e r A => by cases d <;> rfl) r h
  subst e1 e2
  cases rd with
  | @tup a vs xs q1 q2 => exact ⟨a, vs, rfl, .inr ⟨SqT.of q1, post_val hA h (.tup q1 q2)⟩⟩
  | @ref i hi =>
    have h2 : Post X.K W RepV ρ A σ H (toTup A (seqAt A i)) Q := h
    cases z : seqAt A i with
    | none => rw [z] at h2; exact h2.elim
    | some xs =>
      rw [z] at h2
      obtain ⟨us, q1, q2⟩ := hA.seq z
      exact ⟨ρ i, us, rfl, .inl ⟨q1, fun l hl => post_tup hA h2 q2 hl⟩⟩
  | _ => exact h.elim
theorem ok_int : OkL X.K (fun xs H Q => (∃ i, xs = [V.int i] ∧ Q (.int i) H) ∨ ∃ k, xs = [V.bl k] ∧ Q (.int (if k then 1 else 0)) H) biInt := fun W ρ A σ H ds vs Q hA r h => by
  obtain ⟨d, v, e1, e2, rd⟩ := one_of (F := biInt) (fun _ => rfl) (fun d e r A => by cases d <;> rfl) r h
  subst e1 e2
  cases rd with
  | int i => exact .inl ⟨i, rfl, post_val hA h (.int _)⟩
  | bl b => exact .inr ⟨b, rfl, post_val hA h (.int _)⟩
  | _ => exact h.elim
theorem ok_abs : OkL X.K (fun xs H Q => ∃ i, xs = [V.int i] ∧ Q (.int (if i < 0 then -i else i)) H) biAbs := fun W ρ A σ H ds vs Q hA r h => by
  obtain ⟨d, v, e1, e2, rd⟩ := one_of (F := biAbs) (fun _ => rfl) (fun d e r A => by cases d <;> rfl) r h
  subst e1 e2
  cases rd with
  | int i => exact ⟨i, rfl, post_val hA h (.int _)⟩
  | _ => exact h.elim
theorem ints_repm {ρ : Nat → Addr} {n : Nat} {H : Hp} : ∀ {ds : List D} {vs : List V} {ns : List Int}, ds.map D.int? = ns.map some → RepVs ρ n H ds vs → vs = ns.map V.int
  | [], _, ns, q, .nil => by
    cases ns with
    | nil => rfl
    | cons _ _ => cases q
  | d :: ds, _, ns, q, .cons a b => by
    cases ns with
    | nil => cases q
    | cons c cs =>
      rw [List.map_cons, List.map_cons] at q
      injection q with q1 q2
      rw [ints_repm q2 b, List.map_cons]
      cases a <;> cases q1
      rfl
theorem ints_rep {ρ : Nat → Addr} {n : Nat} {H : Hp} {ds : List D} {vs : List V} {ns : List Int} (h : intsOf ds = some ns) (r : RepVs ρ n H ds vs) : vs = ns.map V.int := ints_repm (allSome_get h) r
theorem bls_rep {ρ : Nat → Addr} {n : Nat} {H : Hp} : ∀ {ds : List D} {vs : List V} {bs : List Bool}, ds.map D.bl? = bs.map some → RepVs ρ n H ds vs → vs = bs.map V.bl
  | [], _, bs, q, .nil => by
    cases bs with
    | nil => rfl
    | cons _ _ => cases q
  | d :: ds, _, bs, q, .cons a b => by
    cases bs with
    | nil => cases q
    | cons c cs =>
      rw [List.map_cons, List.map_cons] at q
      injection q with q1 q2
      rw [bls_rep q2 b, List.map_cons]
      cases a <;> cases q1
      rfl
theorem maxI_ge (m : Int) : ∀ ns : List Int, m ≤ maxI m ns ∧ ∀ y ∈ ns, y ≤ maxI m ns := by
  intro ns
  induction ns generalizing m with
  | nil => exact ⟨Int.le_refl _, fun _ h => by cases h⟩
  | cons n ns ih =>
    obtain ⟨h1, h2⟩ := ih (max m n)
    refine ⟨Int.le_trans (Int.le_max_left m n) h1, fun y hy => ?_⟩
    rcases List.mem_cons.mp hy with e | hy
    · subst e; exact Int.le_trans (Int.le_max_right m y) h1
    · exact h2 y hy
theorem maxI_mem (m : Int) : ∀ ns : List Int, maxI m ns = m ∨ maxI m ns ∈ ns := by
  intro ns
  induction ns generalizing m with
  | nil => exact .inl rfl
  | cons n ns ih =>
    rcases ih (max m n) with e | e
    · have e' : maxI m (n :: ns) = max m n := e
      rw [e']
      by_cases z : m ≤ n
      · rw [Int.max_eq_right z]; exact .inr List.mem_cons_self
      · rw [Int.max_eq_left (by omega)]; exact .inl rfl
    · exact .inr (List.mem_cons_of_mem _ e)
theorem ok_max : OkL X.K (rMax X.K) biMax := fun W ρ A σ H ds vs Q hA r h => by
  obtain ⟨d, v, e1, e2, rd⟩ := one_of (F := biMax) (fun _ => rfl) (fun d e r A => by cases d <;> rfl) r h
  subst e1 e2
  cases rd with
  | @ref i hi =>
    have h2 : Post X.K W RepV ρ A σ H (maxO A ((seqAt A i).bind intsOf)) Q := h
    cases z : seqAt A i with
    | none => rw [z] at h2; exact h2.elim
    | some xs =>
      rw [z] at h2
      have h3 : Post X.K W RepV ρ A σ H (maxO A (intsOf xs)) Q := h2
      obtain ⟨us, q1, q2⟩ := hA.seq z
      cases y : intsOf xs with
      | none => rw [y] at h3; exact h3.elim
      | some ns =>
        rw [y] at h3
        cases ns with
        | nil => exact h3.elim
        | cons n ns =>
          rw [ints_rep y q2] at q1
          have q := post_val hA (show Post X.K W RepV ρ A σ H (.ok (.int (maxI n ns)) A) Q from h3) (.int _)
          refine ⟨ρ i, n :: ns, rfl, q1, Nat.succ_pos _, fun m hm hle => ?_⟩
          have e : m = maxI n ns := by
            have a1 := maxI_ge n ns
            have b1 : m ≤ maxI n ns := by
              rcases List.mem_cons.mp hm with e | e
              · rw [e]; exact a1.1
              · exact a1.2 m e
            have b2 : maxI n ns ≤ m := by
              rcases maxI_mem n ns with e | e
              · rw [e]; exact hle n List.mem_cons_self
              · exact hle _ (List.mem_cons_of_mem _ e)
            omega
          rw [e]
          exact q
  | _ => exact h.elim
theorem ok_all : OkL X.K (rAll X.K) biAll := fun W ρ A σ H ds vs Q hA r h => by
  obtain ⟨d, v, e1, e2, rd⟩ := one_of (F := biAll) (fun _ => rfl) (fun d e r A => by cases d <;> rfl) r h
  subst e1 e2
  cases rd with
  | @ref i hi =>
    have h2 : Post X.K W RepV ρ A σ H (allO A ((seqAt A i).bind blsOf)) Q := h
    cases z : seqAt A i with
    | none => rw [z] at h2; exact h2.elim
    | some xs =>
      rw [z] at h2
      have h3 : Post X.K W RepV ρ A σ H (allO A (blsOf xs)) Q := h2
      obtain ⟨us, q1, q2⟩ := hA.seq z
      cases y : blsOf xs with
      | none => rw [y] at h3; exact h3.elim
      | some bs =>
        rw [y] at h3
        rw [bls_rep (allSome_get y) q2] at q1
        exact ⟨ρ i, bs, rfl, q1, post_val hA h3 (.bl _)⟩
  | _ => exact h.elim
theorem ok_any : OkL X.K (rAny X.K) biAny := fun W ρ A σ H ds vs Q hA r h => by
  obtain ⟨d, v, e1, e2, rd⟩ := one_of (F := biAny) (fun _ => rfl) (fun d e r A => by cases d <;> rfl) r h
  subst e1 e2
  cases rd with
  | @ref i hi =>
    have h2 : Post X.K W RepV ρ A σ H (anyO A ((seqAt A i).bind blsOf)) Q := h
    cases z : seqAt A i with
    | none => rw [z] at h2; exact h2.elim
    | some xs =>
      rw [z] at h2
      have h3 : Post X.K W RepV ρ A σ H (anyO A (blsOf xs)) Q := h2
      obtain ⟨us, q1, q2⟩ := hA.seq z
      cases y : blsOf xs with
      | none => rw [y] at h3; exact h3.elim
      | some bs =>
        rw [y] at h3
        rw [bls_rep (allSome_get y) q2] at q1
        exact ⟨ρ i, bs, rfl, q1, post_val hA h3 (.bl _)⟩
  | _ => exact h.elim
theorem ok_sum : OkL X.K (rSum X.K) biSum := fun W ρ A σ H ds vs Q hA r h => by
  obtain ⟨d, v, e1, e2, rd⟩ := one_of (F := biSum) (fun _ => rfl) (fun d e r A => by cases d <;> rfl) r h
  subst e1 e2
  cases rd with
  | @ref i hi =>
    have h2 : Post X.K W RepV ρ A σ H (sumO A ((seqAt A i).bind intsOf)) Q := h
    cases z : seqAt A i with
    | none => rw [z] at h2; exact h2.elim
    | some xs =>
      rw [z] at h2
      have h3 : Post X.K W RepV ρ A σ H (sumO A (intsOf xs)) Q := h2
      obtain ⟨us, q1, q2⟩ := hA.seq z
      cases y : intsOf xs with
      | none => rw [y] at h3; exact h3.elim
      | some ns =>
        rw [y] at h3
        rw [ints_rep y q2] at q1
        exact ⟨ρ i, ns, rfl, q1, post_val hA h3 (.int _)⟩
  | _ => exact h.elim
end
end DL
set_option Elab.async false
set_option linter.all false
set_option maxRecDepth 100000
set_option maxHeartbeats 4000000
/-! Further constructs (own work). -/
namespace DL
open PySem PySem.Spec PyProof.Rows L2
section
variable {X : Cx} {W : WX} {k : Nat} {pos p : Pos} {e : Expr} {es : List Expr} {me mo : Ex} {mr : Ax}
/-! ### stars in displays -/
theorem keyD_repV {ρ : Nat → Addr} {n : Nat} {H : Hp} {d : D} {k : Key} (h : keyD d = some k) : RepV ρ n H d (kV k) := by
  cases d with
  | int i => cases h; exact .int i
  | str x => cases h; exact .str x
  | _ => cases h
theorem repK_keys {ρ : Nat → Addr} {n : Nat} {H : Hp} : ∀ {fs : List (D × D)} {gs : List (Key × V)}, RepK keyD ρ n H fs gs → RepVs ρ n H (fs.map (·.1)) (gs.map fun kv => kV kv.1)
  | [], _, .nil => .nil
  | _ :: _, _, .cons a b c => .cons (keyD_repV a) (repK_keys c)
theorem kdl_iadd {prog : Program} {w : World} {A : Around} {s : Shared} {T : String} {r d : Addr} {n : Nat} {P : Nat → Value → Prop} {OK : Heap → Prop} {R : Result → Shared → Prop} (K : PySem.W.KdlSrc prog w T r d n P OK) (hh : A.handled = none) (hok : OK s.heap) (S : Addr) (hSr : S ≠ r) (hSd : S ≠ d) (c₀ : Nat) (hS : s.heap.get? S = some { cls := .type "list", data := .seq #[] c₀ })
    (hR : ∀ h' tk acc' c', (∀ b o, b ≠ S → s.heap.get? b = some o → h'.get? b = some o) → h'.get? S = some { cls := .type "list", dict := none, data := .seq acc' c', slots := #[] } → ItemsOf P acc' n → R (.ok (.ret (.ref S))) { s with heap := h', toks := tk }) (hn : n ≤ sizeLine) :
    codeAny (model prog w) A (.builtin "list.__iadd__" ⟨[.ref S, .ref r], []⟩) R s := by
  refine codeAny_builtin PySem.F.entry_list_iadd ?_
  rw [Around.under_plainId PySem.F.plain_list_iadd _]
  exact PySem.W.kdl_extend K hh hok S hSr hSd (.ref S) c₀ hS hR hn
/-- what a dict, a view gives when it is collected -/
theorem kdl_collect {prog : Program} {w : World} {A : Around} {E : Value → Shared → Prop} {s : Shared} {T : String} {r d : Addr} {n : Nat} {P : Nat → Value → Prop} {OK : Heap → Prop} {Q : List Value → Shared → Prop} (K : PySem.W.KdlSrc prog w T r d n P OK) (hh : A.handled = none) (hok : OK s.heap) (hn : n ≤ sizeLine)
    (hQ : ∀ h' tk acc', (∀ b o, s.heap.get? b = some o → h'.get? b = some o) → ItemsOf P acc' n → Q acc'.toList { s with heap := h', toks := tk }) : wpAny (model prog w) A (collect (.ref r)) Q E s := by
  have hlt := K.there _ hok
  unfold collect
  refine wpAny_bind (wpAny_runValue (codeAny_builtin PySem.F.entry_proto_collect ?_))
  rw [Around.under_plainId PySem.F.plain_proto_collect _]
  show wpAny _ A.in1 (newList [] >>= fun l => again (.builtin "list.__iadd__" ⟨[l, .ref r], []⟩)) _ _ s
  refine wpAny_bind (wpAny_newObj_type ?_)
  refine wpAny_pure ⟨plainId_quiet PySem.F.plain_list_iadd _, kdl_iadd K hh (K.keep s.heap _ hok fun b _ o e => Heap.get?_push_of_some _ e) _ (Nat.ne_of_gt hlt.1) (Nat.ne_of_gt hlt.2) 0 (Heap.get?_push_size _ rfl) (fun h' tk acc' c' hk hS' hacc => ?_) hn⟩
  show wpAny _ A (load s.heap.objs.size >>= _) _ _ _
  refine wpAny_bind (wpAny_load hS' ?_)
  exact wpAny_pure (hQ h' tk acc' (fun b o e => hk b o (Nat.ne_of_lt (Heap.lt_size e)) (Heap.get?_push_of_some _ e)) hacc)
theorem ra_star (cx : X.calm = true) (he : RE X W e me) (hr : RA X W es mr) (hs : starEach (.Starred e p :: es) X.env = (true, eval e X.env) :: starEach es X.env := by rfl) : RA X W (.Starred e p :: es) (aStar me mr) := by
  refine ⟨fun pos pins s σ H Q I ⟨ρ, E, A, hE, hA, h⟩ => ?_⟩
  have q := he.run pins s σ H _ I ⟨ρ, E, A, hE, hA, Post.bind h fun ρ1 d B v H1 n1 r1 h1 => (⟨ρ1, d, B, n1, r1, h1⟩ : ∃ ρ1 d B, Nxt X.K ρ A H ρ1 B H1 ∧ RepV ρ1 B.length H1 d v ∧ Post X.K W RepVs ρ1 B σ H1 (kStar mr E d B) Q)⟩
  refine PySem.W.items_star (thn q fun u s1 ⟨v, H1, I1, rv, ρ1, d, B, n1, r1, h1⟩ => ?_) hs
  have fin : ∀ (ds : List D) (vs : List V) (us : List Value) (a : Addr) (T : String) (o : Obj) (n : Nat), u = .ref a → T = "list" ∨ T = "tuple" → s1.heap.get? a = some o → o.cls = .type T → o.data = .seq us.toArray n → us.length ≤ sizeLine → Vals vs us → RepVs ρ1 B.length H1 ds vs →
      Post X.K W RepVs ρ1 B σ H1 ((mr E B).bind (kStar2 ds)) Q →
      PySem.W.StarOf (model X.prog X.w) X.A X.xe u (fun here s₂ => wpAny (model X.prog X.w) X.A (spliced (backTo pos (starEach es X.env))) (fun vs s₃ => AP X pins σ Q (here ++ vs) s₃) X.xe s₂) s1 := by
    intro ds vs us a T o n eu hT ho hc hd hz hv rd hp
    subst eu
    have hty : s1.TypeIs (.ref a) T := ⟨o, ho, hc⟩
    have z : wpAny (model X.prog X.w) X.A (collect (.ref a)) (fun here s₂ => wpAny (model X.prog X.w) X.A (spliced (backTo pos (starEach es X.env))) (fun vs s₃ => AP X pins σ Q (here ++ vs) s₃) X.xe s₂) X.xe s1 := by
      refine wpAny_collect_seq a hT ho hc hd (fun h' hk => ?_) (by simpa using hz)
      have I2 : Inv X pins σ H1 { s1 with heap := h' } := I1.kept (t' := s1.toks) hk
      have q2 := hr.run pos pins _ σ H1 _ I2 ⟨ρ1, E, B, hE.ext n1.ext, n1.rep, Post.bind hp fun ρ2 xs C ws H2 n2 r2 h2 => (⟨ρ2, xs, C, n2, r2, h2⟩ : ∃ ρ2 xs C, Nxt X.K ρ1 B H1 ρ2 C H2 ∧ RepVs ρ2 C.length H2 xs ws ∧ Post X.K W RepVs ρ2 C σ H2 (kStar2 ds xs C) Q)⟩
      refine thn q2 fun ws s3 ⟨wv, H2, I3, rw', ρ2, xs, C, n2, r2, h2⟩ => ?_
      exact ⟨vs ++ wv, H2, I3, by simpa using hv.append rw', h2 ρ2 _ H2 (.refl n2.rep) ((rd.ext n2.ext).app r2)⟩
    unfold PySem.W.StarOf notIterableAtAll
    rcases hT with rfl | rfl
    · exact wpAny_bind (wpAny_specialOf hty PySem.F.slot_list_iter.lookup (wpAny_pure ⟨rfl, z⟩))
    · exact wpAny_bind (wpAny_specialOf hty PySem.F.slot_tuple_iter.lookup (wpAny_pure ⟨rfl, z⟩))
  cases r1 with
  | @tup a vs ds q1 q2 =>
    obtain rfl : u = Value.ref a := rv
    obtain ⟨its, r, ⟨o, ho, hc, n, hd⟩, hz⟩ := I1.tuple (SqT.of q1)
    exact fin ds vs its a "tuple" o n rfl (.inr rfl) ho hc hd (by rw [← r.length]; exact hz) r q2 h1
  | @ref i hi =>
    obtain rfl : u = Value.ref (ρ1 i) := rv
    have h2 : Post X.K W RepVs ρ1 B σ H1 ((itemsO B (seqStar B[i]?)).bind (kStar1 mr E)) Q := h1
    have lst : ∀ ds, seqAt B i = some ds → Post X.K W RepVs ρ1 B σ H1 ((itemsO B (some ds)).bind (kStar1 mr E)) Q → PySem.W.StarOf (model X.prog X.w) X.A X.xe (.ref (ρ1 i)) (fun here s₂ => wpAny (model X.prog X.w) X.A (spliced (backTo pos (starEach es X.env))) (fun vs s₃ => AP X pins σ Q (here ++ vs) s₃) X.xe s₂) s1 := fun ds z h3 => by
      obtain ⟨vs, q1, q2⟩ := n1.rep.seq z
      obtain ⟨its, r, ⟨o, n, ho, hc, _, hd⟩, hz⟩ := I1.list q1
      exact fin ds vs its (ρ1 i) "list" o n rfl (.inl rfl) ho hc hd (by rw [← r.length]; exact hz) r q2 h3
    cases z : B[i]? with
    | none => rw [z] at h2; exact h2.elim
    | some ob =>
      rw [z] at h2
      cases ob with
      | lst ds => exact lst ds (by unfold seqAt; rw [z]; rfl) h2
      | rol ds => exact lst ds (by unfold seqAt; rw [z]; rfl) h2
      | dic kvs =>
        obtain ⟨gs, q1, q2⟩ := n1.rep.objs i _ z
        have h3 : Post X.K W RepVs ρ1 B σ H1 ((mr E B).bind (kStar2 (kvs.map (·.1)))) Q := h2
        obtain ⟨zz, lo, vs, rk, hd⟩ := (show ObjOk X.prog X.w H1 s1.heap (ρ1 i) (.dK gs) from I1.hok (ρ1 i) _ q1)
        obtain ⟨ep, hat⟩ := hd.dictAt
        have hl : gs.length = vs.length := Paired.length rk
        unfold PySem.W.StarOf notIterableAtAll
        refine wpAny_bind (wpAny_specialOf hd.typeIs PySem.F.slot_dict_iter.lookup (wpAny_pure ⟨rfl, ?_⟩))
        refine kdl_collect (PySem.W.kdl_dict (knd := mixKind X.prog X.w) (kvs := vs) (ep := ep) lo) (I1.ok.hd cx) hat (by rw [← hl]; exact zz) fun h' tk acc' hkeep hacc => ?_
        have I2 : Inv X pins σ H1 { s1 with heap := h', toks := tk } := I1.kept (t' := tk) hkeep
        have q3 := hr.run pos pins _ σ H1 _ I2 ⟨ρ1, E, B, hE.ext n1.ext, n1.rep, Post.bind h3 fun ρ2 xs C ws H2 n2 r2 h2 => (⟨ρ2, xs, C, n2, r2, h2⟩ : ∃ ρ2 xs C, Nxt X.K ρ1 B H1 ρ2 C H2 ∧ RepVs ρ2 C.length H2 xs ws ∧ Post X.K W RepVs ρ2 C σ H2 (kStar2 (kvs.map (·.1)) xs C) Q)⟩
        have hv : Vals (gs.map fun kv => kV kv.1) acc'.toList := by
          have el : acc'.toList.length = acc'.size := by simp
          refine vals_of_at (by rw [List.length_map, el, hacc.1, hl]) fun j x w h1 h2 => ?_
          obtain ⟨k, y, hky, hi⟩ := hacc.2 j w (by rw [← Array.getElem?_toList]; exact h2)
          have e1 : (gs.map (·.1))[j]? = some k := by
            rw [KV.keys rk, List.getElem?_map, hky] <;> rfl
          have e2 : (gs.map fun kv => kV kv.1)[j]? = some (kV k) := by
            have e3 : (gs.map fun kv => kV kv.1) = (gs.map (·.1)).map kV := by rw [List.map_map] <;> rfl
            rw [e3, List.getElem?_map, e1] <;> rfl
          rw [e2] at h1
          cases h1
          exact keyIs_rel hi
        refine thn q3 fun ws s3 ⟨wv, H2, I3, rw', ρ2, xs, C, n2, r2, h2⟩ => ?_
        exact ⟨(gs.map fun kv => kV kv.1) ++ wv, H2, I3, hv.append rw', h2 ρ2 _ H2 (.refl n2.rep) ((repK_keys (q2.ext n2.ext)).app r2)⟩
      | _ => exact h2.elim
  | _ => exact h1.elim
/-! ### xs[i] op= e -/
theorem get_list : PGet X (rIxL X.K) := by
  intro pins s σ H x y v u Q I rx ry h
  obtain ⟨a, xs, i, z, rfl, rfl, hq, he, q⟩ := h
  cases rx
  obtain ⟨t, rfl⟩ := ry
  obtain ⟨its, r, pl, hz⟩ := I.list hq
  obtain ⟨j, h1, h2, h3, h4, h5⟩ := atI_get he
  obtain ⟨w, ew, rw'⟩ := r.get h2
  have hl := r.length
  have hn := line63
  have fin : EP X pins σ Q w s := ⟨z, H, I, rw', q⟩
  by_cases h0 : 0 ≤ i
  · have hj : i.toNat = j := by
      rw [seqIndex_of h0 h5] at h1
      exact Option.some.inj h1
    exact wpAny_getItem_list pl.isList h0 (by omega) (by rw [hj]; simpa using ew) fin
  · have hj : (i + (its.toArray.size : Int)).toNat = j := by
      rw [seqIndex_neg (by omega) h4] at h1
      rw [List.size_toArray, ← hl]
      exact Option.some.inj h1
    exact wpAny_getItem_list_neg pl.isList (by omega) (by rw [List.size_toArray]; omega) (by omega) (by rw [hj]; simpa using ew) fin
theorem ok_ixL : Ok2 X.K (rIxL X.K) opIxL := fun W ρ A σ H d e v u Q hA rd re h => by
  cases rd with
  | @ref j hj => cases re with
    | int i =>
      have h2 : Post X.K W RepV ρ A σ H (atS A i (seqAt A j)) Q := h
      cases y : seqAt A j with
      | none => rw [y] at h2; exact h2.elim
      | some xs =>
        rw [y] at h2
        have h3 : Post X.K W RepV ρ A σ H (okO A (atD xs i)) Q := h2
        obtain ⟨vs, q1, q2⟩ := hA.seq y
        cases z : atD xs i with
        | none => rw [z] at h3; exact h3.elim
        | some c =>
          rw [z] at h3
          obtain ⟨w, w1, w2⟩ := at_rep q2 z
          exact ⟨ρ j, vs, i, w, rfl, rfl, q1, w1, post_val hA h3 w2⟩
    | _ => exact h.elim
  | _ => cases re <;> exact h.elim
def opAddI : Fn
  | [.int i, .int j], A => .ok (.int (i + j)) A
  | _, _ => .bad
def opSubI : Fn
  | [.int i, .int j], A => .ok (.int (i - j)) A
  | _, _ => .bad
theorem ok_ipadd : OkIp X.K (ipI fun i j => i + j) opAddI := fun W ρ A σ H d e v u Q hA rd re h => by
  cases rd with
  | int i => cases re with
    | int j => exact ⟨i, j, rfl, rfl, post_val hA h (.int _)⟩
    | _ => exact h.elim
  | _ => cases re <;> exact h.elim
theorem ok_ipsub : OkIp X.K (ipI fun i j => i - j) opSubI := fun W ρ A σ H d e v u Q hA rd re h => by
  cases rd with
  | int i => cases re with
    | int j => exact ⟨i, j, rfl, rfl, post_val hA h (.int _)⟩
    | _ => exact h.elim
  | _ => cases re <;> exact h.elim
/-! ### methods of built-in types -/
def kdT : Kd → String
  | .list => "list"
  | .dict => "dict"
  | .str => "str"
theorem kd_ty {K : PySem.W.Frag} {ρ : Nat → Addr} {A : AH} {H : Hp} {t : Kd} {d : D} {v : V} (hA : RepA K ρ H A) (r : RepV ρ A.length H d v) (h : isKd t A d = true) : tyV K (kdT t) v H := by
  cases r with
  | str x => cases t <;> first | rfl | cases h
  | @ref i hi =>
    have h2 : kindO t A[i]? = true := h
    cases z : A[i]? with
    | none => rw [z] at h2; cases t <;> cases h2
    | some o =>
      rw [z] at h2
      cases o with
      | lst ds =>
        cases t with
        | list =>
          obtain ⟨vs, q1, _⟩ := lst_at hA z
          exact .inl ⟨rfl, vs, SqL.of q1⟩
        | _ => cases h2
      | rol ds =>
        cases t with
        | list =>
          obtain ⟨vs, q1, _⟩ := hA.seq (ds := ds) (by unfold seqAt; rw [z]; rfl)
          exact .inl ⟨rfl, vs, q1⟩
        | _ => cases h2
      | dic kvs =>
        cases t with
        | dict =>
          obtain ⟨gs, q, _⟩ := hA.objs i _ z
          exact .inr (.inr (.inl ⟨rfl, .inl ⟨gs, q⟩⟩))
        | _ => cases h2
      | dit kvs =>
        cases t with
        | dict =>
          obtain ⟨gs, q, _⟩ := hA.objs i _ z
          exact .inr (.inr (.inl ⟨rfl, .inr ⟨gs, q⟩⟩))
        | _ => cases h2
      | ins _ _ => cases t <;> cases h2
      | fro _ => cases t <;> cases h2
  | _ => cases t <;> cases h
def OkM (K : PySem.W.Frag) (r : V → List V → Hp → VK → Prop) (F : Fn) : Prop := ∀ W ρ A σ H d ds v vs Q, RepA K ρ H A → RepV ρ A.length H d v → RepVs ρ A.length H ds vs → Post K W RepV ρ A σ H (F (d :: ds) A) Q → r v vs H Q
variable {o : Expr} {name : Str} {apos cpos : Pos} {t : Kd} {id : String} {r : V → List V → Hp → VK → Prop} {F : Fn}
theorem bm_of {σ : Sl} {H : Hp} {Q : VK} (hk : OkM X.K r F) (h : tE X.K W (eBM t F mo mr) σ H Q) : tBM X.K (kdT t) r (tE X.K W mo) (tAr X.K W mr) σ H Q := by
  obtain ⟨ρ, E, A, hE, hA, h⟩ := h
  refine ⟨ρ, E, A, hE, hA, Post.bind h fun ρ1 d B v H1 n1 r1 h1 => ?_⟩
  have h2 : Post X.K W RepV ρ1 B σ H1 (if isKd t B d = true then (mr E B).bind (kM2 F d) else .bad) Q := h1
  by_cases z : isKd t B d = true
  · rw [if_pos z] at h2
    refine ⟨kd_ty n1.rep r1 z, ρ1, E, B, hE.ext n1.ext, n1.rep, Post.bind h2 fun ρ2 xs C us H2 n2 r2 h3 => ?_⟩
    exact hk W ρ2 C σ H2 d xs v us Q n2.rep (r1.ext n2.ext) r2 h3
  · rw [if_neg z] at h2
    exact h2.elim
theorem re_bm (pa : PlainAttrs (kdT t)) (slot : Slot (kdT t) name id) (hty : typeOf (.builtin id) = pure (.type "method_descriptor")) (hm : MtR X id r) (hk : OkM X.K r F) (ho : RE X W o mo) (ha : RA X W (e :: es) mr)
    (hbase : attributeBase o name X.env (eval o X.env) = eval o X.env := by rfl)
    (hfew : ((backTo cpos (starEach (e :: es) X.env)).all (fun x => !x.1) && (backToKw cpos (keywordEach [] X.env)).all (fun x => x.1.isSome)
      && decide ((e :: es).length + ([] : List Keyword).length + (if ([] : List Keyword).isEmpty then 0 else 1) < 30)) = true := by rfl)
    (hline : (apos.endLine == cpos.line) = true := by rfl) (hs : starEach (e :: es) X.env = (false, eval e X.env) :: starEach es X.env := by rfl) (hplain : (backTo cpos (starEach es X.env)).any (·.1) = false := by rfl) :
    RE X W (.Call (.Attribute o name apos) (e :: es) [] cpos) (eBM t F mo mr) :=
  PE.imp (pe_bm pa slot hty hm ho ha hbase hfew hline hs hplain) fun σ H Q h => bm_of hk h
theorem re_bm0 (pa : PlainAttrs (kdT t)) (slot : Slot (kdT t) name id) (hty : typeOf (.builtin id) = pure (.type "method_descriptor")) (hm : MtR X id r) (hk : OkM X.K r F) (ho : RE X W o mo)
    (hbase : attributeBase o name X.env (eval o X.env) = eval o X.env := by rfl) (hline : (apos.endLine == cpos.line) = true := by rfl) : RE X W (.Call (.Attribute o name apos) [] [] cpos) (eBM t F mo aNil) := by
  refine PE.imp (pe_bm0 pa slot hty hm ho hbase hline) fun σ H Q ⟨ρ, E, A, hE, hA, h⟩ => ⟨ρ, E, A, hE, hA, Post.bind h fun ρ1 d B v H1 n1 r1 h1 => ?_⟩
  have h2 : Post X.K W RepV ρ1 B σ H1 (if isKd t B d = true then F [d] B else .bad) Q := h1
  by_cases z : isKd t B d = true
  · rw [if_pos z] at h2
    exact ⟨kd_ty n1.rep r1 z, hk W ρ1 B σ H1 d [] v [] Q n1.rep r1 .nil h2⟩
  · rw [if_neg z] at h2
    exact h2.elim
theorem post_set {K : PySem.W.Frag} {ρ : Nat → Addr} {A : AH} {H : Hp} {σ : Sl} {Q : VK} {i : Nat} {u u' : O} {ho : HO} {d : D} {v : V} (hA : RepA K ρ H A) (h : Post K W RepV ρ A σ H (.ok d (A.set i u')) Q) (z : A[i]? = some u) (m : u.mut = true) (m' : u'.mut = true) (rd : RepV ρ A.length H d v)
    (new : Ext ρ A.length H ρ A.length (upd H (ρ i) ho) → RepO K ρ A.length (upd H (ρ i) ho) (ρ i) u') (nf : ∀ kvs, u ≠ .fro kvs := by intro _ h; cases h) : Q v (upd H (ρ i) ho) := by
  have n := Nxt.set hA z m m' new nf
  exact h ρ v _ n (rd.ext n.ext)
theorem ok_append : OkM X.K rAppend mAppend := fun W ρ A σ H d ds v vs Q hA rd rs h => by
  cases rd with
  | @ref i hi => cases rs with
    | nil => exact h.elim
    | cons r1 r2 => cases r2 with
      | cons _ _ => exact h.elim
      | @nil =>
        rename_i x y
        have h2 : Post X.K W RepV ρ A σ H (appO i x A A[i]?) Q := h
        cases z : A[i]? with
        | none => rw [z] at h2; exact h2.elim
        | some o =>
          rw [z] at h2
          cases o with
          | lst xs =>
            have h3 : Post X.K W RepV ρ A σ H (if xs.length < line then .ok .non (A.set i (.lst (xs ++ [x]))) else .bad) Q := h2
            by_cases q : xs.length < line
            · rw [if_pos q] at h3
              obtain ⟨us, q1, q2⟩ := lst_at hA z
              exact ⟨ρ i, us, y, rfl, rfl, q1, by rw [← q2.len, ← line_eq]; exact q, post_set hA h3 z rfl rfl .non fun ex => ⟨_, upd_same, (q2.app (.cons r1 .nil)).ext ex⟩⟩
            · rw [if_neg q] at h3; exact h3.elim
          | _ => exact h2.elim
  | _ => cases rs with
    | nil => exact h.elim
    | cons r1 r2 => cases r2 <;> exact h.elim
/-! ### isinstance of built-in classes -/
def tyN : Ty → String
  | .int => "int"
  | .bool => "bool"
  | .tuple => "tuple"
  | .list => "list"
  | .str => "str"
theorem re_isi {T : Str} {p p2 : Pos} (t : Ty) (hg : Gl X "isinstance") (hm : X.mg "isinstance" = none) (hg2 : Gl X T) (hm2 : X.mg T = none) (hT : bootBuiltins T = some (.type (tyN t))) (he : RE X W e me) (hn : T ≠ "__name__" := by decide) (hdb : (T == ("__debug__" : Str)) = false := by decide)
    (hs : starEach (e :: [.Name T p2]) X.env = (false, eval e X.env) :: starEach [.Name T p2] X.env := by rfl) (hs2 : starEach [.Name T p2] X.env = (false, eval (.Name T p2) X.env) :: starEach [] X.env := by rfl) (hpl : (backTo pos (starEach [.Name T p2] X.env)).any (·.1) = false := by rfl) :
    RE X W (.Call (.Name "isinstance" p) [e, .Name T p2] [] pos) (eF (biIsi t) (aCons me aNil)) := by
  refine PE.imp (pe_callB (call_isi) hg hm (by decide +kernel) (pa_cons he (pa_cons (pe_bltn (v := .ty (tyN t)) hg2 hm2 hT rfl hn hdb) pa_nil hs2) hs) (by decide) (by decide) hs hpl) fun σ H Q ⟨ρ, E, A, hE, hA, h⟩ => ?_
  rw [eF1] at h
  refine ⟨ρ, E, A, hE, hA, Post.bind h fun ρ1 d B v H1 n1 r1 h1 => ?_⟩
  have kt : ∀ (a : String) (b : Bool), kitB a (tyN t) = some b → PySem.W.kitOne X.K (.type a) (.type (tyN t)) = some b := fun a b q => kit_ty q
  have go : ∀ (a : String) (b : Bool), TyX X.K H1 v (.type a) → kitB a (tyN t) = some b → Q (.bl b) H1 → rIsi X.K [v, .ty (tyN t)] H1 Q := fun a b ty q hq => ⟨v, .ty (tyN t), .type a, .type (tyN t), b, rfl, .ty _, ty, kt a b q, hq⟩
  show rIsi X.K [v, .ty (tyN t)] H1 Q
  cases r1 with
  | non => exact go "NoneType" false (.base .non) (by cases t <;> decide +kernel) (h1 ρ1 _ H1 (.refl n1.rep) (.bl _))
  | bl b => exact go "bool" t.ofB (.base (.bl b)) (by cases t <;> decide +kernel) (h1 ρ1 _ H1 (.refl n1.rep) (.bl _))
  | int i => exact go "int" t.ofI (.base (.int i)) (by cases t <;> decide +kernel) (h1 ρ1 _ H1 (.refl n1.rep) (.bl _))
  | str z => exact go "str" t.ofS (.base (.str z)) (by cases t <;> decide +kernel) (h1 ρ1 _ H1 (.refl n1.rep) (.bl _))
  | tup q1 q2 => exact go "tuple" t.ofT (.base (.tup q1)) (by cases t <;> decide +kernel) (h1 ρ1 _ H1 (.refl n1.rep) (.bl _))
  | @ref i hi =>
    have h2 : Post X.K W RepV ρ1 B σ H1 (tyO t B B[i]?) Q := h1
    cases z : B[i]? with
    | none => rw [z] at h2; exact h2.elim
    | some o =>
      rw [z] at h2
      cases o with
      | lst ds =>
        obtain ⟨vs, q1, q2⟩ := lst_at n1.rep z
        exact go "list" t.ofL (.base (.lst q1)) (by cases t <;> decide +kernel) (h2 ρ1 _ H1 (.refl n1.rep) (.bl _))
      | _ => exact h2.elim
/-! ### three names at once -/
theorem rs_par3 (cx : Ctx X W k) (i j l : Nat) {x y z : Str} {a b c : Expr} {px py pz pt : Pos} {kt k2 pt2} (ha : RA X W [a, b, c] mr) (hi : X.N[i]? = some x := by rfl) (hj : X.N[j]? = some y := by rfl) (hl : X.N[l]? = some z := by rfl) (hij : i ≠ j := by decide) (hil : i ≠ l := by decide) (hjl : j ≠ l := by decide)
    (hx : X.env.scope.names.lookup x = some .local := by rfl) (hy : X.env.scope.names.lookup y = some .local := by rfl) (hz : X.env.scope.names.lookup z = some .local := by rfl)
    (hw : swappedStores [.Tuple [.Name x px, .Name y py, .Name z pz] kt pt] (.Tuple [a, b, c] k2 pt2) X.env = pure (some [x, y, z]) := by rfl)
    (hs : swapsWithSole [.Tuple [.Name x px, .Name y py, .Name z pz] kt pt] (.Tuple [a, b, c] k2 pt2) pos.line X.env = pure false := by rfl) :
    RS X W (.Assign [.Tuple [.Name x px, .Name y py, .Name z pz] kt pt] (.Tuple [a, b, c] k2 pt2) pos) (sPar3 i j l mr) := by
  refine PS.imp (ps_par3 cx.calm cx.nd hi hj hl hij hil hjl hx hy hz ha hw hs) fun Dn σ H ⟨ρ, E, A, hE, hA, h⟩ => ⟨ρ, E, A, hE, hA, PostS.then hE h fun ρ1 ds B vs H1 n1 r1 h1 => ?_⟩
  cases r1 with
  | nil => exact h1.elim
  | cons r1 r2 => cases r2 with
    | nil => exact h1.elim
    | cons r2 r3 => cases r3 with
      | nil => exact h1.elim
      | cons r3 r4 => cases r4 with
        | nil => exact ⟨_, _, _, rfl, h1 ρ1 _ H1 (.refl n1.rep) ((((hE.ext n1.ext).set i r1).set j r2).set l r3)⟩
        | cons _ _ => exact h1.elim
end
end DL
set_option Elab.async false
set_option linter.all false
set_option maxRecDepth 100000
set_option maxHeartbeats 4000000
/-! New instances; enumerate (own work). -/
namespace DL
open PySem PySem.Spec PyProof.Rows L2
section
variable {X : Cx} {W : WX} {k : Nat} {f : Addr} {ps : List Str} {ds : List Value} {n : Nat} {F : Fn} {x : Str} {p pos : Pos} {e : Expr} {es : List Expr} {mr : Ax} {dd : List D} {dv : List V}
/-- a new instance, its __init__ behind it -/
theorem run_new {C : Nat} {fd : FuncData} (M : Mk X.K (clsA X.K C) f) (G : FnOk X.prog X.w X.K X.mg X.base (L2N.CX X.prog X.w) k f fd ps (spD X.K n F)) (hb : Binds X.K fd ps ds) (hr : Room (k + 1) X.A) (tk : L2N.Takes X W) (hn : Asks n F) (hd : Vals dv ds) (hD : ∀ ρ n H, RepVs ρ n H dd dv)
    {pins : List (Addr × Obj)} {σ : Sl} {H : Hp} {s : Shared} {Q : VK} {us : List Value} {vs : List V} {ρ : Nat → Addr} {A : AH} {xs : List D} (I : Inv X pins σ H s) (r : Vals vs us) (hA : RepA X.K ρ H A) (hv : RepVs ρ A.length H xs vs)
    (h : Post X.K W RepV ρ A σ H (mkIns C (fun ys B => F (ys ++ dd) B) xs A) Q) : wpAny (model X.prog X.w) X.A (call (.ref (clsA X.K C)) us) (EP X pins σ Q) X.xe s := by
  have hfree1 : H (s.heap.objs.size + 1) = none := I.hok.fresh (Nat.le_succ _)
  have hfree0 : H s.heap.objs.size = none := I.hok.fresh (Nat.le_refl _)
  have I2 := Inv.made (C := clsA X.K C) I
  have n0 : Nxt X.K ρ A H ρ A (upd H s.heap.objs.size (.own (s.heap.objs.size + 1))) := Nxt.same hA (same_upd hfree0)
  have hfree2 : (upd H s.heap.objs.size (.own (s.heap.objs.size + 1))) (s.heap.objs.size + 1) = none := by rw [upd_ne (Nat.succ_ne_self _)]; exact hfree1
  obtain ⟨ρ1, e1, n1⟩ := Nxt.alloc (o := .ins C []) (ho := .ins (clsA X.K C) s.heap.objs.size []) n0.rep hfree2 rfl fun ρ' _ => ⟨_, [], upd_same, .nil⟩
  have n01 := n0.trans n1
  have lA : (A ++ [O.ins C []]).length = A.length + 1 := by rw [List.length_append]; rfl
  have r0 : RepV ρ1 (A ++ [O.ins C []]).length (upd (upd H s.heap.objs.size (.own (s.heap.objs.size + 1))) (s.heap.objs.size + 1) (.ins (clsA X.K C) s.heap.objs.size [])) (.ref A.length) (.ref (s.heap.objs.size + 1)) := by
    rw [← e1]
    exact .ref (by rw [lA]; exact Nat.lt_succ_self _)
  have r1 := RepVs.cons r0 (hv.ext n01.ext)
  have h1 : Post X.K W RepV ρ1 (A ++ [.ins C []]) σ _ ((F (.ref A.length :: xs ++ dd) (A ++ [.ins C []])).bind (kMk A.length)) Q := Post.later h n01
  have r2 : Vals (V.ref (s.heap.objs.size + 1) :: vs ++ dv) (Value.ref (s.heap.objs.size + 1) :: us ++ ds) := Vals.append (Paired.cons rfl r : Vals (V.ref (s.heap.objs.size + 1) :: vs) (Value.ref (s.heap.objs.size + 1) :: us)) hd
  have bad : F (.ref A.length :: xs ++ dd) (A ++ [.ins C []]) ≠ .bad := fun z => by
    rw [z] at h1
    exact h1
  have hl : (V.ref (s.heap.objs.size + 1) :: vs ++ dv).length = n := lenD hn (hD _ _ _) r1 bad
  have hq : spD X.K n F (V.ref (s.heap.objs.size + 1) :: vs ++ dv) (upd (upd H s.heap.objs.size (.own (s.heap.objs.size + 1))) (s.heap.objs.size + 1) (.ins (clsA X.K C) s.heap.objs.size [])) (fun v H2 => v = .non ∧ Q (.ref (s.heap.objs.size + 1)) H2) (WE W σ) := by
    refine ⟨hl, ρ1, .ref A.length :: xs ++ dd, _, r1.app (hD _ _ _), n1.rep, ?_⟩
    cases z : F (.ref A.length :: xs ++ dd) (A ++ [.ins C []]) with
    | ok d B =>
      rw [z] at h1
      intro ρ2 v H2 n2 rv
      cases rv with
      | non =>
        refine ⟨rfl, ?_⟩
        have h3 : Post X.K W RepV ρ1 (A ++ [.ins C []]) σ _ (.ok (.ref A.length) B) Q := h1
        have e2 : ρ2 A.length = s.heap.objs.size + 1 := (n2.ext.same _ (by rw [lA]; exact Nat.lt_succ_self _)).trans e1
        have q := h3 ρ2 (.ref (ρ2 A.length)) H2 n2 (.ref (Nat.lt_of_lt_of_le (by rw [lA]; exact Nat.lt_succ_self _) n2.ext.le))
        rw [e2] at q
        exact q
      | _ => exact (h1 : False).elim
    | exc y B =>
      rw [z] at h1
      exact h1
    | bad => exact absurd z bad
  have hl2 : (Value.ref (s.heap.objs.size + 1) :: us ++ ds).length = ps.length := by rw [← r2.length]; exact G.len _ _ _ _ hq
  refine wpAny_call (make_map (f := f) I.kIn M.makes M.init (beq_iff_eq.mp M.fn) (codeAny_mono (G.run _ X.stack _ _ ⟨Value.ref (s.heap.objs.size + 1) :: us, []⟩ (Value.ref (s.heap.objs.size + 1) :: us ++ ds) _ _ (WE W σ) (hr.make (clsA X.K C) us [])
    (I2.env0.make (clsA X.K C) us []) (hb _ (Value.ref (s.heap.objs.size + 1) :: us) I2.kIn hl2) r2 hq) fun rr s' hq' => ?_))
  cases rr with
  | error ev => exact L2N.passAt tk σ pins _ _ ev s' I2 hq'
  | ok fl =>
    cases fl with
    | ret u =>
      obtain ⟨v, H', I3, rv, ev, q3⟩ := I2.after hq'
      subst ev
      exact ⟨rv, ⟨V.ref (s.heap.objs.size + 1), H', I3, rfl, q3⟩⟩
    | _ => exact False.elim hq'
theorem re_make {C : Nat} (M : Mk X.K (clsA X.K C) f) (G : DefOk X.prog X.w X.K X.mg X.base k f ps ds n F) (c : Ctx X W (k + 1)) (hn : Asks n F) (hg : Gl X x) (hm : X.mg x = some (.ref (clsA X.K C))) (hd : Vals dv ds) (hD : ∀ ρ n H, RepVs ρ n H dd dv) (ha : RA X W (e :: es) mr)
    (hdb : (x == ("__debug__" : Str)) = false := by decide) (he : starEach (e :: es) X.env = (false, eval e X.env) :: starEach es X.env := by rfl) (hpl : (backTo pos (starEach es X.env)).any (·.1) = false := by rfl) :
    RE X W (.Call (.Name x p) (e :: es) [] pos) (eF (mkIns C (fun ys B => F (ys ++ dd) B)) mr) := by
  obtain ⟨fd, G1, hb⟩ := G.ex
  refine ⟨fun pins s σ H Q I ⟨ρ, E, A, hE, hA, h⟩ => ?_⟩
  refine wpAny_Call_Name_kw (ld_glob I hg hm ?_ hdb)
  have q := ha.run pos pins s σ H _ I ⟨ρ, E, A, hE, hA, Post.bind h fun ρ1 xs B vs H1 n1 r1 h1 => (⟨ρ1, xs, B, n1.rep, r1, h1⟩ : ∃ ρ1 xs B, RepA X.K ρ1 H1 B ∧ RepVs ρ1 B.length H1 xs vs ∧ Post X.K W RepV ρ1 B σ H1 (mkIns C (fun ys B => F (ys ++ dd) B) xs B) Q)⟩
  refine PySem.W.callWith_K (h₀ := X.base) I.ok.mod.kin M.kp (thn q fun us s1 ⟨vs, H1, I1, rv, ρ1, xs, B, hB, r1, h1⟩ => ⟨I1.kIn, ?_⟩) he hpl
  exact run_new M G1 hb c.room c.tk hn hd hD I1 rv hB r1 h1
theorem re_make0 {C : Nat} (M : Mk X.K (clsA X.K C) f) (G : DefOk X.prog X.w X.K X.mg X.base k f ps ds n F) (c : Ctx X W (k + 1)) (hn : Asks n F) (hg : Gl X x) (hm : X.mg x = some (.ref (clsA X.K C))) (hd : Vals dv ds) (hD : ∀ ρ n H, RepVs ρ n H dd dv)
    (hdb : (x == ("__debug__" : Str)) = false := by decide) : RE X W (.Call (.Name x p) [] [] pos) (eF (mkIns C (fun ys B => F (ys ++ dd) B)) aNil) := by
  obtain ⟨fd, G1, hb⟩ := G.ex
  refine ⟨fun pins s σ H Q I ⟨ρ, E, A, hE, hA, h⟩ => ?_⟩
  refine wpAny_Call_Name_kw (ld_glob I hg hm ?_ hdb)
  exact PySem.W.callWith_K0 I.kIn M.kp (run_new (us := []) (xs := []) M G1 hb c.room c.tk hn hd hD I .nil hA .nil h)
end

/-! ### enumerate -/
theorem meets_enumT {v : Value} {o : Obj} {H : Heap → Prop} (B : Begins v o H) :
    Meets (Builtin.«enumerate.__new__» ⟨[.type "enumerate", v], []⟩) (fun _ R s => H s.heap ∧
      R (.ok (.ret (.ref (s.heap.push o).objs.size))) { s with heap := (s.heap.push o).push { cls := .type "enumerate", data := .fields #[.none, .bool false, .ref s.heap.objs.size, rawInt 0, .none, .none] } }) :=
  .of_wp fun prog w A R s h => by
    obtain ⟨hp, g, d, tk, os⟩ := s
    obtain ⟨h1, h⟩ := h
    have hsub := sub_enumerate
    have q1 : ∀ {A' : Around} {E : Value → Shared → Prop} {Q : Value → Shared → Prop}, Q (.ref hp.objs.size) ⟨hp.push o, g, d, tk, os⟩ → wpAny (model prog w) A' (pyIter v) Q E ⟨hp, g, d, tk, os⟩ :=
      fun q => B.iter prog w _ _ ⟨hp, g, d, tk, os⟩ _ h1 q
    wp_walk using q1
    refine wpAny_stack_any fun st => wpAny_pure ?_
    split
    · rename_i c _ _ _ _ _
      cases (c == Value.type "enumerate") <;> (wp_walk using q1; exact ⟨_, rfl, h⟩)
    · wp_walk using q1
      exact ⟨_, rfl, h⟩
theorem call_enumT {prog : Program} {w : World} {A : Around} {E : Value → Shared → Prop} {s : Shared} {v : Value} {o : Obj} {H : Heap → Prop} {Q : Value → Shared → Prop} (B : Begins v o H) (h1 : H s.heap)
    (h : ∀ h', IsEnum h' (s.heap.objs.size + 1) s.heap.objs.size 0 .none → h'.get? s.heap.objs.size = some o → (∀ b ob, s.heap.get? b = some ob → h'.get? b = some ob) → Q (.ref (s.heap.objs.size + 1)) { s with heap := h' }) :
    wpAny (model prog w) A (call (.type "enumerate") [v]) Q E s := by
  refine callType_new F.called_enumerate (by decide) (F.typeCall_enumerate_1 _) (F.newCall_enumerate_1 _) (fun obj => F.args_object_init_2 obj _) F.entry_enumerate_new (meets_enumT B) ⟨h1, ?_⟩
  have hz : (s.heap.push o).objs.size = s.heap.objs.size + 1 := Heap.size_push ..
  show _ ∧ _
  rw [hz]
  have he : IsEnum ((s.heap.push o).push { cls := .type "enumerate", data := .fields #[.none, .bool false, .ref s.heap.objs.size, rawInt 0, .none, .none] }) (s.heap.objs.size + 1) s.heap.objs.size 0 .none := by
    have z := Heap.get?_push_size (s.heap.push o) (o := { cls := .type "enumerate", data := .fields #[.none, .bool false, .ref s.heap.objs.size, rawInt 0, .none, .none] }) rfl
    rw [hz] at z
    exact z
  exact ⟨⟨_, he, rfl⟩, h _ he (Heap.get?_push_of_some _ (Heap.get?_push_size _ B.free)) fun b ob q => Heap.get?_push_of_some _ (Heap.get?_push_of_some _ q)⟩
/-- the tuple at a, each item in a new pair -/
def ItET (K : PySem.W.Frag) (a : Addr) : It :=
  ⟨fun i H => ∃ (xs : List V) (x : V), SqT K H a xs ∧ xs[i]? = some x, fun i H v H' => ∃ T x, v = .ref T ∧ H T = none ∧ H' = upd H T (.tup [.int (i : Nat), x]) ∧ ∀ xs, SqT K H a xs → xs[i]? = some x, fun i H => ∃ xs : List V, SqT K H a xs ∧ xs.length ≤ i⟩
theorem turn_enumT {P : Program} {w : World} {K : PySem.W.Frag} {elts : List Expr} {kk : Nat} {tpos : Pos} (a e it : Addr) (hea : e ≠ a) (hia : a ≠ it) :
    Turn P w K (.Tuple elts kk tpos) (ItET K a) [e, it] e (fun i h => (∃ old, IsEnum h e it ((i : Nat) : Int) old) ∧ h.IsTupleIter it a i ∧ e ≠ it) where
  mem := List.mem_cons_self
  obj := fun i h st b hb => by
    obtain ⟨⟨old, he⟩, ⟨o, ho, hc, hd⟩, _⟩ := st
    rcases List.mem_cons.mp hb with z | z
    · rw [z]; exact ⟨_, he, fun v q => nomatch q⟩
    · rw [List.mem_singleton.mp z]; exact ⟨o, ho, fun v q => by rw [hd] at q; cases q⟩
  keep := fun i h h' st kp => let ⟨⟨old, he⟩, hi, hne⟩ := st; ⟨⟨old, kp e (by simp) _ he⟩, hi.at fun o q => kp it (by simp) o q, hne⟩
  item := by
    intro X hP hw hK hc i pins s σ H E I hf st hg
    subst hP hw hK
    obtain ⟨⟨old, he⟩, hit, hne⟩ := st
    obtain ⟨xs, x, hq, hx⟩ := hg
    obtain ⟨its, rv, pt, hz⟩ := I.tuple hq
    obtain ⟨u, hu, ru⟩ := rv.get hx
    have hel : e < s.heap.objs.size := Heap.lt_size he
    have hil : it < s.heap.objs.size := by obtain ⟨_, q, _⟩ := hit; exact Heap.lt_size q
    have Dr := Draws.tuple (prog := X.prog) (w := X.w) (A := X.A.in1) (I.ok.hd hc) it a hia its.toArray
    have hlt : i < its.toArray.size := by
      have := (List.getElem?_eq_some_iff.mp hu).1
      simpa using this
    refine wpAny_pyNext_enum_itemD (i := i) Dr he ⟨hit, pt⟩ hlt hne (by simp [hne, hea]) fun y h' tk hy ho hst hT hsz hkp => ?_
    obtain ⟨hit', pt'⟩ := hst
    have ey : y = u := by
      have q : its.toArray[i]? = some u := by simpa using hu
      rw [q] at hy
      exact (Option.some.inj hy).symm
    subst ey
    refine ⟨_, rfl, wpAny_letOwnedTupleGo_enum (s := { s with heap := h', toks := tk + 1 }) ho fun h'' he' sb => ?_⟩
    have hT2 : h''.get? s.heap.objs.size = some { cls := .type "tuple", data := .seq #[.int i tk, y] } := (sb.2 _ (Nat.ne_of_gt hel)).trans hT
    have new : ObjOk X.prog X.w (upd H s.heap.objs.size (.tup [.int (i : Nat), x])) h'' s.heap.objs.size (.tup [.int (i : Nat), x]) :=
      ⟨by show 2 ≤ sizeLine; decide, [.int i tk, y], .cons ⟨_, rfl⟩ (.cons ru .nil), ⟨_, hT2, rfl, _, rfl⟩⟩
    have I1 : Inv X pins σ (upd H s.heap.objs.size (.tup [.int (i : Nat), x])) { s with heap := h'', toks := tk + 1 } :=
      I.turnedNew (ch := [e, it]) (fun b ob hb q => (sb.2 b (fun z => hb (by simp [z]))).trans (hkp b ob (fun z => hb (by simp [z])) (fun z => hb (by simp [z])) q)) hf (Nat.le_refl _) new
    refine ⟨.ref s.heap.objs.size, _, I1, rfl, ⟨_, x, rfl, I.hok.fresh (Nat.le_refl _), rfl, fun ys hy2 => by rw [I.tuple_inj hy2 hq]; exact hx⟩, ⟨⟨y, ?_⟩, hit'.at fun o q => (sb.2 it (Ne.symm hne)).trans q, hne⟩, fun b hb => ?_⟩
    · have e1 : ((i + 1 : Nat) : Int) = (i : Int) + 1 := by omega
      rw [e1]
      exact he'
    · have hb' : b < s.heap.objs.size := by
        rcases List.mem_cons.mp hb with z | z
        · rw [z]; exact hel
        · rw [List.mem_singleton.mp z]; exact hil
      rw [upd_ne (Nat.ne_of_lt hb')]
      exact (hf b hb).1
  done := by
    intro X hP hw hK hc i pins s σ H E I hf st hg
    subst hP hw hK
    obtain ⟨⟨old, he⟩, hit, hne⟩ := st
    obtain ⟨xs, hq, hx⟩ := hg
    obtain ⟨its, rv, pt, hz⟩ := I.tuple hq
    obtain ⟨f0, f1, f2, f3, f4, f5⟩ := hf it (by simp)
    have hl := rv.length
    have hT : s.TypeIs (.ref e) "enumerate" := ⟨_, he, rfl⟩
    unfold pyNext
    refine wpAny_bind (wpAny_attempt (wpAny_callSpecial?_slot (name := Str.ofString "__next__") hT F.slot_enumerate_next (wpAny_call_entry F.slot_enumerate_next hT F.entry_enumerate_next ?_ (F.args_enumerate_next_1 _))))
    show wpAny _ _ (field (.ref e) 2 >>= _) _ _ _
    refine wpAny_bind (wpAny_field he rfl (x := .ref it) rfl ?_)
    refine wpAny_bind (wpAny_nextOf_tuple_end (I.ok.hd hc) hit pt (by simp; omega) fun h' y he' hx' => ?_)
    obtain ⟨o, ho, hc2⟩ := hx'
    refine wpAny_bind (wpAny_isInstance (T := "StopIteration") (b := true) ⟨o, ho, hc2⟩ isSubtype_stop ?_)
    exact wpAny_pure ⟨rfl, I.turned (t' := s.toks) (fun b o hb q => he' b o hb q) f0 f1 f3 f4 f5⟩
  self := fun A i s Q E st h => let ⟨⟨_, he⟩, _⟩ := st; wpAny_pyIter_enum he h

theorem enumD_get {k i : Nat} : ∀ {ds : List D}, (enumD k ds)[i]? = (ds[i]?).map fun d => .tup [.int ((k + i : Nat) : Int), d] := by
  intro ds
  induction ds generalizing k i with
  | nil => unfold enumD; rfl
  | cons d ds ih =>
    unfold enumD
    cases i with
    | zero => rfl
    | succ i =>
      rw [List.getElem?_cons_succ, List.getElem?_cons_succ, ih, Nat.add_right_comm, Nat.add_assoc]
theorem same_new {H : Hp} {T : Addr} {ho : HO} (h : H T = none) : Same H (upd H T ho) := same_upd h
theorem it_enumT {K : PySem.W.Frag} {ρ : Nat → Addr} {A : AH} {H : Hp} {a : Addr} {ds : List D} {vs : List V} (ht : H a = some (.tup vs)) (r : RepVs ρ A.length H ds vs) : ItOk K ρ A H (.seq (enumD 0 ds)) (ItET K a) := fun ρ1 B H1 n i => by
  have t1 : SqT K H1 a vs := SqT.of (n.ext.tups a vs ht)
  have r1 := n.reps r
  show match stepO (enumD 0 ds)[i]? with | .item d => _ | .stop => _ | .bad => _
  rw [enumD_get, Nat.zero_add]
  cases z : ds[i]? with
  | none => exact ⟨vs, t1, by rw [← r1.len]; exact List.getElem?_eq_none_iff.mp z⟩
  | some d =>
    obtain ⟨v, h1, h2⟩ := r1.get z
    exact ⟨⟨vs, v, t1, h1⟩, fun x H2 y => by
      obtain ⟨T, u, e1, e2, e3, e4⟩ := y
      subst e1 e3
      have := e4 vs t1
      rw [h1] at this
      cases this
      have sm := same_new (ho := HO.tup [.int (i : Nat), v]) e2
      exact ⟨sm, .tup upd_same (.cons (.int _) (.cons (h2.ext (Nxt.same n.rep sm).ext) .nil))⟩⟩
theorem it_enum {K : PySem.W.Frag} {ρ : Nat → Addr} {A : AH} {H : Hp} {i : Nat} (hi : i < A.length) : ItOk K ρ A H (.enum i) (Ite K (ρ i)) := fun ρ1 B H1 n j => by
  show match (match seqAt B i with | some ds => stepE j ds[j]? | none => Step.bad) with | .item d => _ | .stop => _ | .bad => _
  cases z : seqAt B i with
  | none => trivial
  | some ds =>
    obtain ⟨vs, h1, h2⟩ := n.rep.seq z
    rw [n.ext.same i hi] at h1
    show match stepE j ds[j]? with | .item d => _ | .stop => _ | .bad => _
    cases y : ds[j]? with
    | none => exact ⟨vs, h1, by rw [← h2.len]; exact List.getElem?_eq_none_iff.mp y⟩
    | some d =>
      obtain ⟨v, q1, q2⟩ := h2.get y
      exact ⟨⟨vs, v, h1, q1⟩, fun x H2 q => by
        obtain ⟨T, u, e1, e2, e3, e4⟩ := q
        subst e1 e3
        have := e4 vs h1
        rw [q1] at this
        cases this
        have sm := same_new (ho := HO.tup [.int (j : Nat), v]) e2
        exact ⟨sm, .tup upd_same (.cons (.int _) (.cons (q2.ext (Nxt.same n.rep sm).ext) .nil))⟩⟩
section
variable {X : Cx} {W : WX} {k : Nat} {p pos tpos : Pos} {e o : Expr} {mr : Ax} {elts : List Expr} {kk : Nat}
/-- enumerate of a list or a tuple -/
theorem pi_enumB {ta : TA} (hg : Gl X "enumerate") (hm : X.mg "enumerate" = none) (ha : PA X [e] ta) (hs : starEach [e] X.env = [(false, eval e X.env)] := by rfl) :
    PI X (.Tuple elts kk tpos) (.Call (.Name "enumerate" p) [e] [] pos) (fun σ H R => ta σ H fun vs H1 => ∃ a, vs = [.ref a] ∧ ((∃ xs, SqL X.K H1 a xs ∧ R (Ite X.K a) H1) ∨ (∃ xs, SqT X.K H1 a xs ∧ R (ItET X.K a) H1))) := by
  refine ⟨fun pins s σ H R I h => ?_⟩
  refine Call_ (ld_blt I hg hm boot_enumerate (PyProof.Rows.callWith_type1 (thn (ha.run pos pins s σ H _ I h) fun us s1 ⟨vs, H1, I1, r1, q1⟩ => ?_) hs rfl))
  obtain ⟨a, ex, q⟩ := q1
  subst ex
  cases r1 with
  | cons r rr =>
    cases rr
    cases r
    have new : ∀ b ∈ [s1.heap.objs.size + 1, s1.heap.objs.size], FpOk X pins H1 b := fun b hb => by
      have e' : b = s1.heap.objs.size + 1 ∨ b = s1.heap.objs.size := by simpa using hb
      have hle : s1.heap.objs.size ≤ b := by
        rcases e' with z | z
        · rw [z]; exact Nat.le_add_right _ _
        · rw [z]; exact Nat.le_refl _
      exact I1.fpOk hle (I1.hok.fresh hle)
    rcases q with ⟨xs, hq, q⟩ | ⟨xs, hq, q⟩
    · obtain ⟨its, rv, p', hz⟩ := I1.list hq
      refine call_enumerate_list p'.isList fun h' he hit hsz hk => wpAny_pyIter_enum he ?_
      have I2 : Inv X pins σ H1 { s1 with heap := h' } := I1.kept (t' := s1.toks) hk
      exact ⟨s1.heap.objs.size + 1, [s1.heap.objs.size + 1, s1.heap.objs.size], _, _, H1, rfl, I2, turn_enum a (s1.heap.objs.size + 1) s1.heap.objs.size, ⟨⟨.none, he⟩, hit, Nat.succ_ne_self _⟩, new, q⟩
    · obtain ⟨its, rv, p', hz⟩ := I1.tuple hq
      have pt : s1.heap.IsTuple a its.toArray := p'
      have hal : a < s1.heap.objs.size := by obtain ⟨o, ho, _⟩ := pt; exact Heap.lt_size ho
      refine call_enumT (begins_tuple a its.toArray) pt fun h' he hit hk => wpAny_pyIter_enum he ?_
      have I2 : Inv X pins σ H1 { s1 with heap := h' } := I1.kept (t' := s1.toks) hk
      exact ⟨s1.heap.objs.size + 1, [s1.heap.objs.size + 1, s1.heap.objs.size], _, _, H1, rfl, I2, turn_enumT a (s1.heap.objs.size + 1) s1.heap.objs.size (Nat.ne_of_gt (Nat.lt_succ_of_lt hal)) (Nat.ne_of_lt hal), ⟨⟨.none, he⟩, ⟨_, hit, rfl, rfl⟩, Nat.succ_ne_self _⟩, new, q⟩
theorem ri_enum (hg : Gl X "enumerate") (hm : X.mg "enumerate" = none) (ha : RA X W [e] mr) (hs : starEach [e] X.env = [(false, eval e X.env)] := by rfl) : RI X W (.Tuple elts kk tpos) (.Call (.Name "enumerate" p) [e] [] pos) (iEnum mr) := by
  refine PI.imp (pi_enumB hg hm ha hs) fun σ H R ⟨ρ, E, A, hE, hA, h⟩ => ⟨ρ, E, A, hE, hA, PostI.bind h fun ρ1 ds B vs H1 n1 r1 h1 => ?_⟩
  cases r1 with
  | nil => exact h1.elim
  | cons r1 r2 => cases r2 with
    | cons _ _ => cases r1 <;> exact h1.elim
    | nil => cases r1 with
      | @tup a vs ds q1 q2 => exact ⟨a, rfl, .inr ⟨vs, SqT.of q1, h1 ρ1 _ H1 (.refl n1.rep) (it_enumT q1 q2)⟩⟩
      | @ref i hi =>
        have h2 : PostI X.K W ρ1 B σ H1 (okI (.enum i) B (seqAt B i)) R := h1
        cases z : seqAt B i with
        | none => rw [z] at h2; exact h2.elim
        | some ds =>
          rw [z] at h2
          obtain ⟨vs, q1, q2⟩ := n1.rep.seq z
          exact ⟨ρ1 i, rfl, .inl ⟨vs, q1, h2 ρ1 _ H1 (.refl n1.rep) (it_enum hi)⟩⟩
      | _ => exact h1.elim
end
/-! ### pop -/
theorem last_rep {ρ : Nat → Addr} {n : Nat} {H : Hp} {ds : List D} {vs : List V} {d : D} (r : RepVs ρ n H ds vs) (h : ds.getLast? = some d) : ∃ v, vs[vs.length - 1]? = some v ∧ RepV ρ n H d v := by
  rw [List.getLast?_eq_getElem?] at h
  rw [← r.len]
  exact r.get h
theorem dropLast_rep {ρ : Nat → Addr} {n : Nat} {H : Hp} {ds : List D} {vs : List V} (r : RepVs ρ n H ds vs) : RepVs ρ n H ds.dropLast vs.dropLast := by
  rw [List.dropLast_eq_take, List.dropLast_eq_take, r.len]
  exact r.take _
theorem ok_pop {X : Cx} : OkM X.K rPop mPop := fun W ρ A σ H d ds v vs Q hA rd rs h => by
  cases rs with
  | cons r1 r2 => cases rd <;> exact h.elim
  | nil =>
    cases rd with
    | @ref i hi =>
      have h2 : Post X.K W RepV ρ A σ H (popO i A A[i]?) Q := h
      cases z : A[i]? with
      | none => rw [z] at h2; exact h2.elim
      | some o =>
        rw [z] at h2
        cases o with
        | lst xs =>
          have h3 : Post X.K W RepV ρ A σ H (match xs.getLast? with | some d => .ok d (A.set i (.lst xs.dropLast)) | none => .bad) Q := h2
          cases y : xs.getLast? with
          | none => rw [y] at h3; exact h3.elim
          | some d =>
            rw [y] at h3
            obtain ⟨us, q1, q2⟩ := lst_at hA z
            obtain ⟨w, w1, w2⟩ := last_rep q2 y
            exact ⟨ρ i, us, w, rfl, rfl, q1, w1, post_set hA h3 z rfl rfl w2 fun ex => ⟨_, upd_same, (dropLast_rep q2).ext ex⟩⟩
        | _ => exact h2.elim
    | _ => exact h.elim
end DL
set_option Elab.async false
set_option linter.all false
set_option maxRecDepth 100000
set_option maxHeartbeats 4000000
/-! Letting go behind a statement; forgetting names (own work). -/
namespace DL
open PySem PySem.Spec PyProof.Rows L2
def envBd (n : Nat) : Env → Bool
  | [] => true
  | some d :: E => d.bd n && envBd n E
  | none :: E => envBd n E
open Classical in
noncomputable def gcE (A : AH) (E : Env) (B : AH) : AH := if envBd A.length E = true ∧ okPre A (B.take A.length) then B.take A.length else B
noncomputable def gcS (A : AH) : SRes → SRes
  | .nx E B => .nx E (gcE A E B)
  | .ct E B => .ct E (gcE A E B)
  | .bk E B => .bk E (gcE A E B)
  | r => r
noncomputable def sGc (m : Sx) : Sx := fun E A => gcS A (m E A)
def fgE : List Nat → Env → Env
  | [], E => E
  | i :: is, E => fgE is (E.set i none)
def fgR (is : List Nat) : SRes → SRes
  | .nx E B => .nx (fgE is E) B
  | .ct E B => .ct (fgE is E) B
  | .bk E B => .bk (fgE is E) B
  | r => r
def sFg (is : List Nat) (m : Sx) : Sx := fun E A => fgR is (m E A)
theorem envBd_get : ∀ {E : Env} {n i : Nat} {d : D}, envBd n E = true → E[i]? = some (some d) → d.bd n = true
  | [], _, _, _, _, h => by cases h
  | some c :: E, n, 0, d, h, e => by
    unfold envBd at h
    rw [Bool.and_eq_true] at h
    cases e
    exact h.1
  | none :: E, n, 0, d, h, e => by cases e
  | some c :: E, n, i + 1, d, h, e => by
    unfold envBd at h
    rw [Bool.and_eq_true] at h
    exact envBd_get (i := i) h.2 e
  | none :: E, n, i + 1, d, h, e => by
    unfold envBd at h
    exact envBd_get (i := i) h e
section
variable {K : PySem.W.Frag} {ρ ρ' : Nat → Addr} {A B : AH} {H H' : Hp} {σ : Sl} {E : Env}
theorem RepE.cut {n m : Nat} (h : RepE ρ n H E σ) (b : envBd m E = true) : RepE ρ m H E σ := ⟨h.len, fun i d e => by
  obtain ⟨v, h1, h2⟩ := h.get i d e
  exact ⟨v, h1, h2.cut (envBd_get b e)⟩⟩
theorem RepE.none {n : Nat} (h : RepE ρ n H E σ) (i : Nat) : RepE ρ n H (E.set i none) σ := ⟨by rw [List.length_set]; exact h.len, fun j d e => by
  by_cases z : i = j
  · subst z
    rw [List.getElem?_set] at e
    split at e
    · split at e <;> cases e
    · exact h.get i d e
  · rw [List.getElem?_set_ne z] at e
    exact h.get j d e⟩
theorem RepE.fg {n : Nat} : ∀ {is : List Nat} {E : Env}, RepE ρ n H E σ → RepE ρ n H (fgE is E) σ
  | [], _, h => h
  | i :: is, _, h => RepE.fg (is := is) (h.none i)
theorem gcE_ok (R : RepA K ρ H A) (x : Nxt K ρ A H ρ' B H') (r : RepE ρ' B.length H' E σ) : Nxt K ρ A H ρ' (gcE A E B) H' ∧ RepE ρ' (gcE A E B).length H' E σ := by
  unfold gcE
  by_cases c : envBd A.length E = true ∧ okPre A (B.take A.length)
  · rw [if_pos c]
    refine ⟨Nxt.cut R x c.2, ?_⟩
    rw [c.2.1]
    exact r.cut c.1
  · rw [if_neg c]
    exact ⟨x, r⟩
theorem PostS.gc {W : WX} {r : SRes} {Dn : Ends} (R : RepA K ρ H A) (h : PostS K W ρ A H (gcS A r) Dn) : PostS K W ρ A H r Dn := by
  cases r with
  | nx E B => exact fun ρ' σ H' n r => h ρ' σ H' (gcE_ok R n r).1 (gcE_ok R n r).2
  | ct E B => exact fun ρ' σ H' n r => h ρ' σ H' (gcE_ok R n r).1 (gcE_ok R n r).2
  | bk E B => exact fun ρ' σ H' n r => h ρ' σ H' (gcE_ok R n r).1 (gcE_ok R n r).2
  | rt d B => exact h
  | exc x E B => exact h
  | bad => exact h
theorem PostS.fg {W : WX} {r : SRes} {Dn : Ends} {is : List Nat} (h : PostS K W ρ A H (fgR is r) Dn) : PostS K W ρ A H r Dn := by
  cases r with
  | nx E B => exact fun ρ' σ H' n r => h ρ' σ H' n r.fg
  | ct E B => exact fun ρ' σ H' n r => h ρ' σ H' n r.fg
  | bk E B => exact fun ρ' σ H' n r => h ρ' σ H' n r.fg
  | rt d B => exact h
  | exc x E B => exact h
  | bad => exact h
end
section
variable {X : Cx} {W : WX} {st : Stmt} {sts : List Stmt} {m : Sx} {is : List Nat}
theorem rs_gc (h : RS X W st m) : RS X W st (sGc m) := PS.imp h fun Dn σ H ⟨ρ, E, A, hE, hA, q⟩ => ⟨ρ, E, A, hE, hA, PostS.gc hA q⟩
theorem rss_gc (h : RSs X W sts m) : RSs X W sts (sGc m) := PSs.imp h fun Dn σ H ⟨ρ, E, A, hE, hA, q⟩ => ⟨ρ, E, A, hE, hA, PostS.gc hA q⟩
theorem rs_fg (h : RS X W st m) : RS X W st (sFg is m) := PS.imp h fun Dn σ H ⟨ρ, E, A, hE, hA, q⟩ => ⟨ρ, E, A, hE, hA, PostS.fg q⟩
theorem rss_fg (h : RSs X W sts m) : RSs X W sts (sFg is m) := PSs.imp h fun Dn σ H ⟨ρ, E, A, hE, hA, q⟩ => ⟨ρ, E, A, hE, hA, PostS.fg q⟩
end

/-! ### for the printed texts -/
/-- a def's function with the defaults filled in -/
abbrev cl (F : Fn) (dd : List D) : Fn := fun xs A => F (xs ++ dd) A
def blkChk (N : List Str) (sc scope : Scope) (own : List (Str × Nat)) : Bool :=
  (match scope.kind with | .function => true | _ => false) && (scope.names.all fun y => scope.names.lookup y.1 == some y.2) && (own.all fun p => N[p.2]? == some p.1) &&
  (scope.names.all fun y => !(y.2 == .free) || (sc.names.lookup y.1 == some .cell || sc.names.lookup y.1 == some .free)) &&
  (scope.names.all fun y => !(y.2 == .local || y.2 == .cell) || ((own.map (·.1)).contains y.1 || !N.contains y.1))
theorem blk_of {N : List Str} {sc scope : Scope} {own : List (Str × Nat)} (h : blkChk N sc scope own = true) : BlkOk N sc scope own := by
  unfold blkChk at h
  simp only [Bool.and_eq_true, List.all_eq_true, Bool.or_eq_true, Bool.not_eq_true', beq_iff_eq, beq_eq_false_iff_ne, List.contains_iff_mem] at h
  obtain ⟨⟨⟨⟨h1, h2⟩, h3⟩, h4⟩, h5⟩ := h
  refine ⟨?_, fun y hy => h2 y hy, fun p hp => h3 p hp, fun y hy e => ?_, fun y hy e => ?_⟩
  · cases z : scope.kind <;> rw [z] at h1 <;> first | rfl | cases h1
  · rcases h4 y hy with q | q
    · exact absurd e q
    · exact q
  · rcases h5 y hy with q | q
    · rcases e with e | e
      · rw [e] at q; exact absurd q (by decide)
      · rw [e] at q; exact absurd q (by decide)
    · rcases q with q | q
      · exact .inl q
      · exact .inr (by simpa using q)
theorem bt_len : bootBuiltins "len" = some (.builtin "len") := by decide +kernel
theorem bt_list : bootBuiltins "list" = some (.type "list") := by decide +kernel
theorem bt_tuple : bootBuiltins "tuple" = some (.type "tuple") := by decide +kernel
theorem bt_int : bootBuiltins "int" = some (.type "int") := by decide +kernel
theorem bt_bool : bootBuiltins "bool" = some (.type "bool") := by decide +kernel
theorem bt_str : bootBuiltins "str" = some (.type "str") := by decide +kernel
theorem bt_dict : bootBuiltins "dict" = some (.type "dict") := by decide +kernel
theorem bt_abs : bootBuiltins "abs" = some (.builtin "abs") := by decide +kernel
theorem bt_max : bootBuiltins "max" = some (.builtin "max") := by decide +kernel
theorem bt_all : bootBuiltins "all" = some (.builtin "all") := by decide +kernel
theorem bt_any : bootBuiltins "any" = some (.builtin "any") := by decide +kernel
theorem bt_sum : bootBuiltins "sum" = some (.builtin "sum") := by decide +kernel
end DL
set_option Elab.async false
set_option linter.all false
set_option maxRecDepth 100000
set_option maxHeartbeats 4000000
/-! Dicts (own work). -/
namespace DL
open PySem PySem.Spec PyProof.Rows L2
section
variable {κ : Type} [DecidableEq κ]
/-- two keys are alike -/
def keqF (kf : D → Option κ) (a b : D) : Bool := match kf a, kf b with
  | some x, some y => decide (x = y)
  | _, _ => false
def valF (kf : D → Option κ) (kvs : List (D × D)) (k : D) : Option D := (kvs.find? fun p => keqF kf p.1 k).map (·.2)
def putF' (kf : D → Option κ) (kvs : List (D × D)) (k d : D) : List (D × D) := if (kvs.any fun p => keqF kf p.1 k) = true then kvs.map (fun p => if keqF kf p.1 k = true then (p.1, d) else p) else kvs ++ [(k, d)]
variable {kf : D → Option κ} {ρ : Nat → Addr} {n : Nat} {H : Hp}
theorem keqF_eq {a b : D} {x y : κ} (h : kf a = some x) (g : kf b = some y) : keqF kf a b = decide (x = y) := by
  unfold keqF
  rw [h, g]
theorem RepK.val {k : D} {x : κ} (hk : kf k = some x) : ∀ {kvs : List (D × D)} {gs : List (κ × V)}, RepK kf ρ n H kvs gs → (∀ d, valF kf kvs k = some d → ∃ v, valV gs x = some v ∧ RepV ρ n H d v) ∧ (valF kf kvs k = none → valV gs x = none)
  | [], _, .nil => ⟨fun d e => (by cases e), fun _ => rfl⟩
  | (q, d) :: kvs, (y, v) :: gs, .cons a b c => by
    have ih := RepK.val hk c
    have e : keqF kf q k = decide (y = x) := keqF_eq a hk
    unfold valF at ih ⊢
    rw [List.find?_cons]
    show _ ∧ _
    rw [e]
    by_cases z : y = x
    · subst z
      rw [decide_eq_true rfl]
      exact ⟨fun d' e' => by cases e'; exact ⟨v, valV_pos rfl, b⟩, fun e' => by cases e'⟩
    · rw [decide_eq_false z, valV_neg (p := (y, v)) z]
      exact ih
theorem RepK.any {k : D} {x : κ} (hk : kf k = some x) : ∀ {kvs : List (D × D)} {gs : List (κ × V)}, RepK kf ρ n H kvs gs → (kvs.any fun p => keqF kf p.1 k) = gs.any fun kv => decide (kv.1 = x)
  | [], _, .nil => rfl
  | (q, d) :: kvs, (y, v) :: gs, .cons a b c => by
    rw [List.any_cons, List.any_cons, RepK.any hk c, keqF_eq a hk]
theorem RepK.mapPut {k d : D} {x : κ} {v : V} (hk : kf k = some x) (r : RepV ρ n H d v) : ∀ {kvs : List (D × D)} {gs : List (κ × V)}, RepK kf ρ n H kvs gs → RepK kf ρ n H (kvs.map fun p => if keqF kf p.1 k = true then (p.1, d) else p) (gs.map fun kv => if kv.1 = x then (kv.1, v) else kv)
  | [], _, .nil => .nil
  | (q, e) :: kvs, (y, u) :: gs, .cons a b c => by
    have ih := RepK.mapPut hk r c
    have e1 : keqF kf q k = decide (y = x) := keqF_eq a hk
    rw [List.map_cons, List.map_cons]
    show RepK kf ρ n H ((if keqF kf q k = true then (q, d) else (q, e)) :: _) ((if y = x then (y, v) else (y, u)) :: _)
    rw [e1]
    by_cases z : y = x
    · rw [if_pos (decide_eq_true z), if_pos z]
      exact .cons a r ih
    · rw [if_neg (by simp [z]), if_neg z]
      exact .cons a b ih
theorem RepK.app {kvs ls : List (D × D)} {gs hs : List (κ × V)} (a : RepK kf ρ n H kvs gs) (b : RepK kf ρ n H ls hs) : RepK kf ρ n H (kvs ++ ls) (gs ++ hs) := by
  induction a with
  | nil => exact b
  | cons x y _ ih => exact .cons x y ih
theorem RepK.put {k d : D} {x : κ} {v : V} (hk : kf k = some x) (r : RepV ρ n H d v) {kvs : List (D × D)} {gs : List (κ × V)} (h : RepK kf ρ n H kvs gs) : RepK kf ρ n H (putF' kf kvs k d) (putK gs x v) := by
  unfold putF' putK
  rw [h.any hk]
  by_cases z : (gs.any fun kv => decide (kv.1 = x)) = true
  · rw [if_pos z, if_pos z]
    exact h.mapPut hk r
  · rw [if_neg z, if_neg z]
    exact h.app (.cons hk r .nil)
end
section
variable {ρ : Nat → Addr} {n : Nat} {H : Hp}
theorem keyD_rep {k : D} {x : Key} {v : V} (h : keyD k = some x) (r : RepV ρ n H k v) : v = kV x := by
  cases r <;> cases h <;> rfl
theorem keysD_rep : ∀ {ds : List D} {ks : List Key} {vs : List V}, keysD ds = some ks → RepVs ρ n H ds vs → vs = ks.map kV
  | [], ks, _, h, .nil => by cases h; rfl
  | d :: ds, ks, _, h, .cons a b => by
    unfold keysD at h
    cases e1 : keyD d with
    | none => rw [e1] at h; cases h
    | some k =>
      cases e2 : keysD ds with
      | none => rw [e1, e2] at h; cases h
      | some r =>
        rw [e1, e2] at h
        cases h
        rw [keyD_rep e1 a, keysD_rep e2 b]
        rfl
theorem keyT_rep {k : D} {x : List Key} {v : V} (h : keyT k = some x) (r : RepV ρ n H k v) : ∃ b, v = .ref b ∧ H b = some (.tup (x.map kV)) := by
  cases r with
  | tup q1 q2 =>
    have h' : keysD _ = some x := h
    rw [keysD_rep h' q2] at q1
    exact ⟨_, rfl, q1⟩
  | _ => cases h
end
/-! ### d[k], of a list, a tuple, a dict -/
def getO (A : AH) (k : D) : Option O → Res D
  | some (.dic kvs) => if (keyD k).isSome = true then okO A (valF keyD kvs k) else .bad
  | some (.dit kvs) => if (keyT k).isSome = true then okO A (valF keyT kvs k) else .bad
  | _ => .bad
def opGet : Fn
  | [.ref i, k], A => getO A k A[i]?
  | _, _ => .bad
def rGet (K : PySem.W.Frag) : R2 := fun x y H Q => ∃ a v, x = .ref a ∧ DGet H a y (some v) ∧ Q v H
section
variable {X : Cx} {W : WX} {pos : Pos}
theorem ix_dict (hu : X.A.units + 1 < cLine) : IxR X (rGet X.K) := by
  intro value slice pins s σ H x y v u Q I rx ry h hs
  obtain ⟨a, w, rfl, g, q⟩ := h
  obtain rfl : v = Value.ref a := rx
  exact tail_any (dict_typeIs I g) PySem.F.slot_dict_getitem.lookup (d_getItem hu I g ry fun w' s3 I3 rw' => ⟨w, H, I3, rw', q⟩) hs
theorem ok_get : Ok2 X.K (rGet X.K) opGet := fun W ρ A σ H d e v u Q hA rd re h => by
  cases rd with
  | @ref i hi =>
    have h2 : Post X.K W RepV ρ A σ H (getO A e A[i]?) Q := h
    cases z : A[i]? with
    | none => rw [z] at h2; exact h2.elim
    | some o =>
      rw [z] at h2
      cases o with
      | dic kvs =>
        have h3 : Post X.K W RepV ρ A σ H (if (keyD e).isSome = true then okO A (valF keyD kvs e) else .bad) Q := h2
        cases y : keyD e with
        | none => rw [y] at h3; exact h3.elim
        | some k =>
          rw [y, if_pos (show (some k).isSome = true from rfl)] at h3
          obtain ⟨gs, q1, q2⟩ := hA.objs i _ z
          cases y2 : valF keyD kvs e with
          | none => rw [y2] at h3; exact h3.elim
          | some c =>
            rw [y2] at h3
            obtain ⟨w, w1, w2⟩ := (q2.val y).1 c y2
            rw [keyD_rep y re]
            exact ⟨ρ i, w, rfl, by rw [← w1]; exact DGet.k q1, post_val hA h3 w2⟩
      | dit kvs =>
        have h3 : Post X.K W RepV ρ A σ H (if (keyT e).isSome = true then okO A (valF keyT kvs e) else .bad) Q := h2
        cases y : keyT e with
        | none => rw [y] at h3; exact h3.elim
        | some k =>
          rw [y, if_pos (show (some k).isSome = true from rfl)] at h3
          obtain ⟨gs, q1, q2⟩ := hA.objs i _ z
          cases y2 : valF keyT kvs e with
          | none => rw [y2] at h3; exact h3.elim
          | some c =>
            rw [y2] at h3
            obtain ⟨w, w1, w2⟩ := (q2.val y).1 c y2
            obtain ⟨b, rfl, eb⟩ := keyT_rep y re
            exact ⟨ρ i, w, rfl, by rw [← w1]; exact DGet.t q1 eb, post_val hA h3 w2⟩
      | _ => exact h2.elim
  | _ => exact h.elim
theorem Ok2.or {K : PySem.W.Frag} {r r' : R2} {F G : Fn} (a : Ok2 K r F) (b : Ok2 K r' G) {C : Fn} (hC : ∀ d e A, C [d, e] A = F [d, e] A ∨ C [d, e] A = G [d, e] A) : Ok2 K (fun x y H Q => r x y H Q ∨ r' x y H Q) C := fun W ρ A σ H d e v u Q hA rd re h => by
  rcases hC d e A with z | z
  · rw [z] at h; exact .inl (a W ρ A σ H d e v u Q hA rd re h)
  · rw [z] at h; exact .inr (b W ρ A σ H d e v u Q hA rd re h)
def isDk : Option O → Bool
  | some (.dic _) => true
  | some (.dit _) => true
  | _ => false
def isDict (A : AH) : D → Bool
  | .ref i => isDk A[i]?
  | _ => false
/-- o[i], whatever o is -/
def opItem : Fn
  | [d, e], A => if isDict A d = true then opGet [d, e] A else opIx [d, e] A
  | _, _ => .bad
theorem ok_item : Ok2 X.K (fun x y H Q => rGet X.K x y H Q ∨ rIx X.K x y H Q) opItem := ok_get.or ok_ix fun d e A => by
  show (if isDict A d = true then opGet [d, e] A else opIx [d, e] A) = _ ∨ (if isDict A d = true then opGet [d, e] A else opIx [d, e] A) = _
  by_cases z : isDict A d = true
  · exact .inl (if_pos z)
  · exact .inr (if_neg z)
theorem ix_item (hu : X.A.units + 1 < cLine) : IxR X (fun x y H Q => rGet X.K x y H Q ∨ rIx X.K x y H Q) := (ix_dict hu).or ix_seq
/-! ### d[k] = v -/
def putO (i : Nat) (k d : D) (A : AH) : Option O → Option AH
  | some (.dic kvs) => if (keyD k).isSome = true ∧ kvs.length < line then some (A.set i (.dic (putF' keyD kvs k d))) else none
  | some (.dit kvs) => if (keyT k).isSome = true ∧ kvs.length < line then some (A.set i (.dit (putF' keyT kvs k d))) else none
  | _ => none
def stPut : Stx := fun x y d A => match x with
  | .ref i => putO i y d A A[i]?
  | _ => none
theorem ok_put : OkSt X.K rSetD stPut := fun ρ A H x y d u v w B Q hA rx ry rd e hq => by
  cases rx with
  | @ref i hi =>
    have e' : putO i y d A A[i]? = some B := e
    cases z : A[i]? with
    | none => rw [z] at e'; cases e'
    | some o =>
      rw [z] at e'
      cases o with
      | dic kvs =>
        have e2 : (if (keyD y).isSome = true ∧ kvs.length < line then some (A.set i (.dic (putF' keyD kvs y d))) else none) = some B := e'
        by_cases c : (keyD y).isSome = true ∧ kvs.length < line
        · rw [if_pos c] at e2
          obtain ⟨k, hk⟩ := Option.isSome_iff_exists.mp c.1
          obtain ⟨gs, q1, q2⟩ := hA.objs i _ z
          cases e2
          rw [keyD_rep hk ry]
          exact ⟨ρ i, _, rfl, DPut.k q1 (by rw [← q2.len, ← line_eq]; exact c.2), hq _ (Nxt.set hA z rfl rfl fun ex => ⟨_, upd_same, (q2.put hk rd).ext ex⟩)⟩
        · rw [if_neg c] at e2; cases e2
      | dit kvs =>
        have e2 : (if (keyT y).isSome = true ∧ kvs.length < line then some (A.set i (.dit (putF' keyT kvs y d))) else none) = some B := e'
        by_cases c : (keyT y).isSome = true ∧ kvs.length < line
        · rw [if_pos c] at e2
          obtain ⟨k, hk⟩ := Option.isSome_iff_exists.mp c.1
          obtain ⟨gs, q1, q2⟩ := hA.objs i _ z
          cases e2
          obtain ⟨b, rfl, eb⟩ := keyT_rep hk ry
          exact ⟨ρ i, _, rfl, DPut.t q1 eb (by rw [← q2.len, ← line_eq]; exact c.2), hq _ (Nxt.set hA z rfl rfl fun ex => ⟨_, upd_same, (q2.put hk rd).ext ex⟩)⟩
        · rw [if_neg c] at e2; cases e2
      | _ => cases e'
  | _ => cases e
/-- o[i] = v, whatever o is -/
def stItem : Stx := fun x y d A => if isDict A x = true then stPut x y d A else stIx x y d A
def rSetI : TSet := fun o i v H Q => rSetD o i v H Q ∨ rSetL o i v H Q
theorem set_item (hu : X.A.units + 1 < cLine) : PSet X rSetI := fun pins s σ H o i v ov iv u Q I ro ri rv h => by
  rcases h with h | h
  · exact set_dict hu pins s σ H o i v ov iv u Q I ro ri rv h
  · exact set_list pins s σ H o i v ov iv u Q I ro ri rv h
theorem ok_setI : OkSt X.K rSetI stItem := fun ρ A H x y d u v w B Q hA rx ry rd e hq => by
  have e' : (if isDict A x = true then stPut x y d A else stIx x y d A) = some B := e
  by_cases z : isDict A x = true
  · rw [if_pos z] at e'; exact .inl (ok_put ρ A H x y d u v w B Q hA rx ry rd e' hq)
  · rw [if_neg z] at e'; exact .inr (ok_set ρ A H x y d u v w B Q hA rx ry rd e' hq)
end
end DL
set_option Elab.async false
set_option linter.all false
set_option maxRecDepth 100000
set_option maxHeartbeats 4000000
/-! in, defs that call themselves (own work). -/
namespace DL
open PySem PySem.Spec PyProof.Rows L2
/-- a def whose promise asks nothing: the first step for one that calls itself -/
def fnBad : Fn := fun _ _ => .bad
theorem Asks.bad {n : Nat} : Asks n fnBad := fun _ _ h => absurd rfl h
theorem def_bad {P : Program} {w : World} {K : PySem.W.Frag} {mg : Str → Option Value} {base : Heap} {x qual : Str} {params : Arguments} {body : List Stmt} {scope : Scope} {dvs : List V} {kws : List (Str × V)} {f : Addr} {fd : FuncData} {ps : List Str} {ds : List Value} {k : Nat}
    (F : FunD K x qual params body scope dvs kws f fd) (hB : Binds K fd ps ds) : DefOk P w K mg base k f ps ds ps.length fnBad :=
  ⟨⟨fd, ⟨fun vs H Q E h => h.1, fun A outer s H args us vs Q E hr he hb hv hs => by
    obtain ⟨_, ρ, xs, C, _, _, hp⟩ := hs
    exact hp.elim⟩, hB⟩, F.kp⟩
/-! ### k in d -/
def inO (A : AH) (neg : Bool) (k : D) : Option O → Res D
  | some (.dic kvs) => if (keyD k).isSome = true then .ok (.bl (if neg then !(valF keyD kvs k).isSome else (valF keyD kvs k).isSome)) A else .bad
  | some (.dit kvs) => if (keyT k).isSome = true then .ok (.bl (if neg then !(valF keyT kvs k).isSome else (valF keyT kvs k).isSome)) A else .bad
  | _ => .bad
def opInD (neg : Bool) : Fn
  | [k, .ref i], A => inO A neg k A[i]?
  | _, _ => .bad
def rInDict (neg : Bool) : R2 := fun x y H Q => ∃ a o, y = .ref a ∧ DGet H a x o ∧ Q (.bl (if neg then !o.isSome else o.isSome)) H
section
variable {X : Cx}
theorem op_inDict (hu : X.A.units + 1 < cLine) : OpR X (compareOp .In) (rInDict false) := by
  intro pins s σ H x y v u Q I rx ry h
  obtain ⟨a, o, rfl, g, q⟩ := h
  obtain rfl : u = Value.ref a := ry
  exact d_in hu I g rx fun s3 I3 => ⟨.bl o.isSome, H, I3, rfl, q⟩
theorem op_notInDict (hu : X.A.units + 1 < cLine) : OpR X (compareOp .NotIn) (rInDict true) := by
  intro pins s σ H x y v u Q I rx ry h
  obtain ⟨a, o, rfl, g, q⟩ := h
  obtain rfl : u = Value.ref a := ry
  exact d_notIn hu I g rx fun s3 I3 => ⟨.bl (!o.isSome), H, I3, rfl, q⟩
theorem RepK.valO {κ : Type} [DecidableEq κ] {kf : D → Option κ} {ρ : Nat → Addr} {n : Nat} {H : Hp} {k : D} {x : κ} (hk : kf k = some x) {kvs : List (D × D)} {gs : List (κ × V)} (r : RepK kf ρ n H kvs gs) : (valF kf kvs k).isSome = (valV gs x).isSome := by
  cases z : valF kf kvs k with
  | none => rw [(r.val hk).2 z]; rfl
  | some d =>
    obtain ⟨v, h, _⟩ := (r.val hk).1 d z
    rw [h]; rfl
theorem ok_inDict (neg : Bool) : Ok2 X.K (rInDict neg) (opInD neg) := fun W ρ A σ H d e v u Q hA rd re h => by
  cases re with
  | @ref i hi =>
    have h2 : Post X.K W RepV ρ A σ H (inO A neg d A[i]?) Q := h
    cases z : A[i]? with
    | none => rw [z] at h2; exact h2.elim
    | some o =>
      rw [z] at h2
      cases o with
      | dic kvs =>
        have h3 : Post X.K W RepV ρ A σ H (if (keyD d).isSome = true then .ok (.bl (if neg then !(valF keyD kvs d).isSome else (valF keyD kvs d).isSome)) A else .bad) Q := h2
        cases y : keyD d with
        | none => rw [y] at h3; exact h3.elim
        | some k =>
          rw [y, if_pos (show (some k).isSome = true from rfl)] at h3
          obtain ⟨gs, q1, q2⟩ := hA.objs i _ z
          rw [q2.valO y] at h3
          rw [keyD_rep y rd]
          exact ⟨ρ i, _, rfl, DGet.k q1, post_val hA h3 (.bl _)⟩
      | dit kvs =>
        have h3 : Post X.K W RepV ρ A σ H (if (keyT d).isSome = true then .ok (.bl (if neg then !(valF keyT kvs d).isSome else (valF keyT kvs d).isSome)) A else .bad) Q := h2
        cases y : keyT d with
        | none => rw [y] at h3; exact h3.elim
        | some k =>
          rw [y, if_pos (show (some k).isSome = true from rfl)] at h3
          obtain ⟨gs, q1, q2⟩ := hA.objs i _ z
          rw [q2.valO y] at h3
          obtain ⟨b, rfl, eb⟩ := keyT_rep y rd
          exact ⟨ρ i, _, rfl, DGet.t q1 eb, post_val hA h3 (.bl _)⟩
      | _ => exact h2.elim
  | _ => cases rd <;> exact h.elim
/-! ### x in a list or a tuple -/
def inR (A : AH) (neg : Bool) (b : Bool) : Res D := .ok (.bl (if neg then !b else b)) A
def inL (A : AH) (neg : Bool) : Option PyData → Option PyData → Res D
  | some d, some (.list ds) => inR A neg (ds.any fun z => PyData.eqv z d)
  | _, _ => .bad
def toFlat : D → Option V
  | .non => some .non
  | .bl b => some (.bl b)
  | .int i => some (.int i)
  | .str x => some (.str x)
  | _ => none
def inT (A : AH) (neg : Bool) : Option V → Option (List V) → Res D
  | some x, some xs => inR A neg (inV x xs)
  | _, _ => .bad
def opInS (neg : Bool) : Fn
  | [x, .ref i], A => inL A neg (toPy A 60 x) (toPy A 60 (.ref i))
  | [x, .tup ds], A => inT A neg (toFlat x) (allSome (ds.map toFlat))
  | _, _ => .bad
theorem flat_rep {ρ : Nat → Addr} {n : Nat} {H : Hp} {d : D} {v z : V} (h : toFlat d = some z) (r : RepV ρ n H d v) : v = z ∧ flatV z = true := by
  cases r <;> cases h <;> exact ⟨rfl, rfl⟩
theorem flats_rep {ρ : Nat → Addr} {n : Nat} {H : Hp} : ∀ {ds : List D} {vs zs : List V}, ds.map toFlat = zs.map some → RepVs ρ n H ds vs → vs = zs ∧ zs.all flatV = true
  | [], _, zs, h, .nil => by
    cases zs with
    | nil => exact ⟨rfl, rfl⟩
    | cons _ _ => cases h
  | d :: ds, _, zs, h, .cons a b => by
    cases zs with
    | nil => cases h
    | cons z zs =>
      rw [List.map_cons, List.map_cons] at h
      injection h with h1 h2
      obtain ⟨rfl, f1⟩ := flat_rep h1 a
      obtain ⟨rfl, f2⟩ := flats_rep h2 b
      exact ⟨rfl, by rw [List.all_cons, f1, f2]; rfl⟩
def rInS (K : PySem.W.Frag) (neg : Bool) : R2 := fun x y H Q => (∃ d ds, Dp K H x d ∧ Dp K H y (.list ds) ∧ SeqAt.shaped d = true ∧ SeqAt.shaped (.list ds) = true ∧ Q (.bl (if neg then !(ds.any fun z => PyData.eqv z d) else ds.any fun z => PyData.eqv z d)) H) ∨ rIn K neg x y H Q
theorem op_inS (hu : X.A.units + 65 < cLine) : OpR X (compareOp .In) (DL.rInS X.K false) := (op_inD hu).or op_in_seq
theorem op_notInS (hu : X.A.units + 65 < cLine) : OpR X (compareOp .NotIn) (DL.rInS X.K true) := (op_notInD hu).or op_notIn_seq
theorem ok_inS (neg : Bool) : Ok2 X.K (DL.rInS X.K neg) (opInS neg) := fun W ρ A σ H d e v u Q hA rd re h => by
  cases re with
  | @ref i hi =>
    have h2 : Post X.K W RepV ρ A σ H (inL A neg (toPy A 60 d) (toPy A 60 (.ref i))) Q := h
    cases y1 : toPy A 60 d with
    | none => rw [y1] at h2; exact h2.elim
    | some p =>
      cases y2 : toPy A 60 (.ref i) with
      | none => rw [y1, y2] at h2; exact h2.elim
      | some q =>
        rw [y1, y2] at h2
        cases q with
        | list ds => exact .inl ⟨p, ds, toPy_dp hA 60 d v p y1 rd, toPy_dp hA 60 _ _ _ y2 (.ref hi), toPy_shaped y1, toPy_shaped y2, post_val hA h2 (.bl _)⟩
        | _ => exact h2.elim
  | @tup a vs ds q1 q2 =>
    have h2 : Post X.K W RepV ρ A σ H (inT A neg (toFlat d) (allSome (ds.map toFlat))) Q := by cases d <;> exact h
    cases y1 : toFlat d with
    | none => rw [y1] at h2; exact h2.elim
    | some z =>
      cases y2 : allSome (ds.map toFlat) with
      | none => rw [y1, y2] at h2; exact h2.elim
      | some zs =>
        rw [y1, y2] at h2
        obtain ⟨rfl, f1⟩ := flat_rep y1 rd
        obtain ⟨rfl, f2⟩ := flats_rep (allSome_get y2) q2
        exact .inr ⟨a, vs, rfl, .inr (SqT.of q1), f1, f2, post_val hA h2 (.bl _)⟩
  | _ => cases rd <;> exact h.elim
/-- in, whatever stands behind it -/
def opIn (neg : Bool) : Fn
  | [x, y], A => if isDict A y = true then opInD neg [x, y] A else opInS neg [x, y] A
  | _, _ => .bad
def rInA (K : PySem.W.Frag) (neg : Bool) : R2 := fun x y H Q => rInDict neg x y H Q ∨ DL.rInS K neg x y H Q
theorem op_inA (hu : X.A.units + 65 < cLine) : OpR X (compareOp .In) (rInA X.K false) := (op_inDict (by omega)).or (DL.op_inS hu)
theorem op_notInA (hu : X.A.units + 65 < cLine) : OpR X (compareOp .NotIn) (rInA X.K true) := (op_notInDict (by omega)).or (DL.op_notInS hu)
theorem ok_inA (neg : Bool) : Ok2 X.K (rInA X.K neg) (opIn neg) := (ok_inDict neg).or (ok_inS neg) fun d e A => by
  show (if isDict A e = true then _ else _) = _ ∨ (if isDict A e = true then _ else _) = _
  by_cases z : isDict A e = true
  · exact .inl (if_pos z)
  · exact .inr (if_neg z)
end
end DL
set_option Elab.async false
set_option linter.all false
set_option maxRecDepth 100000
set_option maxHeartbeats 4000000
/-! {k: v for ..} (own work). -/
namespace DL
open PySem PySem.Spec PyProof.Rows L2
def addK (n : Nat) (k d : D) (A : AH) : Option O → Option AH
  | some (.dic kvs) => if (keyD k).isSome = true ∧ kvs.length < line then some (A.set n (.dic (putF' keyD kvs k d))) else none
  | _ => none
def kDc4 (n : Nat) (f : AH → Res D) (k : D) : D → AH → Res D := fun d A => okA f (addK n k d A A[n]?)
def kDc3 (e : Ex) (E : Env) (n : Nat) (f : AH → Res D) : D → AH → Res D := fun k A => (e E A).bindN (kDc4 n f k)
def kDc2 (k e : Ex) (E : Env) (n : Nat) (f : AH → Res D) : Bool → AH → Res D := fun b A => if b = true then (k E A).bindN (kDc3 e E n f) else f A
def kDc1 (t : Tx) (k e : Ex) (n : Nat) (f : AH → Res D) : SRes → Res D
  | .nx E A => (t E A).bindN (kDc2 k e E n f)
  | _ => .bad
def dcK (g : Gx) (t : Tx) (k e : Ex) (E : Env) (n : Nat) (f : AH → Res D) (A : AH) : Step → Res D
  | .stop => .ok (.ref n) A
  | .bad => .bad
  | .item d => kDc1 t k e n f (g d E A)
def dcN (src : Src) (g : Gx) (t : Tx) (k e : Ex) (E : Env) (at_ : Nat) : Nat → Nat → AH → Res D
  | 0, _, _ => .bad
  | n + 1, i, A => dcK g t k e E at_ (dcN src g t k e E at_ n (i + 1)) A (src.at A i)
def kDc (g : Gx) (t : Tx) (k e : Ex) (E : Env) : Src → AH → Res D := fun src A => dcN src g t k e E A.length (src.size A + 1) 0 (A ++ [.dic []])
def eDc (it : Ix) (g : Gx) (t : Tx) (k e : Ex) (own : List Nat) : Ex := fun E A => (it E A).bind (kDc g t k e (wipeE E own))
section
variable {X : Cx} {W : WX} {mi : Ix} {g : Gx} {mt : Tx} {mk me : Ex} {own : List Nat}
theorem dc_of {σ : Sl} {H : Hp} {Q : VK} (h : tE X.K W (eDc mi g mt mk me own) σ H Q) :
    tDc (tI X.K W mi) (fun v σ H Q => tG X.K W0 g v σ H fun σ2 H2 => L2.wipe σ2 own = L2.wipe σ own → Q σ2 H2) (tT X.K W0 mt) (tE X.K W0 mk) (tE X.K W0 me) own σ H Q := by
  obtain ⟨ρ, E, A, hE, hA, h⟩ := h
  refine ⟨ρ, E, A, hE, hA, ?_⟩
  have h0 : Post X.K W RepV ρ A σ H ((mi E A).bind (kDc g mt mk me (wipeE E own))) Q := h
  cases z : mi E A with
  | exc x B => rw [z] at h0; exact h0
  | bad => rw [z] at h0; exact h0
  | ok src B =>
    rw [z] at h0
    intro ρ1 J H1 n1 itok L hL
    have h1 : Post X.K W RepV ρ1 B σ H1 (dcN src g mt mk me (wipeE E own) B.length (src.size B + 1) 0 (B ++ [.dic []])) Q := Post.later h0 n1
    obtain ⟨ρ2, eL, n2⟩ := Nxt.alloc (o := .dic []) (ho := .dK []) n1.rep hL rfl fun ρ' _ => ⟨[], upd_same, .nil⟩
    have lB : B.length < (B ++ [O.dic []]).length := by rw [List.length_append]; exact Nat.lt_succ_self _
    refine ⟨fun i m H' => ∃ ρ3 A3, Nxt X.K ρ2 (B ++ [.dic []]) (upd H1 L (.dK [])) ρ3 A3 H' ∧ Post X.K W RepV ρ3 A3 σ H' (dcN src g mt mk me (wipeE E own) B.length m i A3) Q, ⟨src.size B + 1, ρ2, _, .refl n2.rep, Post.later h1 n2⟩, ?_⟩
    rintro i n H3 ⟨ρ3, A3, n3, h3⟩
    cases n with
    | zero => exact h3.elim
    | succ n =>
      have h4 : Post X.K W RepV ρ3 A3 σ H3 (dcK g mt mk me (wipeE E own) B.length (dcN src g mt mk me (wipeE E own) B.length n (i + 1)) A3 (src.at A3 i)) Q := h3
      have nn := n1.trans (n2.trans n3)
      have io := itok ρ3 A3 H3 (n2.trans n3) i
      have eW : RepE ρ3 A3.length H3 (wipeE E own) (L2.wipe σ own) := (hE.ext nn.ext).wipe own
      have e3 : ρ3 B.length = L := (n3.ext.same _ lB).trans eL
      have l3 : B.length < A3.length := Nat.lt_of_lt_of_le lB n3.ext.le
      cases y : src.at A3 i with
      | stop =>
        rw [y] at h4 io
        have q := h4 ρ3 (.ref (ρ3 B.length)) H3 (.refl n3.rep) (.ref l3)
        rw [e3] at q
        exact .inl ⟨io, q⟩
      | bad => rw [y] at h4; exact h4.elim
      | item d =>
        rw [y] at h4 io
        refine .inr ⟨io.1, _, fun H' q => ⟨n, Nat.lt_succ_self _, q⟩, fun x H4 yl => ?_⟩
        obtain ⟨sm, rv⟩ := io.2 x H4 yl
        have n4 := Nxt.same n3.rep sm
        refine ⟨ρ3, wipeE E own, A3, d, eW.ext n4.ext, n4.rep, rv, ?_⟩
        have h5 : Post X.K W RepV ρ3 A3 σ H4 (kDc1 mt mk me B.length (dcN src g mt mk me (wipeE E own) B.length n (i + 1)) (g d (wipeE E own) A3)) Q := Post.later h4 n4
        cases u : g d (wipeE E own) A3 with
        | nx E5 A5 =>
          rw [u] at h5
          intro ρ5 σ5 H5 n5 e5 w5
          have h6 : Post X.K W RepV ρ5 A5 σ H5 ((mt E5 A5).bindN (kDc2 mk me E5 B.length (dcN src g mt mk me (wipeE E own) B.length n (i + 1)))) Q := Post.later h5 n5
          refine ⟨by rw [w5]; exact wipe_wipe, ρ5, E5, A5, e5, n5.rep, Post.bindN h6 fun ρ6 c B6 b6 H6 n6 r6 h7 => ?_⟩
          have r6' : c = b6 := r6
          subst r6'
          cases c with
          | false => exact iteF ⟨ρ6, B6, n3.trans (n4.trans (n5.trans n6)), h7⟩
          | true =>
            have h8 : Post X.K W RepV ρ6 B6 σ H6 ((mk E5 B6).bindN (kDc3 me E5 B.length (dcN src g mt mk me (wipeE E own) B.length n (i + 1)))) Q := h7
            refine iteT ⟨ρ6, E5, B6, e5.ext n6.ext, n6.rep, Post.bindN h8 fun ρ7 kd B7 v7 H7 n7 r7 h9 => ?_⟩
            have h9' : Post X.K W RepV ρ7 B7 σ H7 ((me E5 B7).bindN (kDc4 B.length (dcN src g mt mk me (wipeE E own) B.length n (i + 1)) kd)) Q := h9
            refine ⟨ρ7, E5, B7, (e5.ext n6.ext).ext n7.ext, n7.rep, Post.bindN h9' fun ρ9 dv B9 v9 H9 n9 r9 h10 => ?_⟩
            have h11 : Post X.K W RepV ρ9 B9 σ H9 (okA (dcN src g mt mk me (wipeE E own) B.length n (i + 1)) (addK B.length kd dv B9 B9[B.length]?)) Q := h10
            have n39 := n3.trans (n4.trans (n5.trans (n6.trans (n7.trans n9))))
            have e9 : ρ9 B.length = L := (n39.ext.same _ lB).trans eL
            cases q : B9[B.length]? with
            | none => rw [q] at h11; exact h11.elim
            | some ob =>
              rw [q] at h11
              cases ob with
              | dic kvs =>
                have h12 : Post X.K W RepV ρ9 B9 σ H9 (okA (dcN src g mt mk me (wipeE E own) B.length n (i + 1)) (if (keyD kd).isSome = true ∧ kvs.length < line then some (B9.set B.length (.dic (putF' keyD kvs kd dv))) else none)) Q := h11
                by_cases lt : (keyD kd).isSome = true ∧ kvs.length < line
                · rw [if_pos lt] at h12
                  obtain ⟨key, hkey⟩ := Option.isSome_iff_exists.mp lt.1
                  obtain ⟨gs, q1, q2⟩ := n9.rep.objs _ _ q
                  rw [e9] at q1
                  have n10 : Nxt X.K ρ9 B9 H9 ρ9 (B9.set B.length (.dic (putF' keyD kvs kd dv))) (upd H9 (ρ9 B.length) (.dK (putK gs key v9))) :=
                    Nxt.set n9.rep q rfl rfl fun ex => ⟨_, upd_same, (q2.put hkey r9).ext ex⟩
                  rw [e9] at n10
                  exact ⟨gs, key, keyD_rep hkey (r7.ext n9.ext), q1, by rw [← q2.len, ← line_eq]; exact lt.2, ρ9, _, n39.trans n10, Post.later h12 n10⟩
                · rw [if_neg lt] at h12
                  exact h12.elim
              | _ => exact h11.elim
        | exc x E5 A5 => rw [u] at h5; exact h5.elim
        | rt _ _ => rw [u] at h5; exact h5.elim
        | bk _ _ => rw [u] at h5; exact h5.elim
        | ct _ _ => rw [u] at h5; exact h5.elim
        | bad => rw [u] at h5; exact h5.elim
end
section
variable {X : Cx} {W : WX} {k : Nat} {pos : Pos} {tg iter kx elt : Expr} {ifs : List Expr} {scope : Scope} {own : List (Str × Nat)} {mi : Ix} {g : Gx} {mt : Tx} {mk me : Ex}
theorem re_dc (cx : Ctx X W k) (hi : RI X W tg iter mi) (ok : BlkOk X.N X.env.scope scope own)
    (hg : ∀ s H C cl fp, RGo (blkOf X scope s H C cl fp) W0 (own.map (·.2)) tg g) (ht : ∀ s H C cl fp, RTs (blkOf X scope s H C cl fp) W0 ifs mt) (hk : ∀ s H C cl fp, RE (blkOf X scope s H C cl fp) W0 kx mk) (he : ∀ s H C cl fp, RE (blkOf X scope s H C cl fp) W0 elt me)
    (hs : ∀ x, foldedSetIterable iter X.env x = pure x := by intro _; rfl) : RE X W (.DictComp kx elt [⟨tg, iter, ifs, 0⟩] scope pos) (eDc mi g mt mk me (own.map (·.2))) :=
  PE.imp (pe_dc (g := fun v σ H Q => tG X.K W0 g v σ H fun σ2 H2 => L2.wipe σ2 (own.map (·.2)) = L2.wipe σ (own.map (·.2)) → Q σ2 H2) (tt := tT X.K W0 mt) (tk := tE X.K W0 mk) (tv := tE X.K W0 me) cx.calm cx.nd hi ok hg ht hk he hs) fun σ H Q h => dc_of h
end
end DL
set_option Elab.async false
set_option linter.all false
set_option maxRecDepth 100000
set_option maxHeartbeats 4000000
/-! sorted, count, +=, dict(d) (own work). -/
namespace DL
open PySem PySem.Spec PyProof.Rows L2
def sortI (ns : List Int) : List Int := ns.mergeSort fun a b => decide (a ≤ b)
theorem sortI_eq {ns ms : List Int} (p : ms.Perm ns) (s : ms.Pairwise (· ≤ ·)) : ms = sortI ns := by
  refine List.Perm.eq_of_pairwise (le := (· ≤ ·)) (fun a b _ _ h1 h2 => Int.le_antisymm h1 h2) s ?_ (p.trans (List.mergeSort_perm ns _).symm)
  have := List.pairwise_mergeSort (le := fun a b : Int => decide (a ≤ b)) (fun a b c h1 h2 => by simp at *; omega) (fun a b => by simp; omega) ns
  exact this.imp fun h => of_decide_eq_true h
def sortO (A : AH) : Option (List Int) → Res D
  | some ns => .ok (.ref A.length) (A ++ [.lst ((sortI ns).map D.int)])
  | none => .bad
/-- sorted(list of ints) -/
def biSorted : Fn
  | [.ref i], A => sortO A ((seqAt A i).bind intsOf)
  | _, _ => .bad
def cntO (A : AH) (k : Int) : Option (List Int) → Res D
  | some ns => .ok (.int (ns.count k : Nat)) A
  | none => .bad
/-- l.count(k), ints -/
def mCount : Fn
  | [.ref i, .int k], A => cntO A k ((seqAt A i).bind intsOf)
  | _, _ => .bad
def extO (i : Nat) (A : AH) : Option O → Option O → Res D
  | some (.lst xs), some (.lst ys) => if xs.length + ys.length ≤ line then .ok (.ref i) (A.set i (.lst (xs ++ ys))) else .bad
  | _, _ => .bad
/-- l += m -/
def opExt : Fn
  | [.ref i, .ref j], A => extO i A A[i]? A[j]?
  | _, _ => .bad
/-- x += y of ints, of lists -/
def opIAdd : Fn
  | [.int i, .int j], A => .ok (.int (i + j)) A
  | [.ref i, .ref j], A => extO i A A[i]? A[j]?
  | _, _ => .bad
def dicO (A : AH) : Option O → Res D
  | some (.dic kvs) => .ok (.ref A.length) (A ++ [.dic kvs])
  | _ => .bad
/-- dict(d) -/
def biDict : Fn
  | [.ref i], A => dicO A A[i]?
  | _, _ => .bad
theorem Ctx.u1 {X : Cx} {W : WX} {k : Nat} (c : Ctx X W k) : X.A.units + 1 < cLine := by have := c.room.un; omega
theorem Ctx.u65 {X : Cx} {W : WX} {k : Nat} (c : Ctx X W k) : X.A.units + 65 < cLine := by have := c.room.un; omega
theorem bt_sorted : bootBuiltins "sorted" = some (.builtin "sorted") := by decide +kernel
section
variable {X : Cx}
theorem ok_sorted : OkL X.K (rSortedI X.K) biSorted := fun W ρ A σ H ds vs Q hA r h => by
  obtain ⟨d, v, e1, e2, rd⟩ := one_of (F := biSorted) (fun _ => rfl) (fun d e r A => by cases d <;> rfl) r h
  subst e1 e2
  cases rd with
  | @ref i hi =>
    have h2 : Post X.K W RepV ρ A σ H (sortO A ((seqAt A i).bind intsOf)) Q := h
    cases z : seqAt A i with
    | none => rw [z] at h2; exact h2.elim
    | some xs =>
      rw [z] at h2
      have h3 : Post X.K W RepV ρ A σ H (sortO A (intsOf xs)) Q := h2
      obtain ⟨us, q1, q2⟩ := hA.seq z
      cases y : intsOf xs with
      | none => rw [y] at h3; exact h3.elim
      | some ns =>
        rw [y] at h3
        rw [ints_rep y q2] at q1
        refine ⟨ρ i, ns, rfl, q1, fun ns' p hp hs hq => ?_⟩
        rw [sortI_eq hp hs]
        exact post_lst hA h3 (RepVs.ints _) hq
  | _ => exact h.elim
theorem ok_count : OkM X.K (rCntI X.K) mCount := fun W ρ A σ H d ds v vs Q hA rd rs h => by
  cases rd with
  | @ref i hi => cases rs with
    | nil => exact h.elim
    | cons r1 r2 => cases r2 with
      | cons _ _ => cases r1 <;> exact h.elim
      | nil => cases r1 with
        | int k =>
          have h2 : Post X.K W RepV ρ A σ H (cntO A k ((seqAt A i).bind intsOf)) Q := h
          cases z : seqAt A i with
          | none => rw [z] at h2; exact h2.elim
          | some xs =>
            rw [z] at h2
            have h3 : Post X.K W RepV ρ A σ H (cntO A k (intsOf xs)) Q := h2
            obtain ⟨us, q1, q2⟩ := hA.seq z
            cases y : intsOf xs with
            | none => rw [y] at h3; exact h3.elim
            | some ns =>
              rw [y] at h3
              rw [ints_rep y q2] at q1
              exact ⟨ρ i, ns, k, rfl, rfl, q1, post_val hA h3 (.int _)⟩
        | _ => exact h.elim
  | _ => cases rs with
    | nil => exact h.elim
    | cons r1 r2 => exact h.elim
theorem ok_ext : OkIp X.K rExt2 opExt := fun W ρ A σ H d e v u Q hA rd re h => by
  cases rd with
  | @ref i hi => cases re with
    | @ref j hj =>
      have h2 : Post X.K W RepV ρ A σ H (extO i A A[i]? A[j]?) Q := h
      cases e1 : A[i]? with
      | none => rw [e1] at h2; exact h2.elim
      | some o1 => cases e2 : A[j]? with
        | none => rw [e1, e2] at h2; cases o1 <;> exact h2.elim
        | some o2 =>
          rw [e1, e2] at h2
          cases o1 with
          | lst xs => cases o2 with
            | lst ys =>
              have h3 : Post X.K W RepV ρ A σ H (if xs.length + ys.length ≤ line then .ok (.ref i) (A.set i (.lst (xs ++ ys))) else .bad) Q := h2
              obtain ⟨vs, q1, q2⟩ := lst_at hA e1
              obtain ⟨us, q3, q4⟩ := lst_at hA e2
              by_cases z : xs.length + ys.length ≤ line
              · rw [if_pos z] at h3
                exact ⟨ρ i, ρ j, vs, us, rfl, rfl, q1, q3, by rw [← q2.len, ← q4.len, ← line_eq]; exact z, post_set hA h3 e1 rfl rfl (.ref hi) fun ex => ⟨_, upd_same, (q2.app q4).ext ex⟩⟩
              · rw [if_neg z] at h3; exact h3.elim
            | _ => exact h2.elim
          | _ => exact h2.elim
    | _ => exact h.elim
  | _ => cases re <;> exact h.elim
def rIAdd : TIp := fun x y H Q => ipI (fun i j => i + j) x y H Q ∨ rExt2 x y H Q
theorem ip_iadd : PIp X .Add rIAdd := fun pins s σ H x y v u Q I rx ry h => by
  rcases h with h | h
  · exact ip_add pins s σ H x y v u Q I rx ry h
  · exact iop_ext pins s σ H x y v u Q I rx ry h
theorem ok_iadd : OkIp X.K rIAdd opIAdd := fun W ρ A σ H d e v u Q hA rd re h => by
  cases rd with
  | int i => cases re with
    | int j => exact .inl ⟨i, j, rfl, rfl, post_val hA h (.int _)⟩
    | _ => exact h.elim
  | @ref i hi => cases re with
    | @ref j hj => exact .inr (ok_ext W ρ A σ H (.ref i) (.ref j) _ _ Q hA (.ref hi) (.ref hj) h)
    | _ => exact h.elim
  | _ => cases re <;> exact h.elim
theorem ok_dict : OkL X.K (fun xs H Q => ∃ (a : Addr) (kvs : List (Key × V)), xs = [.ref a] ∧ Rd H a (.dK kvs) ∧ ∀ p, H p = none → Q (.ref p) (upd H p (.dK kvs))) biDict := fun W ρ A σ H ds vs Q hA r h => by
  obtain ⟨d, v, e1, e2, rd⟩ := one_of (F := biDict) (fun _ => rfl) (fun d e r A => by cases d <;> rfl) r h
  subst e1 e2
  cases rd with
  | @ref i hi =>
    have h2 : Post X.K W RepV ρ A σ H (dicO A A[i]?) Q := h
    cases z : A[i]? with
    | none => rw [z] at h2; exact h2.elim
    | some o =>
      rw [z] at h2
      cases o with
      | dic kvs =>
        obtain ⟨gs, q1, q2⟩ := hA.objs i _ z
        exact ⟨ρ i, gs, rfl, .inl q1, fun p hp => post_new hA h2 hp rfl fun ρ' x => ⟨gs, upd_same, q2.ext x⟩⟩
      | _ => exact h2.elim
  | _ => exact h.elim
end
end DL
set_option Elab.async false
set_option linter.all false
set_option maxRecDepth 100000
set_option maxHeartbeats 4000000
/-! zip of two tuples (own work). -/
namespace DL
open PySem PySem.Spec PyProof.Rows L2 RZ
def zipD : List D → List D → List D
  | x :: xs, y :: ys => .tup [x, y] :: zipD xs ys
  | _, _ => []
theorem zipD_get {i : Nat} : ∀ {xs ys : List D}, (zipD xs ys)[i]? = match xs[i]?, ys[i]? with
    | some x, some y => some (.tup [x, y])
    | _, _ => none := by
  induction i with
  | zero =>
    intro xs ys
    cases xs <;> cases ys <;> rfl
  | succ i ih =>
    intro xs ys
    cases xs with
    | nil => cases ys <;> rfl
    | cons x xs => cases ys with
      | nil => 
        show (none : Option D) = match (x :: xs)[i + 1]?, ([] : List D)[i + 1]? with | some x, some y => some (.tup [x, y]) | _, _ => none
        cases (x :: xs)[i + 1]? <;> rfl
      | cons y ys =>
        show (zipD xs ys)[i]? = _
        rw [ih]
        rfl
def kZip : List D → AH → Res Src
  | [.tup xs, .tup ys], A => .ok (.seq (zipD xs ys)) A
  | _, _ => .bad
def iZip (a : Ax) : Ix := fun E A => (a E A).bind kZip
theorem it_zipT {K : PySem.W.Frag} {ρ : Nat → Addr} {A : AH} {H : Hp} {a b : Addr} {xs ys : List D} {vs us : List V} (ha : H a = some (.tup vs)) (hb : H b = some (.tup us)) (ra : RepVs ρ A.length H xs vs) (rb : RepVs ρ A.length H ys us) : ItOk K ρ A H (.seq (zipD xs ys)) (ItzT K a b) := fun ρ1 B H1 n i => by
  have t1 : SqT K H1 a vs := SqT.of (n.ext.tups a vs ha)
  have t2 : SqT K H1 b us := SqT.of (n.ext.tups b us hb)
  have r1 := n.reps ra
  have r2 := n.reps rb
  show match stepO (zipD xs ys)[i]? with | .item d => _ | .stop => _ | .bad => _
  rw [zipD_get]
  cases z : xs[i]? with
  | none => exact ⟨vs, us, t1, t2, .inl (by rw [← r1.len]; exact List.getElem?_eq_none_iff.mp z)⟩
  | some d =>
    cases y : ys[i]? with
    | none => exact ⟨vs, us, t1, t2, .inr (by rw [← r2.len]; exact List.getElem?_eq_none_iff.mp y)⟩
    | some e =>
      obtain ⟨v, h1, h2⟩ := r1.get z
      obtain ⟨u, h3, h4⟩ := r2.get y
      exact ⟨⟨vs, us, v, u, t1, t2, h1, h3⟩, fun w H2 q => by
        obtain ⟨T, v', u', e1, e2, e3, e4, e5⟩ := q
        subst e1 e3
        have q1 := e4 vs t1
        have q2 := e5 us t2
        rw [h1] at q1
        rw [h3] at q2
        cases q1
        cases q2
        have sm := same_new (ho := HO.tup [v, u]) e2
        exact ⟨sm, .tup upd_same (.cons (h2.ext (Nxt.same n.rep sm).ext) (.cons (h4.ext (Nxt.same n.rep sm).ext) .nil))⟩⟩
section
variable {X : Cx} {W : WX} {p pos tpos : Pos} {e e2 : Expr} {mr : Ax} {elts : List Expr} {kk : Nat}
theorem ri_zip (hg : Gl X "zip") (hm : X.mg "zip" = none) (ha : RA X W [e, e2] mr) (hs : starEach [e, e2] X.env = (false, eval e X.env) :: starEach [e2] X.env := by rfl) (hpl : (backTo pos (starEach [e2] X.env)).any (·.1) = false := by rfl) :
    RI X W (.Tuple elts kk tpos) (.Call (.Name "zip" p) [e, e2] [] pos) (iZip mr) := by
  refine PI.imp (pi_zipA hg hm ha hs hpl) fun σ H R ⟨ρ, E, A, hE, hA, h⟩ => ⟨ρ, E, A, hE, hA, PostI.bind h fun ρ1 ds B vs H1 n1 r1 h1 => ?_⟩
  cases r1 with
  | nil => exact h1.elim
  | cons r1 r2 => cases r2 with
    | nil => cases r1 <;> exact h1.elim
    | cons r2 r3 => cases r3 with
      | cons _ _ => cases r1 <;> cases r2 <;> exact h1.elim
      | nil => cases r1 with
        | @tup a vs xs q1 q2 => cases r2 with
          | @tup b us ys q3 q4 => exact ⟨a, b, vs, us, rfl, .inr ⟨SqT.of q1, SqT.of q3, h1 ρ1 _ H1 (.refl n1.rep) (it_zipT q1 q3 q2 q4)⟩⟩
          | _ => exact h1.elim
        | _ => cases r2 <;> exact h1.elim
end
end DL
set_option Elab.async false
set_option linter.all false
set_option maxRecDepth 100000
set_option maxHeartbeats 4000000
/-! Walks over dicts: the dict is locked while it is walked (own work). -/
namespace DL
open PySem PySem.Spec PyProof.Rows L2
/-- no lock of the caller's -/
def NoF (X : Cx) (d : Addr) : Prop := ∀ o' u', X.H_0 d ≠ some (.frz o' u')
/-- the statement may lock one thing; it is unlocked at its end -/
def unl (X : Cx) (Dn : Ends) : Ends := ⟨fun σ H => ∃ d od u, H d = some (.frz od u) ∧ NoF X d ∧ Dn.nx σ (upd H d u), fun v H => ∃ d od u, H d = some (.frz od u) ∧ NoF X d ∧ Dn.rt v (upd H d u),
  fun σ H => ∃ d od u, H d = some (.frz od u) ∧ NoF X d ∧ Dn.bk σ (upd H d u), fun σ H => ∃ d od u, H d = some (.frz od u) ∧ NoF X d ∧ Dn.ct σ (upd H d u)⟩
theorem ps_unl {X : Cx} {st : Stmt} {t : TS} (h : PS X st t) : PS X st (fun Dn σ H => t (unl X Dn) σ H) := by
  refine ⟨fun pins s σ H Dn I hw => ?_⟩
  refine thn (h.run pins s σ _ _ I hw) fun f s1 q => ?_
  cases f with
  | next => obtain ⟨σ', H', I2, d, od, u, e, nf, q⟩ := q; exact ⟨σ', _, I2.unlock e nf, q⟩
  | brk => obtain ⟨σ', H', I2, d, od, u, e, nf, q⟩ := q; exact ⟨σ', _, I2.unlock e nf, q⟩
  | cont => obtain ⟨σ', H', I2, d, od, u, e, nf, q⟩ := q; exact ⟨σ', _, I2.unlock e nf, q⟩
  | ret v => obtain ⟨x, σ', H', I2, r, d, od, u, e, nf, q⟩ := q; exact ⟨x, σ', _, I2.unlock e nf, r, q⟩
def iKeysL (X : Cx) (td : TE) : TI := fun σ H R => td σ H fun x H1 => ∃ d kvs, x = .ref d ∧ H1 d = some (.dK kvs) ∧ ∀ o, NoF X d → R (Itk d o kvs) (upd H1 d (.frz o (.dK kvs)))
def iItemsL (X : Cx) (td : TE) : TI := fun σ H R => td σ H fun x H1 => ∃ d kvs, x = .ref d ∧ H1 d = some (.dK kvs) ∧ ∀ o, NoF X d → R (Iti d o kvs) (upd H1 d (.frz o (.dK kvs)))
section
variable {X : Cx} {tg e : Expr} {td : TE} {apos cpos : Pos}
theorem pi_keysL (he : PE X e td) : PI X tg e (iKeysL X td) := by
  refine ⟨fun pins s σ H R I h => ?_⟩
  refine thn (he.run pins s σ H _ I h) fun u s1 ⟨x, H1, I1, rx, d, kvs, ex, hd0, q⟩ => ?_
  subst ex
  obtain rfl : u = Value.ref d := rx
  have nf := I1.nofrz hd0 trivial
  obtain ⟨o, I2⟩ := I1.lock hd0 trivial
  obtain ⟨hs, hgd, hx, es, ep, vs, hdt, hsz, kv, hm⟩ := I2.frzK (upd_same (H := H1))
  refine iter_keys hs hgd hx hdt (pi_one (tk := s1.toks) I2 _ (turn_keys _ hdt) ⟨_, Heap.get?_push_size _ rfl, rfl, ?_⟩ (q o nf))
  rw [hsz] <;> rfl
theorem pi_itemsL {elts : List Expr} {kk : Nat} {tpos : Pos} (he : PE X e td) (hbase : attributeBase e "items" X.env (eval e X.env) = eval e X.env := by rfl) (hline : (apos.endLine == cpos.line) = true := by rfl) :
    PI X (.Tuple elts kk tpos) (.Call (.Attribute e "items" apos) [] [] cpos) (iItemsL X td) := by
  refine ⟨fun pins s σ H R I h => ?_⟩
  refine wpAny_Call_method (T := "dict") (id := "dict.items") hbase rfl hline F.plainAttrs_dict F.slot_dict_items F.type_dict_items (thn (he.run pins s σ H _ I h) fun u s1 ⟨x, H1, I0, rx, d, kvs, ex, hd0, q⟩ => ?_)
  subst ex
  obtain rfl : u = Value.ref d := rx
  have nf := I0.nofrz hd0 trivial
  obtain ⟨o, I1⟩ := I0.lock hd0 trivial
  obtain ⟨hs, hgd, hx, es, ep, vs, hdt, hsz, kv, hm⟩ := I1.frzK (upd_same (H := H1))
  have hl : kvs.length = vs.length := Paired.length kv
  refine ⟨hm.dictOf.typeIs, hm.dictOf.mapOf.noDict, ?_⟩
  have I2 : Inv X pins σ (upd H1 d (.frz o (.dK kvs))) { s1 with heap := s1.heap.push { cls := .type "dict_items", data := .fields #[.ref d] } } := I1.kept (t' := s1.toks) fun b ob q => Heap.get?_push_of_some _ q
  have fin : wpAny (model X.prog X.w) X.A (pyIter (.ref s1.heap.objs.size)) (PIE X pins σ (.Tuple elts kk tpos) R) X.xe { s1 with heap := s1.heap.push { cls := .type "dict_items", data := .fields #[.ref d] } } := by
    refine wpAny_pyIter_items (d := d) (knd := mixKind X.prog X.w) ⟨_, Heap.get?_push_size _ rfl, rfl, rfl⟩ (hm.push _) (pi_one (tk := s1.toks) I2 _ (turn_items _ hdt) ⟨.none, .none, ?_⟩ (q o nf))
    rw [hl]
    exact Heap.get?_push_size _ rfl
  show wpAny _ _ (callWith cpos (.builtin "dict.items") [.ref d] [] []) _ X.xe s1
  exact method_meetsIn F.slot_dict_items F.entry_dict_items rfl (PySem.evalArgs_none ⟨rfl, hm.dictOf.typeIs, F.args_dict_items_1 _, _, meets_dict_items (mixKind X.prog X.w) d hs, ⟨vs, hm.dictOf⟩, fin⟩)
end
/-! ### the plain loop -/
def unO (i : Nat) (A : AH) : Option O → Option AH
  | some (.fro kvs) => some (A.set i (.dic kvs))
  | _ => none
def unA (i : Nat) (A : AH) : Option AH := unO i A A[i]?
def unN (E : Env) : Option AH → SRes
  | some A => .nx E A
  | none => .bad
def unR (d : D) : Option AH → SRes
  | some A => .rt d A
  | none => .bad
def unS (i : Nat) : SRes → SRes
  | .nx E A => unN E (unA i A)
  | .rt d A => unR d (unA i A)
  | .exc x E A => .exc x E A
  | _ => .bad
def keysOf (kvs : List (D × D)) : List D := kvs.map (·.1)
def pairsOf (kvs : List (D × D)) : List D := kvs.map fun p => .tup [p.1, p.2]
def forDO (f : List (D × D) → List D) (g : Gx) (b : Sx) (E : Env) (i : Nat) (A : AH) : Option O → SRes
  | some (.dic kvs) => unS i (forN (.seq (f kvs)) g b (kvs.length + 1) 0 E (A.set i (.fro kvs)))
  | _ => .bad
def forD (f : List (D × D) → List D) (g : Gx) (b : Sx) (E : Env) : D → AH → SRes
  | .ref i, A => forDO f g b E i A A[i]?
  | _, _ => .bad
def sForK (e : Ex) (g : Gx) (b : Sx) : Sx := fun E A => (e E A).then E (forD keysOf g b E)
def sForI (e : Ex) (g : Gx) (b : Sx) : Sx := fun E A => (e E A).then E (forD pairsOf g b E)
/-! ### it says so -/
theorem keyD_val {ρ : Nat → Addr} {n : Nat} {H : Hp} {d : D} {k : Key} (h : keyD d = some k) : RepV ρ n H d (kV k) := by
  cases d with
  | int i => cases h; exact .int i
  | str x => cases h; exact .str x
  | _ => cases h
theorem RepK.get {κ : Type} {kf : D → Option κ} {ρ : Nat → Addr} {n : Nat} {H : Hp} : ∀ {fs : List (D × D)} {gs : List (κ × V)} {i : Nat} {p : D × D}, RepK kf ρ n H fs gs → fs[i]? = some p → ∃ x v, gs[i]? = some (x, v) ∧ kf p.1 = some x ∧ RepV ρ n H p.2 v
  | [], _, _, _, .nil, e => by simp at e
  | (k, d) :: fs, (x, v) :: gs, 0, _, .cons a b _, e => by
    simp at e; subst e; exact ⟨x, v, by simp, a, b⟩
  | _ :: fs, _ :: gs, i + 1, p, .cons a b c, e => by
    obtain ⟨x, v, h1, h2⟩ := RepK.get (i := i) c (by simpa using e)
    exact ⟨x, v, by simpa using h1, h2⟩
section
variable {K : PySem.W.Frag} {ρ ρ' : Nat → Addr} {A B C : AH} {H H1 H' : Hp} {i : Nat} {kvs kvs' : List (D × D)} {gs gs' : List (Key × V)} {ob : Obj}
theorem it_keys (hl : i < A.length) (hf : H (ρ i) = some (.frz ob (.dK gs))) (r : RepK keyD ρ A.length H kvs gs) : ItOk K ρ A H (.seq (keysOf kvs)) (Itk (ρ i) ob gs) := fun ρ1 B H1 n j => by
  have f1 := n.ext.frzs _ _ _ hf
  have r1 := r.ext n.ext
  show match stepO (keysOf kvs)[j]? with | .item d => _ | .stop => _ | .bad => _
  unfold keysOf
  rw [List.getElem?_map]
  cases z : kvs[j]? with
  | none => exact ⟨f1, by rw [← r1.len]; exact List.getElem?_eq_none_iff.mp z⟩
  | some p =>
    obtain ⟨x, v, h1, h2, h3⟩ := r1.get z
    refine ⟨⟨f1, (List.getElem?_eq_some_iff.mp h1).1⟩, fun y H2 q => ?_⟩
    obtain ⟨e1, k, w, e2, e3⟩ := q
    subst e1 e3
    rw [h1] at e2
    cases e2
    exact ⟨Same.rfl, keyD_val h2⟩
theorem it_items (hl : i < A.length) (hf : H (ρ i) = some (.frz ob (.dK gs))) (r : RepK keyD ρ A.length H kvs gs) : ItOk K ρ A H (.seq (pairsOf kvs)) (Iti (ρ i) ob gs) := fun ρ1 B H1 n j => by
  have f1 := n.ext.frzs _ _ _ hf
  have r1 := r.ext n.ext
  show match stepO (pairsOf kvs)[j]? with | .item d => _ | .stop => _ | .bad => _
  unfold pairsOf
  rw [List.getElem?_map]
  cases z : kvs[j]? with
  | none => exact ⟨f1, by rw [← r1.len]; exact List.getElem?_eq_none_iff.mp z⟩
  | some p =>
    obtain ⟨x, v, h1, h2, h3⟩ := r1.get z
    refine ⟨⟨f1, (List.getElem?_eq_some_iff.mp h1).1⟩, fun y H2 q => ?_⟩
    obtain ⟨T, k, w, e2, e3, e4, e5⟩ := q
    subst e3 e5
    rw [h1] at e2
    cases e2
    have sm : Same H1 (upd H1 T (.tup [kV x, v])) := same_upd e4
    exact ⟨sm, .tup upd_same (.cons (keyD_val h2) (.cons (h3.ext (Nxt.same n.rep sm).ext) .nil))⟩
/-- the dict is locked -/
theorem Nxt.lock (R : RepA K ρ H A) (h : A[i]? = some (.dic kvs)) (q1 : H (ρ i) = some (.dK gs)) (q2 : RepK keyD ρ A.length H kvs gs) (ob : Obj) : Nxt K ρ A H ρ (A.set i (.fro kvs)) (upd H (ρ i) (.frz ob (.dK gs))) :=
  Nxt.set R h rfl rfl fun ex => ⟨ob, gs, upd_same, q2.ext ex⟩
/-- .. and unlocked -/
theorem Nxt.unlock (h : A[i]? = some (.dic kvs)) (q1 : H (ρ i) = some (.dK gs)) (n0 : Nxt K ρ A H ρ B H1) (n : Nxt K ρ B H1 ρ' C H') (hC : C[i]? = some (.fro kvs')) :
    ∃ (ob : Obj) (gs' : List (Key × V)), H' (ρ i) = some (.frz ob (.dK gs')) ∧ Nxt K ρ A H ρ' (C.set i (.dic kvs')) (upd H' (ρ i) (.dK gs')) := by
  have t := n0.trans n
  have ei : ρ' i = ρ i := t.ext.same i (lt_of_get h)
  obtain ⟨ob, gs', c1, c2⟩ := n.rep.objs i _ hC
  rw [ei] at c1
  refine ⟨ob, gs', c1, ⟨by rw [List.length_set]; exact t.ext.le, t.ext.same, fun a vs e => ?_, fun a o u e => ?_⟩, ?_⟩
  · have ne : a ≠ ρ i := fun z => by rw [z, q1] at e; cases e
    rw [upd_ne ne]
    exact t.ext.tups a vs e
  · have ne : a ≠ ρ i := fun z => by rw [z, q1] at e; cases e
    rw [upd_ne ne]
    exact t.ext.frzs a o u e
  · rw [← ei]
    refine n.rep.set hC rfl rfl ⟨gs', upd_same, RepK.hp (fun a vs e => ?_) c2⟩
    rw [upd_ne fun z => by rw [z, ei, c1] at e; cases e]
    exact e
end
section
variable {X : Cx} {W : WX} {ρ ρ1 : Nat → Addr} {A B : AH} {H H1 : Hp} {i : Nat} {kvs : List (D × D)} {gs : List (Key × V)}
theorem PostS.un {r : SRes} {Dn : Ends} (nf : NoF X (ρ i)) (h : A[i]? = some (.dic kvs)) (q1 : H (ρ i) = some (.dK gs)) (n0 : Nxt X.K ρ A H ρ1 B H1) (e0 : ∀ j, j < A.length → ρ1 j = ρ j) (hp : PostS X.K W ρ A H (unS i r) Dn) : PostS X.K W ρ1 B H1 r (unl X Dn) := by
  have key : ∀ {ρ' : Nat → Addr} {C : AH} {H' : Hp}, Nxt X.K ρ1 B H1 ρ' C H' → ∀ {C2 : AH}, unA i C = some C2 → ∃ (ob : Obj) (gs' : List (Key × V)), H' (ρ i) = some (.frz ob (.dK gs')) ∧ Nxt X.K ρ A H ρ' C2 (upd H' (ρ i) (.dK gs')) ∧ C2.length = C.length := by
    intro ρ' C H' n C2 hu
    unfold unA at hu
    cases z : C[i]? with
    | none => rw [z] at hu; cases hu
    | some o =>
      rw [z] at hu
      cases o with
      | fro kvs' =>
        cases hu
        have t := n0.trans n
        have ei : ρ' i = ρ i := t.ext.same i (lt_of_get h)
        obtain ⟨ob, gs', c1, c2⟩ := n.rep.objs i _ z
        rw [ei] at c1
        refine ⟨ob, gs', c1, ⟨⟨by rw [List.length_set]; exact t.ext.le, t.ext.same, fun a vs e => ?_, fun a o u e => ?_⟩, ?_⟩, List.length_set⟩
        · have ne : a ≠ ρ i := fun z => by rw [z, q1] at e; cases e
          rw [upd_ne ne]
          exact t.ext.tups a vs e
        · have ne : a ≠ ρ i := fun z => by rw [z, q1] at e; cases e
          rw [upd_ne ne]
          exact t.ext.frzs a o u e
        · rw [← ei]
          refine n.rep.set z rfl rfl ⟨gs', upd_same, RepK.hp (fun a vs e => ?_) c2⟩
          rw [upd_ne fun z => by rw [z, ei, c1] at e; cases e]
          exact e
      | _ => cases hu
  have tpp : ∀ {H' : Hp} {ob : Obj} {gs' : List (Key × V)}, H' (ρ i) = some (.frz ob (.dK gs')) → ∀ a vs, H' a = some (.tup vs) → upd H' (ρ i) (.dK gs') a = some (.tup vs) := fun c a vs e => by
    rw [upd_ne fun z => by rw [z, c] at e; cases e]
    exact e
  cases r with
  | nx E C =>
    intro ρ' σ H' n r
    have h2 : PostS X.K W ρ A H (unN E (unA i C)) Dn := hp
    cases z : unA i C with
    | none => rw [z] at h2; exact h2.elim
    | some C2 =>
      rw [z] at h2
      obtain ⟨ob, gs', c1, c2, c3⟩ := key n z
      refine ⟨ρ i, ob, _, c1, nf, h2 ρ' σ _ c2 ⟨r.len, fun j d hj => ?_⟩⟩
      obtain ⟨v, v1, v2⟩ := r.get j d hj
      exact ⟨v, v1, by rw [c3]; exact RepV.hp (tpp c1) v2⟩
  | rt d C =>
    intro ρ' v H' n r
    have h2 : PostS X.K W ρ A H (unR d (unA i C)) Dn := hp
    cases z : unA i C with
    | none => rw [z] at h2; exact h2.elim
    | some C2 =>
      rw [z] at h2
      obtain ⟨ob, gs', c1, c2, c3⟩ := key n z
      exact ⟨ρ i, ob, _, c1, nf, h2 ρ' v _ c2 (by rw [c3]; exact RepV.hp (tpp c1) r)⟩
  | exc x E C =>
    intro ρ' c d σ H' n r q
    have h2 : PostS X.K W ρ A H (.exc x E C) Dn := hp
    exact h2 ρ' c d σ H' (n0.trans n) r q
  | bk E C => exact hp.elim
  | ct E C => exact hp.elim
  | bad => exact hp.elim
end
section
variable {X : Cx} {W : WX} {k : Nat} {pos apos cpos : Pos} {tg e : Expr} {body : List Stmt} {g : Gx} {m : Sx} {me : Ex}
/-- the loop itself, the thing being locked -/
theorem forD_run {σ : Sl} {f : List (D × D) → List D} {J : It} {ρ1 : Nat → Addr} {E : Env} {B : AH} {H1 : Hp} {i : Nat} {kvs : List (D × D)} {gs : List (Key × V)} {o : Obj} {Dn : Ends} (nf : NoF X (ρ1 i)) (RB : RepA X.K ρ1 H1 B) (hE : RepE ρ1 B.length H1 E σ) (z : B[i]? = some (.dic kvs)) (q1 : H1 (ρ1 i) = some (.dK gs)) (q2 : RepK keyD ρ1 B.length H1 kvs gs)
    (itok : ItOk X.K ρ1 (B.set i (.fro kvs)) (upd H1 (ρ1 i) (.frz o (.dK gs))) (.seq (f kvs)) J) (h2 : PostS X.K W ρ1 B H1 (unS i (forN (.seq (f kvs)) g m (kvs.length + 1) 0 E (B.set i (.fro kvs)))) Dn) :
    ∃ Wf : Nat → Nat → Sl → Hp → Prop, (∃ m, Wf 0 m σ (upd H1 (ρ1 i) (.frz o (.dK gs)))) ∧ ∀ i2 m2 σ2 H2, Wf i2 m2 σ2 H2 → (J.stop i2 H2 ∧ (unl X Dn).nx σ2 H2) ∨ (J.go i2 H2 ∧ ∃ Nx : Sl → Hp → Prop, (∀ σ' H', Nx σ' H' → ∃ m', m' < m2 ∧ Wf (i2 + 1) m' σ' H') ∧
      ∀ x H', J.yld i2 H2 x H' → tG X.K W g x σ2 H' fun σ3 H3 => tS X.K W m { (unl X Dn) with nx := Nx, ct := Nx, bk := (unl X Dn).nx } σ3 H3) := by
  have n0 := Nxt.lock RB z q1 q2 o
  have h3 := PostS.un (X := X) (W := W) nf z q1 n0 (fun _ _ => rfl) h2
  refine ⟨fun i2 m' σ' H' => ∃ ρ2 E2 A2, RepE ρ2 A2.length H' E2 σ' ∧ Nxt X.K ρ1 (B.set i (.fro kvs)) (upd H1 (ρ1 i) (.frz o (.dK gs))) ρ2 A2 H' ∧ PostS X.K W ρ2 A2 H' (forN (.seq (f kvs)) g m m' i2 E2 A2) (unl X Dn), ⟨kvs.length + 1, ρ1, E, _, hE.ext n0.ext, .refl n0.rep, h3⟩, ?_⟩
  rintro i2 n σ2 H2 ⟨ρ2, E2, A2, e2, n2, h2⟩
  cases n with
  | zero => exact h2.elim
  | succ n =>
    have h3 : PostS X.K W ρ2 A2 H2 (forK g m (forN (.seq (f kvs)) g m n (i2 + 1)) E2 A2 (Src.at A2 i2 (.seq (f kvs)))) (unl X Dn) := h2
    have io := itok ρ2 A2 H2 n2 i2
    cases z : Src.at A2 i2 (.seq (f kvs)) with
    | stop =>
      rw [z] at h3 io
      exact .inl ⟨io, h3 ρ2 σ2 H2 (.refl n2.rep) e2⟩
    | bad =>
      rw [z] at h3
      exact h3.elim
    | item d =>
      rw [z] at h3 io
      refine .inr ⟨io.1, _, fun σ' H' q => ⟨n, Nat.lt_succ_self _, q⟩, fun x H3 y => ?_⟩
      obtain ⟨sm, rv⟩ := io.2 x H3 y
      have n3 := Nxt.same n2.rep sm
      refine ⟨ρ2, E2, A2, d, e2.ext n3.ext, n3.rep, rv, PostG.turn (PostS.later h3 n3) fun ρ4 E4 A4 σ4 H4 n4 e4 h4 => ⟨ρ4, E4, A4, e4, n4.rep, PostS.turn h4 fun ρ5 E5 A5 σ5 H5 n5 e5 h5 => ?_⟩⟩
      exact ⟨ρ5, E5, A5, e5, n2.trans (n3.trans (n4.trans n5)), h5⟩
theorem rs_forK (cx : Ctx X W k) (he : RE X W e me) (hg : RG X W tg g) (hb : RSs X W body m) (hs : ∀ x, foldedSetIterable e X.env x = pure x := by intro _; rfl) : RS X W (.For tg e body [] pos) (sForK me g m) := by
  refine PS.imp (ps_unl (ps_for cx.po cx.calm (pi_keysL he) hg hb hs)) fun Dn σ H ⟨ρ, E, A, hE, hA, h⟩ => ⟨ρ, E, A, hE, hA, PostS.then hE h fun ρ1 d B v H1 n1 r1 h1 => ?_⟩
  cases r1 with
  | @ref i hi =>
    have h2 : PostS X.K W ρ1 B H1 (forDO keysOf g m E i B B[i]?) Dn := h1
    cases z : B[i]? with
    | none => rw [z] at h2; exact h2.elim
    | some ob =>
      rw [z] at h2
      cases ob with
      | dic kvs =>
        obtain ⟨gs, q1, q2⟩ := n1.rep.objs i _ z
        refine ⟨ρ1 i, gs, rfl, q1, fun o nf => ?_⟩
        have n0 := Nxt.lock n1.rep z q1 q2 o
        exact forD_run (W := W) (f := keysOf) nf n1.rep (hE.ext n1.ext) z q1 q2 (it_keys (by rw [List.length_set]; exact hi) upd_same (by rw [List.length_set]; exact RepK.hp n0.ext.tups q2)) h2
      | _ => exact h2.elim
  | _ => exact h1.elim
theorem rs_forI {elts : List Expr} {kk : Nat} {tpos : Pos} (cx : Ctx X W k) (he : RE X W e me) (hg : RG X W (.Tuple elts kk tpos) g) (hb : RSs X W body m) (hbase : attributeBase e "items" X.env (eval e X.env) = eval e X.env := by rfl) (hline : (apos.endLine == cpos.line) = true := by rfl)
    (hs : ∀ x, foldedSetIterable (.Call (.Attribute e "items" apos) [] [] cpos) X.env x = pure x := by intro _; rfl) : RS X W (.For (.Tuple elts kk tpos) (.Call (.Attribute e "items" apos) [] [] cpos) body [] pos) (sForI me g m) := by
  refine PS.imp (ps_unl (ps_for cx.po cx.calm (pi_itemsL he hbase hline) hg hb hs)) fun Dn σ H ⟨ρ, E, A, hE, hA, h⟩ => ⟨ρ, E, A, hE, hA, PostS.then hE h fun ρ1 d B v H1 n1 r1 h1 => ?_⟩
  cases r1 with
  | @ref i hi =>
    have h2 : PostS X.K W ρ1 B H1 (forDO pairsOf g m E i B B[i]?) Dn := h1
    cases z : B[i]? with
    | none => rw [z] at h2; exact h2.elim
    | some ob =>
      rw [z] at h2
      cases ob with
      | dic kvs =>
        obtain ⟨gs, q1, q2⟩ := n1.rep.objs i _ z
        refine ⟨ρ1 i, gs, rfl, q1, fun o nf => ?_⟩
        have n0 := Nxt.lock n1.rep z q1 q2 o
        exact forD_run (W := W) (f := pairsOf) nf n1.rep (hE.ext n1.ext) z q1 q2 (it_items (by rw [List.length_set]; exact hi) upd_same (by rw [List.length_set]; exact RepK.hp n0.ext.tups q2)) h2
      | _ => exact h2.elim
  | _ => exact h1.elim
end
end DL
set_option Elab.async false
set_option linter.all false
set_option maxRecDepth 100000
set_option maxHeartbeats 4000000
/-! Further operations: d.get(k, x), dicts compared, dict(pairs), list(d), max, min of more, len(set(l)), o.f op= e, {k: v} (own work). -/
namespace DL
open PySem PySem.Spec PyProof.Rows L2
theorem CallR.or {X : Cx} {f : Value} {r r' : List V → Hp → VK → Prop} (a : CallR X f r) (b : CallR X f r') : CallR X f (fun xs H Q => r xs H Q ∨ r' xs H Q) := fun pins s σ H xs us Q I rv h => by
  rcases h with h | h
  · exact a pins s σ H xs us Q I rv h
  · exact b pins s σ H xs us Q I rv h
theorem OkL.or {K : PySem.W.Frag} {r r' : List V → Hp → VK → Prop} {F G C : Fn} (a : OkL K r F) (b : OkL K r' G) (hC : ∀ ds A, C ds A = F ds A ∨ C ds A = G ds A) : OkL K (fun xs H Q => r xs H Q ∨ r' xs H Q) C := fun W ρ A σ H ds vs Q hA rv h => by
  rcases hC ds A with z | z
  · rw [z] at h; exact .inl (a W ρ A σ H ds vs Q hA rv h)
  · rw [z] at h; exact .inr (b W ρ A σ H ds vs Q hA rv h)
/-! ### d.get(k, x) -/
def get2O (A : AH) (k d : D) : Option O → Res D
  | some (.dic kvs) => if (keyD k).isSome = true then .ok ((valF keyD kvs k).getD d) A else .bad
  | _ => .bad
def get2D (x k d : D) (A : AH) : Res D := match x with
  | .ref i => get2O A k d A[i]?
  | _ => .bad
def kGc (x y : D) : D → AH → Res D := fun z A => get2D x y z A
def kGb (d : Ex) (E : Env) (x : D) : D → AH → Res D := fun y A => (d E A).bind (kGc x y)
def isDicO : Option O → Bool
  | some (.dic _) => true
  | _ => false
def isDic (A : AH) : D → Bool
  | .ref i => isDicO A[i]?
  | _ => false
def kGa (k d : Ex) (E : Env) : D → AH → Res D := fun x A => if isDic A x = true then (k E A).bind (kGb d E x) else .bad
def eGet2 (o k d : Ex) : Ex := fun E A => (o E A).bind (kGa k d E)
theorem dic_at {K : PySem.W.Frag} {ρ : Nat → Addr} {A : AH} {H : Hp} {x : D} {v : V} (hA : RepA K ρ H A) (r : RepV ρ A.length H x v) (h : isDic A x = true) : ∃ i kvs gs, x = .ref i ∧ v = .ref (ρ i) ∧ A[i]? = some (.dic kvs) ∧ H (ρ i) = some (.dK gs) ∧ RepK keyD ρ A.length H kvs gs := by
  cases r with
  | @ref i hi =>
    have h' : isDicO A[i]? = true := h
    cases z : A[i]? with
    | none => rw [z] at h'; cases h'
    | some o =>
      rw [z] at h'
      cases o with
      | dic kvs =>
        obtain ⟨gs, q1, q2⟩ := hA.objs i _ z
        exact ⟨i, kvs, gs, rfl, rfl, z, q1, q2⟩
      | _ => cases h'
  | _ => cases h
section
variable {X : Cx} {W : WX} {k : Nat} {pos apos cpos : Pos} {o e f : Expr} {mo me mf : Ex}
theorem re_get2 (cx : Ctx X W k) (ho : RE X W o mo) (he : RE X W e me) (hf : RE X W f mf) (m : M2 X o "get" apos e f cpos := by exact ⟨by rfl, by rfl, by rfl, by rfl⟩) : RE X W (.Call (.Attribute o "get" apos) [e, f] [] cpos) (eGet2 mo me mf) := by
  refine PE.imp (pe_dget2 cx.u1 ho he hf m) fun σ H Q ⟨ρ, E, A, hE, hA, h⟩ => ⟨ρ, E, A, hE, hA, Post.bind h fun ρ1 x B v H1 n1 r1 h1 => ?_⟩
  have h2 : Post X.K W RepV ρ1 B σ H1 (if isDic B x = true then (me E B).bind (kGb mf E x) else .bad) Q := h1
  by_cases z : isDic B x = true
  · rw [if_pos z] at h2
    obtain ⟨i, kvs, gs, ex, ev, zi, q1, q2⟩ := dic_at n1.rep r1 z
    subst ex ev
    refine ⟨ρ1 i, rfl, .inl ⟨gs, .inl q1⟩, ρ1, E, B, hE.ext n1.ext, n1.rep, Post.bind h2 fun ρ2 y B2 u H2 n2 r2 h3 => ?_⟩
    have h3' : Post X.K W RepV ρ2 B2 σ H2 ((mf E B2).bind (kGc (.ref i) y)) Q := h3
    refine ⟨ρ2, E, B2, (hE.ext n1.ext).ext n2.ext, n2.rep, Post.bind h3' fun ρ3 z3 B3 w H3 n3 r3 h4 => ?_⟩
    have h5 : Post X.K W RepV ρ3 B3 σ H3 (get2O B3 y z3 B3[i]?) Q := h4
    have r1' : RepV ρ3 B3.length H3 (.ref i) (.ref (ρ1 i)) := (r1.ext n2.ext).ext n3.ext
    cases t : B3[i]? with
    | none => rw [t] at h5; exact h5.elim
    | some ob =>
      rw [t] at h5
      cases ob with
      | dic kvs3 =>
        obtain ⟨gs3, g1, g2⟩ := n3.rep.objs i _ t
        have ei : ρ3 i = ρ1 i := by rw [n3.ext.same i (Nat.lt_of_lt_of_le (lt_of_get zi) n2.ext.le), n2.ext.same i (lt_of_get zi)]
        rw [ei] at g1
        have h6 : Post X.K W RepV ρ3 B3 σ H3 (if (keyD y).isSome = true then .ok ((valF keyD kvs3 y).getD z3) B3 else .bad) Q := h5
        cases yk : keyD y with
        | none => rw [yk] at h6; exact h6.elim
        | some key =>
          rw [yk, if_pos (show (some key).isSome = true from rfl)] at h6
          refine ⟨valV gs3 key, ?_, ?_⟩
          · rw [keyD_rep yk (r2.ext n3.ext)]
            exact DGet.k g1
          · cases t2 : valF keyD kvs3 y with
            | none =>
              rw [t2] at h6
              rw [(g2.val yk).2 t2]
              exact post_val n3.rep h6 r3
            | some c =>
              rw [t2] at h6
              obtain ⟨w2, w3, w4⟩ := (g2.val yk).1 c t2
              rw [w3]
              exact post_val n3.rep h6 w4
      | _ => exact h5.elim
  · rw [if_neg z] at h2
    exact h2.elim
end
/-! ### dicts compared -/
def eqPs (A : AH) (ls : List (D × D)) : List (D × D) → Option Bool
  | [] => some true
  | p :: r => match valF keyD ls p.1 with
    | none => some false
    | some u => match toPy A 60 p.2, toPy A 60 u, eqPs A ls r with
      | some a, some b, some c => some (PyData.eqv a b && c)
      | _, _, _ => none
def okB (A : AH) (f : Bool → Bool) : Option Bool → Res D
  | some b => .ok (.bl (f b)) A
  | none => .bad
def eqDO (A : AH) (f : Bool → Bool) : Option O → Option O → Res D
  | some (.dic ks), some (.dic ls) => okB A (fun b => f (ks.length == ls.length && b)) (eqPs A ls ks)
  | _, _ => .bad
def eqDD (f : Bool → Bool) : Fn
  | [.ref i, .ref j], A => eqDO A f A[i]? A[j]?
  | _, _ => .bad
def opEqX : Fn
  | [x, y], A => if isDic A x = true then eqDD id [x, y] A else opEq [x, y] A
  | _, _ => .bad
def opNeX : Fn
  | [x, y], A => if isDic A x = true then eqDD not [x, y] A else opNe [x, y] A
  | _, _ => .bad
inductive HitsV (K : PySem.W.Frag) (H : Hp) (ls : List (Key × V)) : List (Key × V) → Bool → Prop
  | nil : HitsV K H ls [] true
  | miss {k : Key} {v : V} {r : List (Key × V)} : valV ls k = none → HitsV K H ls ((k, v) :: r) false
  | hit {k : Key} {v u : V} {r : List (Key × V)} {a b : PyData} {c : Bool} : valV ls k = some u → Dp K H v a → Dp K H u b → SeqAt.shaped a = true → SeqAt.shaped b = true → HitsV K H ls r c → HitsV K H ls ((k, v) :: r) (PyData.eqv a b && c)
def rEqDD (K : PySem.W.Frag) (f : Bool → Bool) : R2 := fun x y H Q => ∃ a b ks ls c, x = .ref a ∧ y = .ref b ∧ H a = some (.dK ks) ∧ H b = some (.dK ls) ∧ HitsV K H ls ks c ∧ Q (.bl (f (ks.length == ls.length && c))) H
section
variable {X : Cx} {pins : List (Addr × Obj)} {σ : L2.St} {H : Hp} {s : Shared}
theorem hitsV_run (I : Inv X pins σ H s) {A : Around} (hu : A.in1.units + 64 < cLine) {ls : List (Key × V)} {vb : List (Key × Value)} (rb : KV ls vb) : ∀ {ks : List (Key × V)} {va : List (Key × Value)} {c : Bool}, KV ks va → HitsV X.K H ls ks c → PySem.W.KeqHits A.in1 s vb va c := by
  intro ks va c ra
  unfold KV at ra
  induction ra generalizing c with
  | nil => intro h; cases h; exact .nil
  | @cons p q ps qs h t k =>
    obtain ⟨h1, h2⟩ := h
    obtain ⟨pk, pv⟩ := p
    obtain ⟨qk, qv⟩ := q
    have h1' : pk = qk := h1
    subst h1'
    intro hh
    cases hh with
    | miss hn =>
      have rr := rb.val pk
      rw [hn] at rr
      refine .miss ?_
      cases z : valueAt vb pk with
      | none => rfl
      | some y => rw [z] at rr; exact rr.elim
    | @hit _ _ u _ a b c' hu' da db sa sb hr =>
      have rr : RelO (some u) (valueAt vb pk) := by rw [← hu']; exact rb.val pk
      obtain ⟨y, hy, ry⟩ := rr.some_of
      obtain ⟨as, r1⟩ := Dp.reads I a pv qv da h2
      obtain ⟨bs, r2⟩ := Dp.reads I b u y db ry
      exact .hit hy (PySem.W.keq_at r1 r2 sa sb hu) (k hr)
theorem op_eqDD (hu : X.A.units + 65 < cLine) : OpR X (compareOp .Eq) (rEqDD X.K id) := by
  intro pins s σ H x y v u Q I rx ry h
  obtain ⟨a, b, ks, ls, c, rfl, rfl, ea, eb, hp, q⟩ := h
  obtain rfl : v = Value.ref a := rx
  obtain rfl : u = Value.ref b := ry
  obtain ⟨_, ya, va, ra, da⟩ := (show ObjOk X.prog X.w H s.heap a (.dK ks) from I.hok a _ ea)
  obtain ⟨_, yb, vb, rb, db⟩ := (show ObjOk X.prog X.w H s.heap b (.dK ls) from I.hok b _ eb)
  refine PySem.W.keq_eq (knd := mixKind X.prog X.w) (r := c) ya yb da db (by omega) (fun _ => hitsV_run I (by show X.A.units + 1 + 64 < cLine; omega) rb ra hp) ⟨.bl (va.length == vb.length && c), H, I, rfl, ?_⟩
  rw [← ra.length, ← rb.length]
  exact q
theorem op_neDD (hu : X.A.units + 65 < cLine) : OpR X (compareOp .NotEq) (rEqDD X.K not) := by
  intro pins s σ H x y v u Q I rx ry h
  obtain ⟨a, b, ks, ls, c, rfl, rfl, ea, eb, hp, q⟩ := h
  obtain rfl : v = Value.ref a := rx
  obtain rfl : u = Value.ref b := ry
  obtain ⟨_, ya, va, ra, da⟩ := (show ObjOk X.prog X.w H s.heap a (.dK ks) from I.hok a _ ea)
  obtain ⟨_, yb, vb, rb, db⟩ := (show ObjOk X.prog X.w H s.heap b (.dK ls) from I.hok b _ eb)
  refine PySem.W.keq_ne (knd := mixKind X.prog X.w) (r := c) ya yb da db (by omega) (fun _ => hitsV_run I (by show X.A.units + 1 + 64 < cLine; omega) rb ra hp) ⟨.bl (!(va.length == vb.length && c)), H, I, rfl, ?_⟩
  rw [← ra.length, ← rb.length]
  exact q
theorem eqPs_rep {K : PySem.W.Frag} {ρ : Nat → Addr} {A : AH} (hA : RepA K ρ H A) {ls : List (D × D)} {gl : List (Key × V)} (rl : RepK keyD ρ A.length H ls gl) : ∀ {ks : List (D × D)} {gs : List (Key × V)} {c : Bool}, eqPs A ls ks = some c → RepK keyD ρ A.length H ks gs → HitsV K H gl gs c
  | [], _, c, h, .nil => by cases h; exact .nil
  | (kd, d) :: ks, (x, v) :: gs, c, h, .cons a b t => by
    have h' : (match valF keyD ls kd with
      | none => some false
      | some u => match toPy A 60 d, toPy A 60 u, eqPs A ls ks with
        | some a, some b, some c => some (PyData.eqv a b && c)
        | _, _, _ => none) = some c := h
    cases z : valF keyD ls kd with
    | none =>
      rw [z] at h'
      cases h'
      exact .miss ((rl.val a).2 z)
    | some u =>
      rw [z] at h'
      obtain ⟨w, w1, w2⟩ := (rl.val a).1 u z
      cases y1 : toPy A 60 d with
      | none => simp only [y1] at h'; cases h'
      | some p1 =>
        cases y2 : toPy A 60 u with
        | none => simp only [y1, y2] at h'; cases h'
        | some p2 =>
          cases y3 : eqPs A ls ks with
          | none => simp only [y1, y2, y3] at h'; cases h'
          | some c' =>
            simp only [y1, y2, y3] at h'
            cases h'
            exact .hit w1 (toPy_dp hA 60 d v p1 y1 b) (toPy_dp hA 60 u w p2 y2 w2) (toPy_shaped y1) (toPy_shaped y2) (eqPs_rep hA rl y3 t)
theorem ok_eqDD (f : Bool → Bool) : Ok2 X.K (rEqDD X.K f) (eqDD f) := fun W ρ A σ H d e v u Q hA rd re h => by
  cases rd with
  | @ref i hi => cases re with
    | @ref j hj =>
      have h2 : Post X.K W RepV ρ A σ H (eqDO A f A[i]? A[j]?) Q := h
      cases z1 : A[i]? with
      | none => rw [z1] at h2; exact h2.elim
      | some o1 =>
        cases z2 : A[j]? with
        | none => rw [z1, z2] at h2; cases o1 <;> exact h2.elim
        | some o2 =>
          rw [z1, z2] at h2
          cases o1 with
          | dic ks => cases o2 with
            | dic ls =>
              have h3 : Post X.K W RepV ρ A σ H (okB A (fun b => f (ks.length == ls.length && b)) (eqPs A ls ks)) Q := h2
              obtain ⟨gs, q1, q2⟩ := hA.objs i _ z1
              obtain ⟨gl, q3, q4⟩ := hA.objs j _ z2
              cases y : eqPs A ls ks with
              | none => rw [y] at h3; exact h3.elim
              | some c =>
                rw [y] at h3
                refine ⟨ρ i, ρ j, gs, gl, c, rfl, rfl, q1, q3, eqPs_rep hA q4 y q2, ?_⟩
                rw [← q2.len, ← q4.len]
                exact post_val hA h3 (.bl _)
            | _ => exact h2.elim
          | _ => exact h2.elim
    | _ => exact h.elim
  | _ => exact h.elim
theorem op_eqA (hu : X.A.units + 65 < cLine) : OpR X (compareOp .Eq) (fun x y H Q => rEqDD X.K id x y H Q ∨ rEqD X.K x y H Q) := (op_eqDD hu).or (op_eqD (by omega))
theorem op_neA (hu : X.A.units + 65 < cLine) : OpR X (compareOp .NotEq) (fun x y H Q => rEqDD X.K not x y H Q ∨ rNeD X.K x y H Q) := (op_neDD hu).or (op_neD (by omega))
theorem ok_eqA : Ok2 X.K (fun x y H Q => rEqDD X.K id x y H Q ∨ rEqD X.K x y H Q) opEqX := (ok_eqDD id).or ok_eq fun d e A => by
  show (if isDic A d = true then _ else _) = _ ∨ (if isDic A d = true then _ else _) = _
  by_cases z : isDic A d = true
  · exact .inl (if_pos z)
  · exact .inr (if_neg z)
theorem ok_neA : Ok2 X.K (fun x y H Q => rEqDD X.K not x y H Q ∨ rNeD X.K x y H Q) opNeX := (ok_eqDD not).or ok_ne fun d e A => by
  show (if isDic A d = true then _ else _) = _ ∨ (if isDic A d = true then _ else _) = _
  by_cases z : isDic A d = true
  · exact .inl (if_pos z)
  · exact .inr (if_neg z)
end
/-! ### dict(pairs), list(d) -/
def pairD : D → Option (D × D)
  | .tup [k, v] => if (keyD k).isSome = true then some (k, v) else none
  | _ => none
def mergeF (kvs more : List (D × D)) : List (D × D) := more.foldl (fun acc p => putF' keyD acc p.1 p.2) kvs
def dicPO (A : AH) : Option (List (D × D)) → Res D
  | some ps => .ok (.ref A.length) (A ++ [.dic (mergeF [] ps)])
  | none => .bad
def dicLO (A : AH) : Option (List D) → Res D
  | some ds => dicPO A (allSome (ds.map pairD))
  | none => .bad
def biDictP : Fn
  | [.ref i], A => dicLO A (seqAt A i)
  | _, _ => .bad
def biDictX : Fn
  | [x], A => if isDic A x = true then biDict [x] A else biDictP [x] A
  | _, _ => .bad
def lstDO (A : AH) : Option O → Res D
  | some (.dic kvs) => .ok (.ref A.length) (A ++ [.lst (kvs.map (·.1))])
  | _ => .bad
def biListD : Fn
  | [.ref i], A => lstDO A A[i]?
  | _, _ => .bad
def biListX : Fn
  | [x], A => if isDic A x = true then biListD [x] A else biList [x] A
  | _, _ => .bad
section
variable {X : Cx} {ρ : Nat → Addr} {n : Nat} {H : Hp}
theorem RepK.merge : ∀ {more : List (D × D)} {gm : List (Key × V)} {kvs : List (D × D)} {gs : List (Key × V)}, RepK keyD ρ n H more gm → RepK keyD ρ n H kvs gs → RepK keyD ρ n H (mergeF kvs more) (mergeK gs gm)
  | [], _, _, _, .nil, h => h
  | p :: more, q :: gm, kvs, gs, .cons a b c, h => RepK.merge (kvs := putF' keyD kvs p.1 p.2) (gs := putK gs q.1 q.2) c (h.put a b)
theorem pairs_rep : ∀ {ds : List D} {ps : List (D × D)} {vs : List V}, ds.map pairD = ps.map some → RepVs ρ n H ds vs → ∃ (as : List Addr) (gm : List (Key × V)), vs = as.map V.ref ∧ RepK keyD ρ n H ps gm ∧ Paired (fun p kv => H p = some (.tup [kV kv.1, kv.2])) as gm
  | [], ps, _, h, .nil => by
    cases ps with
    | nil => exact ⟨[], [], rfl, .nil, .nil⟩
    | cons _ _ => cases h
  | d :: ds, ps, v :: vs, h, .cons r1 r2 => by
    cases ps with
    | nil => cases h
    | cons p ps =>
      rw [List.map_cons, List.map_cons] at h
      injection h with h1 h2
      obtain ⟨as, gm, e1, e2, e3⟩ := pairs_rep h2 r2
      cases r1 with
      | @tup a us es q1 q2 =>
        cases q2 with
        | nil => cases h1
        | cons s1 s2 => cases s2 with
          | nil => cases h1
          | cons s3 s4 => cases s4 with
            | cons _ _ => cases h1
            | nil =>
              rename_i k u x w
              have h3 : (if (keyD k).isSome = true then some (k, x) else none) = some p := h1
              by_cases z : (keyD k).isSome = true
              · rw [if_pos z] at h3
                cases h3
                obtain ⟨key, hk⟩ := Option.isSome_iff_exists.mp z
                refine ⟨a :: as, (key, w) :: gm, by rw [e1]; rfl, .cons hk s3 e2, .cons ?_ e3⟩
                rw [← keyD_rep hk s1]
                exact q1
              · rw [if_neg z] at h3
                cases h3
      | _ => cases h1
theorem paired_imp {α β : Type} {F G : α → β → Prop} (h : ∀ a b, F a b → G a b) : ∀ {as : List α} {bs : List β}, Paired F as bs → Paired G as bs
  | _, _, .nil => .nil
  | _, _, .cons a b => .cons (h _ _ a) (paired_imp h b)
def rDictP (K : PySem.W.Frag) : List V → Hp → VK → Prop := fun xs H Q => ∃ (a : Addr) (ps : List Addr) (kvs : List (Key × V)), xs = [.ref a] ∧ SqL K H a (ps.map V.ref) ∧ Paired (fun p kv => SqT K H p [kV kv.1, kv.2]) ps kvs ∧
    ∀ p, H p = none → Q (.ref p) (upd H p (.dK (mergeK [] kvs)))
def rDictD : List V → Hp → VK → Prop := fun xs H Q => ∃ (a : Addr) (kvs : List (Key × V)), xs = [.ref a] ∧ Rd H a (.dK kvs) ∧ ∀ p, H p = none → Q (.ref p) (upd H p (.dK kvs))
theorem ok_dictP : OkL X.K (rDictP X.K) biDictP := fun W ρ A σ H ds vs Q hA r h => by
  obtain ⟨d, v, e1, e2, rd⟩ := one_of (F := biDictP) (fun _ => rfl) (fun d e r A => by cases d <;> rfl) r h
  subst e1 e2
  cases rd with
  | @ref i hi =>
    have h2 : Post X.K W RepV ρ A σ H (dicLO A (seqAt A i)) Q := h
    cases z : seqAt A i with
    | none => rw [z] at h2; exact h2.elim
    | some xs =>
      rw [z] at h2
      have h3 : Post X.K W RepV ρ A σ H (dicPO A (allSome (xs.map pairD))) Q := h2
      obtain ⟨us, q1, q2⟩ := hA.seq z
      cases y : allSome (xs.map pairD) with
      | none => rw [y] at h3; exact h3.elim
      | some ps =>
        rw [y] at h3
        obtain ⟨as, gm, e1, e2, e3⟩ := pairs_rep (allSome_get y) q2
        subst e1
        exact ⟨ρ i, as, gm, rfl, q1, paired_imp (fun a b q => SqT.of q) e3, fun p hp => post_new hA h3 hp rfl fun ρ' x => ⟨_, upd_same, (RepK.merge e2 .nil).ext x⟩⟩
  | _ => exact h.elim
theorem cr_dictX (hc : X.calm = true) : CallR X (.type "dict") (fun xs H Q => rDictD xs H Q ∨ rDictP X.K xs H Q) := CallR.or call_dictD (call_dictP hc)
theorem ok_dictX : OkL X.K (fun xs H Q => rDictD xs H Q ∨ rDictP X.K xs H Q) biDictX := OkL.or ok_dict ok_dictP fun ds A => by
  cases ds with
  | nil => exact .inl rfl
  | cons d ds => cases ds with
    | cons e es => exact .inl (by cases d <;> rfl)
    | nil =>
      show (if isDic A d = true then _ else _) = _ ∨ (if isDic A d = true then _ else _) = _
      by_cases z : isDic A d = true
      · exact .inl (if_pos z)
      · exact .inr (if_neg z)
theorem ok_listD : OkL X.K rListD biListD := fun W ρ A σ H ds vs Q hA r h => by
  obtain ⟨d, v, e1, e2, rd⟩ := one_of (F := biListD) (fun _ => rfl) (fun d e r A => by cases d <;> rfl) r h
  subst e1 e2
  cases rd with
  | @ref i hi =>
    have h2 : Post X.K W RepV ρ A σ H (lstDO A A[i]?) Q := h
    cases z : A[i]? with
    | none => rw [z] at h2; exact h2.elim
    | some o =>
      rw [z] at h2
      cases o with
      | dic kvs =>
        obtain ⟨gs, q1, q2⟩ := hA.objs i _ z
        exact ⟨ρ i, gs, rfl, q1, fun p hp => post_lst hA h2 (repK_keys q2) hp⟩
      | _ => exact h2.elim
  | _ => exact h.elim
end
end DL
set_option Elab.async false
set_option linter.all false
set_option maxRecDepth 100000
set_option maxHeartbeats 4000000
/-! max, min of more, len(set(l)), o.f op= e, {k: v}, list(d) (own work). -/
namespace DL
open PySem PySem.Spec PyProof.Rows L2
section
variable {X : Cx}
def rLstS (K : PySem.W.Frag) : List V → Hp → VK → Prop := fun xs H Q => ∃ p ys, xs = [.ref p] ∧ (SqL K H p ys ∨ SqT K H p ys) ∧ ∀ l, H l = none → Q (.ref l) (upd H l (.lst ys))
theorem cr_listX (hc : X.calm = true) : CallR X (.type "list") (fun xs H Q => rListD xs H Q ∨ rLstS X.K xs H Q) := CallR.or (call_list_dK hc) call_list_of
theorem ok_listX : OkL X.K (fun xs H Q => rListD xs H Q ∨ rLstS X.K xs H Q) biListX := OkL.or ok_listD ok_list fun ds A => by
  cases ds with
  | nil => exact .inl rfl
  | cons d ds => cases ds with
    | cons e es => exact .inl (by cases d <;> rfl)
    | nil =>
      show (if isDic A d = true then _ else _) = _ ∨ (if isDic A d = true then _ else _) = _
      by_cases z : isDic A d = true
      · exact .inl (if_pos z)
      · exact .inr (if_neg z)
end
/-! ### max of tuples of ints, of two ints; min of a tuple of ints -/
theorem bt_min : bootBuiltins "min" = some (.builtin "min") := by decide +kernel
def tupPy (ns : List Int) : PyData := .tuple (ns.map .int)
def ltT (a b : List Int) : Bool := PySem.W.dataLt (tupPy a) (tupPy b)
def maxL (n : List Int) (nss : List (List Int)) : List Int := nss.foldl (fun a y => if ltT a y then y else a) n
def D.ints? : D → Option (List Int)
  | .tup ds => intsOf ds
  | _ => none
def maxTO (A : AH) : Option (List (List Int)) → Res D
  | some (n :: ns) => .ok (.tup ((maxL n ns).map D.int)) A
  | _ => .bad
def maxLO (A : AH) : Option (List D) → Res D
  | some ds => maxTO A (allSome (ds.map D.ints?))
  | none => .bad
def biMaxT : Fn
  | [.ref i], A => maxLO A (seqAt A i)
  | _, _ => .bad
def biMax2 : Fn
  | [.int i, .int j], A => .ok (.int (if j > i then j else i)) A
  | _, _ => .bad
def isTupL : Option (List D) → Bool
  | some (.tup _ :: _) => true
  | _ => false
def isTups (A : AH) : List D → Bool
  | [.ref i] => isTupL (seqAt A i)
  | _ => false
def isTwo : List D → Bool
  | [_, _] => true
  | _ => false
def biMaxX : Fn := fun ds A => if isTwo ds = true then biMax2 ds A else if isTups A ds = true then biMaxT ds A else biMax ds A
def minI (m : Int) (ns : List Int) : Int := ns.foldl min m
def minO (A : AH) : Option (List Int) → Res D
  | some (n :: ns) => .ok (.int (minI n ns)) A
  | _ => .bad
def biMinT : Fn
  | [.tup ds], A => minO A (intsOf ds)
  | _, _ => .bad
theorem foldl_tupPy : ∀ (nss : List (List Int)) (n : List Int), PySem.W.maxD (tupPy n) (nss.map tupPy) = tupPy (maxL n nss)
  | [], n => rfl
  | m :: nss, n => by
    have ih := foldl_tupPy nss (if ltT n m then m else n)
    unfold PySem.W.maxD maxL at ih ⊢
    rw [List.map_cons, List.foldl_cons, List.foldl_cons]
    have e : (if PySem.W.dataLt (tupPy n) (tupPy m) = true then tupPy m else tupPy n) = tupPy (if ltT n m = true then m else n) := by
      by_cases z : ltT n m = true
      · rw [if_pos z, if_pos (show PySem.W.dataLt (tupPy n) (tupPy m) = true from z)]
      · rw [if_neg z, if_neg (show ¬ PySem.W.dataLt (tupPy n) (tupPy m) = true from z)]
    rw [e]
    exact ih
theorem tupPy_inj {a b : List Int} (h : tupPy a = tupPy b) : a = b := by
  unfold tupPy at h
  injection h with h
  have := congrArg (List.map fun p : PyData => match p with | .int i => i | _ => 0) h
  simpa [List.map_map, Function.comp_def] using this
theorem plain_ints : ∀ ns : List Int, PyData.plainAll (ns.map .int) = true
  | [] => by simp [PyData.plainAll]
  | n :: ns => by simp [PyData.plainAll, PyData.plain, plain_ints ns]
theorem plain_tupPy (ns : List Int) : (tupPy ns).plain = true := by
  unfold tupPy
  rw [PyData.plain]
  exact plain_ints ns
theorem alike_ints : ∀ a b : List Int, PySem.W.alikeAll (a.map .int) (b.map .int) = true
  | [], b => by cases b <;> rfl
  | _ :: _, [] => rfl
  | x :: a, y :: b => by
    rw [List.map_cons, List.map_cons, PySem.W.alikeAll, alike_ints a b]
    rfl
theorem depth_ints (ns : List Int) : PyData.depthAll (ns.map .int) ≤ 0 := depthAll_of fun p h => by
  obtain ⟨i, _, rfl⟩ := List.mem_map.mp h
  exact Nat.le_of_eq rfl
theorem depth_tupPys (nss : List (List Int)) : PyData.depthAll (nss.map tupPy) ≤ 1 := depthAll_of fun p h => by
  obtain ⟨i, _, rfl⟩ := List.mem_map.mp h
  exact Nat.succ_le_succ (depth_ints i)
section
variable {X : Cx} {pins : List (Addr × Obj)} {σ : L2.St} {H : Hp} {s : Shared}
theorem dpAll_ints {K : PySem.W.Frag} : ∀ ns : List Int, DpAll K H (ns.map V.int) (ns.map PyData.int)
  | [] => .nil
  | n :: ns => .cons (.int n) (dpAll_ints ns)
theorem dpAll_tups {K : PySem.W.Frag} : ∀ {as : List Addr} {nss : List (List Int)}, Paired (fun p ns => SqT K H p (ns.map V.int)) as nss → DpAll K H (as.map V.ref) (nss.map tupPy)
  | _, _, .nil => .nil
  | _, _, .cons a b => .cons (.tup a (dpAll_ints _)) (dpAll_tups b)
theorem paired_get {α β : Type} {F : α → β → Prop} : ∀ {as : List α} {bs : List β} {i : Nat} {a : α}, Paired F as bs → as[i]? = some a → ∃ b, bs[i]? = some b ∧ F a b
  | _, _, _, _, .nil, h => by simp at h
  | _, _, 0, _, .cons h _, e => by simp at e; subst e; exact ⟨_, by simp, h⟩
  | _, _, i + 1, _, .cons _ t, e => by
    obtain ⟨b, h1, h2⟩ := paired_get (i := i) t (by simpa using e)
    exact ⟨b, by simpa using h1, h2⟩
def rMaxT (K : PySem.W.Frag) : List V → Hp → VK → Prop := fun xs H Q => ∃ (a : Addr) (as : List Addr) (n : List Int) (nss : List (List Int)), xs = [.ref a] ∧ SqL K H a (as.map V.ref) ∧ Paired (fun p ns => SqT K H p (ns.map V.int)) as (n :: nss) ∧
  ∀ (i : Nat) p, as[i]? = some p → (n :: nss)[i]? = some (maxL n nss) → Q (.ref p) H
theorem cr_maxT (hc : X.calm = true) (hu : X.A.units + 65 < cLine) : CallR X (.builtin "max") (rMaxT X.K) := by
  intro pins s σ H vs us Q I r h
  obtain ⟨a, as, n, nss, rfl, hs, hp, q⟩ := h
  obtain ⟨its, rv, hl, _⟩ := I.list hs
  rw [Vals.ref1 r]
  obtain ⟨bs, hr⟩ := Dp.readsAll I _ _ its (dpAll_tups hp) rv
  have ei := refs_at rv
  subst ei
  have hr' : ReadsAll s.heap (as.map Value.ref).toArray.toList (tupPy n :: nss.map tupPy) bs := by simpa using hr
  refine PySem.W.max_list_data (I.ok.hd hc) hl.isList hr' ⟨fun x hx y hy => ?_, fun x hx => ?_⟩ ?_ fun i v h' tk bs' hv hre hk => ?_
  · have hx' : x ∈ (n :: nss).map tupPy := hx
    have hy' : y ∈ (n :: nss).map tupPy := hy
    obtain ⟨m1, _, rfl⟩ := List.mem_map.mp hx'
    obtain ⟨m2, _, rfl⟩ := List.mem_map.mp hy'
    exact alike_ints m1 m2
  · have hx' : x ∈ (n :: nss).map tupPy := hx
    obtain ⟨m1, _, rfl⟩ := List.mem_map.mp hx'
    intro z; cases z
  · have := depth_tupPys (n :: nss)
    have e : PyData.depthAll (tupPy n :: nss.map tupPy) ≤ 1 := this
    omega
  · have hv' : (as.map Value.ref)[i]? = some v := by simpa using hv
    rw [List.getElem?_map] at hv'
    obtain ⟨p, hp1, rfl⟩ := Option.map_eq_some_iff.mp hv'
    obtain ⟨ns, hn1, hn2⟩ := paired_get hp hp1
    have I2 : Inv X pins σ H { s with heap := h', toks := tk } := I.kept hk
    obtain ⟨cs, r2⟩ := Dp.reads I2 (tupPy ns) (.ref p) (.ref p) (.tup hn2 (dpAll_ints ns)) rfl
    rw [foldl_tupPy] at hre
    have e := (PySem.SeqAt.readOf_plain (plain_tupPy _) hre).symm.trans (PySem.SeqAt.readOf_plain (plain_tupPy _) r2)
    have e2 := tupPy_inj e
    exact ⟨.ref p, H, I2, rfl, q i p hp1 (by rw [e2]; exact hn1)⟩
def rMinT (K : PySem.W.Frag) : List V → Hp → VK → Prop := fun vs H Q => ∃ (a : Addr) (n : Int) (ns : List Int), vs = [V.ref a] ∧ SqT K H a ((n :: ns).map V.int) ∧ Q (.int (minI n ns)) H
theorem cr_minT (hc : X.calm = true) (hu : X.A.units + 65 < cLine) : CallR X (.builtin "min") (rMinT X.K) := by
  intro pins s σ H vs us Q I r h
  obtain ⟨a, n, ns, rfl, hs, q⟩ := h
  obtain ⟨its, rv, hl, _⟩ := I.tuple hs
  rw [Vals.ref1 r]
  obtain ⟨bs, hr⟩ := Dp.readsAll I _ _ its (dpAll_ints (n :: ns)) rv
  have hr' : ReadsAll s.heap its.toArray.toList (PyData.int n :: ns.map .int) bs := by simpa using hr
  refine PySem.W.min_tuple_data (I.ok.hd hc) (show s.heap.IsTuple a its.toArray from hl) hr' ⟨fun x hx y hy => ?_, fun x hx => ?_⟩ ?_ fun i v h' tk bs' hv hre hk => ?_
  · have hx' : x ∈ (n :: ns).map PyData.int := hx
    have hy' : y ∈ (n :: ns).map PyData.int := hy
    obtain ⟨m1, _, rfl⟩ := List.mem_map.mp hx'
    obtain ⟨m2, _, rfl⟩ := List.mem_map.mp hy'
    rfl
  · have hx' : x ∈ (n :: ns).map PyData.int := hx
    obtain ⟨m1, _, rfl⟩ := List.mem_map.mp hx'
    intro z; cases z
  · have e : PyData.depthAll (PyData.int n :: ns.map .int) ≤ 0 := depth_ints (n :: ns)
    omega
  · rw [PySem.W.minD_ints] at hre
    cases hre with
    | int _ t => exact ⟨.int _, H, I.kept hk, ⟨t, rfl⟩, q⟩
theorem intsOf_get {ds : List D} {ns : List Int} (h : intsOf ds = some ns) : ds = ns.map D.int := by
  have q := allSome_get (show allSome (ds.map D.int?) = some ns from h)
  clear h
  induction ds generalizing ns with
  | nil =>
    cases ns with
    | nil => rfl
    | cons _ _ => cases q
  | cons d ds ih =>
    cases ns with
    | nil => cases q
    | cons n ns =>
      rw [List.map_cons, List.map_cons] at q
      injection q with q1 q2
      cases d with
      | int i => cases q1; rw [List.map_cons, ← ih q2]
      | _ => cases q1
theorem tups_rep {K : PySem.W.Frag} {ρ : Nat → Addr} {n : Nat} : ∀ {ds : List D} {nss : List (List Int)} {vs : List V}, ds.map D.ints? = nss.map some → RepVs ρ n H ds vs → ∃ as : List Addr, vs = as.map V.ref ∧ Paired (fun p ns => H p = some (.tup (ns.map V.int))) as nss
  | [], nss, _, h, .nil => by
    cases nss with
    | nil => exact ⟨[], rfl, .nil⟩
    | cons _ _ => cases h
  | d :: ds, nss, v :: vs, h, .cons r1 r2 => by
    cases nss with
    | nil => cases h
    | cons ns nss =>
      rw [List.map_cons, List.map_cons] at h
      injection h with h1 h2
      obtain ⟨as, e1, e2⟩ := tups_rep (K := K) h2 r2
      cases r1 with
      | @tup a us es q1 q2 =>
        have h3 : intsOf es = some ns := h1
        rw [intsOf_get h3] at q2
        rw [RepVs.of_ints q2] at q1
        exact ⟨a :: as, by rw [e1]; rfl, .cons q1 e2⟩
      | _ => cases h1
theorem ok_maxT : OkL X.K (rMaxT X.K) biMaxT := fun W ρ A σ H ds vs Q hA r h => by
  obtain ⟨d, v, e1, e2, rd⟩ := one_of (F := biMaxT) (fun _ => rfl) (fun d e r A => by cases d <;> rfl) r h
  subst e1 e2
  cases rd with
  | @ref i hi =>
    have h2 : Post X.K W RepV ρ A σ H (maxLO A (seqAt A i)) Q := h
    cases z : seqAt A i with
    | none => rw [z] at h2; exact h2.elim
    | some xs =>
      rw [z] at h2
      have h3 : Post X.K W RepV ρ A σ H (maxTO A (allSome (xs.map D.ints?))) Q := h2
      obtain ⟨us, q1, q2⟩ := hA.seq z
      cases y : allSome (xs.map D.ints?) with
      | none => rw [y] at h3; exact h3.elim
      | some nss =>
        rw [y] at h3
        cases nss with
        | nil => exact h3.elim
        | cons n ns =>
          obtain ⟨as, e1, e2⟩ := tups_rep (K := X.K) (allSome_get y) q2
          subst e1
          refine ⟨ρ i, as, n, ns, rfl, q1, paired_imp (fun a b q => SqT.of q) e2, fun j p hp hm => ?_⟩
          obtain ⟨m, m1, m2⟩ := paired_get e2 hp
          rw [hm] at m1
          cases m1
          exact post_val hA (show Post X.K W RepV ρ A σ H (.ok (.tup ((maxL n ns).map D.int)) A) Q from h3) (.tup m2 (RepVs.ints _))
  | _ => exact h.elim
theorem ok_max2 : OkL X.K (fun xs H Q => ∃ i j, xs = [.int i, .int j] ∧ Q (.int (if j > i then j else i)) H) biMax2 := fun W ρ A σ H ds vs Q hA r h => by
  cases r with
  | nil => exact h.elim
  | cons r1 r2 => cases r2 with
    | nil => cases r1 <;> exact h.elim
    | cons r2 r3 => cases r3 with
      | cons _ _ => cases r1 <;> cases r2 <;> exact h.elim
      | nil => cases r1 with
        | int i => cases r2 with
          | int j => exact ⟨i, j, rfl, post_val hA h (.int _)⟩
          | _ => exact h.elim
        | _ => cases r2 <;> exact h.elim
def rMaxX (K : PySem.W.Frag) : List V → Hp → VK → Prop := fun xs H Q => (∃ i j, xs = [.int i, .int j] ∧ Q (.int (if j > i then j else i)) H) ∨ rMaxT K xs H Q ∨ rMax K xs H Q
theorem cr_maxX (hc : X.calm = true) (hu : X.A.units + 65 < cLine) : CallR X (.builtin "max") (rMaxX X.K) := CallR.or (call_max2 hc) (CallR.or (cr_maxT hc hu) (cr_max hc))
theorem ok_maxX : OkL X.K (rMaxX X.K) biMaxX := fun W ρ A σ H ds vs Q hA r h => by
  have h' : Post X.K W RepV ρ A σ H (if isTwo ds = true then biMax2 ds A else if isTups A ds = true then biMaxT ds A else biMax ds A) Q := h
  by_cases z : isTwo ds = true
  · rw [if_pos z] at h'
    exact .inl (ok_max2 W ρ A σ H ds vs Q hA r h')
  · rw [if_neg z] at h'
    by_cases y : isTups A ds = true
    · rw [if_pos y] at h'
      exact .inr (.inl (ok_maxT W ρ A σ H ds vs Q hA r h'))
    · rw [if_neg y] at h'
      exact .inr (.inr (ok_max W ρ A σ H ds vs Q hA r h'))
theorem ok_minT : OkL X.K (rMinT X.K) biMinT := fun W ρ A σ H ds vs Q hA r h => by
  obtain ⟨d, v, e1, e2, rd⟩ := one_of (F := biMinT) (fun _ => rfl) (fun d e r A => by cases d <;> rfl) r h
  subst e1 e2
  cases rd with
  | @tup a us es q1 q2 =>
    have h2 : Post X.K W RepV ρ A σ H (minO A (intsOf es)) Q := h
    cases y : intsOf es with
    | none => rw [y] at h2; exact h2.elim
    | some ns =>
      rw [y] at h2
      cases ns with
      | nil => exact h2.elim
      | cons n ns =>
        rw [intsOf_get y] at q2
        rw [RepVs.of_ints q2] at q1
        exact ⟨a, n, ns, rfl, SqT.of q1, post_val hA (show Post X.K W RepV ρ A σ H (.ok (.int (minI n ns)) A) Q from h2) (.int _)⟩
  | _ => exact h.elim
end
/-! ### len(set(l)) -/
def setN (ns : List Int) : List Int := PyProof.Rows.firstMet (fun i => ns.getD i 0) ns.length
def lenSO (A : AH) : Option (List Int) → Res D
  | some ns => if ns.length ≤ 4000 then .ok (.int (setN ns).length) A else .bad
  | none => .bad
def kLenSet : D → AH → Res D
  | .ref i, A => lenSO A ((seqAt A i).bind intsOf)
  | _, _ => .bad
def eLenSet (e : Ex) : Ex := fun E A => (e E A).bind kLenSet
theorem setN_len (ns : List Int) : ∀ i, (PyProof.Rows.firstMet (fun i => ns.getD i 0) i).length ≤ i
  | 0 => Nat.le_refl _
  | i + 1 => by
    rw [PyProof.Rows.firstMet_succ]
    unfold step_dedup
    split
    · exact Nat.le_succ_of_le (setN_len ns i)
    · rw [List.length_append]
      exact Nat.succ_le_succ (setN_len ns i)
section
variable {X : Cx} {W : WX} {p p2 q pos pos' tpos : Pos} {a o e value : Expr} {ma mo me : Ex} {k : Nat}
theorem re_lenSet (cx : Ctx X W k) (hg : Gl X "len") (hm : X.mg "len" = none) (hg2 : Gl X "set") (hm2 : X.mg "set" = none) (ha : RE X W a ma) (na : starEach [a] X.env = (false, eval a X.env) :: starEach [] X.env := by rfl) :
    RE X W (.Call (.Name "len" p) [.Call (.Name "set" p2) [a] [] q] [] pos) (eLenSet ma) := by
  refine ⟨fun pins s σ H Q I ⟨ρ, E, A, hE, hA, h⟩ => ?_⟩
  refine Call_ (ld_blt I hg hm boot_len ?_)
  refine PyProof.Rows.callWith_builtin1 (PyProof.Rows.args_cons ?_ rfl) rfl rfl
  refine Call_ (ld_blt I hg2 hm2 boot_set ?_)
  have q0 := ha.run pins s σ H _ I ⟨ρ, E, A, hE, hA, Post.bind h fun ρ1 d B v H1 n1 r1 h1 => (⟨ρ1, d, B, n1, r1, h1⟩ : ∃ ρ1 d B, Nxt X.K ρ A H ρ1 B H1 ∧ RepV ρ1 B.length H1 d v ∧ Post X.K W RepV ρ1 B σ H1 (kLenSet d B) Q)⟩
  refine PyProof.Rows.callWith_type1 (PyProof.Rows.args_cons (thn q0 fun v s1 ⟨x, H1, I1, r1, ρ1, d, B, n1, rd, h1⟩ => PyProof.Rows.args_nil ?_) na) na rfl
  cases rd with
  | @ref i hi =>
    have h2 : Post X.K W RepV ρ1 B σ H1 (lenSO B ((seqAt B i).bind intsOf)) Q := h1
    cases z : seqAt B i with
    | none => rw [z] at h2; exact h2.elim
    | some xs =>
      rw [z] at h2
      have h3 : Post X.K W RepV ρ1 B σ H1 (lenSO B (intsOf xs)) Q := h2
      obtain ⟨us, q1, q2⟩ := n1.rep.seq z
      cases y : intsOf xs with
      | none => rw [y] at h3; exact h3.elim
      | some ns =>
        rw [y] at h3
        have h4 : Post X.K W RepV ρ1 B σ H1 (if ns.length ≤ 4000 then .ok (.int (setN ns).length) B else .bad) Q := h3
        by_cases hl : ns.length ≤ 4000
        · rw [if_pos hl] at h4
          rw [ints_rep y q2] at q1
          cases r1
          obtain ⟨its, r, pl, hz⟩ := I1.list q1
          have hlen : its.toArray.size = ns.length := by rw [List.size_toArray, ← r.length, List.length_map]
          refine call_set_list (I1.ok.hd cx.calm) pl.isList (by simpa using RZ.intsAre_vals r) (by rw [hlen]; unfold scanBound; omega) fun h' tk hS hk => ?_
          refine PyProof.Rows.args_nil ?_
          rw [hlen] at hS
          obtain ⟨o, es, ep, t, ho, hex, hd, _, _, _, hf, hn⟩ := hS
          have I2 : Inv X pins σ H1 { s1 with heap := h', toks := tk } := I1.kept fun b o e => hk b o (Heap.lt_size e) e
          have hn' : es.size = (setN ns).length := hn
          have := setN_len ns ns.length
          exact call_len_set ho hex hd hf (by rw [hn]; have e : ((firstMet (fun i => ns.getD i 0) ns.length).length : Int) = ((setN ns).length : Nat) := rfl; omega) ⟨.int (setN ns).length, H1, I2.tok _, ⟨_, by rw [hn']⟩, h4 ρ1 _ H1 (.refl n1.rep) (.int _)⟩
        · rw [if_neg hl] at h4
          exact h4.elim
  | _ => exact h1.elim
/-! ### o.f op= e -/
def OkIn (K : PySem.W.Frag) (rd : V → V → Hp → VK → Prop) (F : Fn) : Prop := ∀ W ρ A σ H d e v u Q, RepA K ρ H A → RepV ρ A.length H d v → RepV ρ A.length H e u → Post K W RepV ρ A σ H (F [d, e] A) Q → rd v u H Q
theorem ok_inAdd : OkIn X.K rAdd opAddI := fun W ρ A σ H d e v u Q hA rd re h => by
  cases rd with
  | int i => cases re with
    | int j => exact ⟨i, j, rfl, rfl, post_val hA h (.int _)⟩
    | _ => exact h.elim
  | _ => cases re <;> exact h.elim
theorem ok_inSub : OkIn X.K rSub opSubI := fun W ρ A σ H d e v u Q hA rd re h => by
  cases rd with
  | int i => cases re with
    | int j => exact ⟨i, j, rfl, rfl, post_val hA h (.int _)⟩
    | _ => exact h.elim
  | _ => cases re <;> exact h.elim
theorem rs_fldAug {cs : List Nat} {c0 n : Nat} {x : Str} {op : Operator} {rd : V → V → Hp → VK → Prop} {F : Fn} (at_ : At X.K cs n x) (hop : InOp X op rd) (hk : OkIn X.K rd F) (ho : RE X W o mo) (he : RE X W value me) (hcs : cs = [c0] := by rfl) : RS X W (.AugAssign (.Attribute o x tpos) op value pos) (sFldAug cs n mo me F) := by
  refine PS.imp (ps_fldaug ho he hop) fun Dn σ H ⟨ρ, E, A, hE, hA, h⟩ => ⟨ρ, E, A, hE, hA, PostS.then hE h fun ρ1 d B v H1 n1 r1 h1 => ?_⟩
  have E1 := hE.ext n1.ext
  have h1' : PostS X.K W ρ1 B H1 ((fFld cs n [d] B).then E (kFA2 cs n me F E d)) Dn := h1
  cases r1 with
  | @ref i hi =>
    have h2 : PostS X.K W ρ1 B H1 ((oFld cs n B B[i]?).then E (kFA2 cs n me F E (.ref i))) Dn := h1'
    cases z : B[i]? with
    | none => rw [z] at h2; exact h2.elim
    | some uo =>
      rw [z] at h2
      cases uo with
      | ins c fs =>
        have h3 : PostS X.K W ρ1 B H1 ((if c ∈ cs then okD B (some (lookF n fs)) else .bad : Res D).then E (kFA2 cs n me F E (.ref i))) Dn := h2
        by_cases hc : c ∈ cs
        · rw [if_pos hc] at h3
          obtain ⟨dx, gs, q1, q2⟩ := ins_at n1.rep z
          obtain ⟨k1, k2⟩ := at_.cl c hc
          cases l : lookF n fs with
          | none => rw [l] at h3; exact h3.elim
          | some old =>
            rw [l] at h3
            obtain ⟨w, l1, l2⟩ := q2.look at_.nm l
            have h4 : PostS X.K W ρ1 B H1 ((me E B).then E (kFA3 cs n F E (.ref i) old)) Dn := h3
            refine ⟨ρ1 i, clsA X.K c, dx, gs, w, rfl, q1, k1, k2, l1, ρ1, E, B, E1, n1.rep, PostS.then E1 h4 fun ρ2 y B2 u H2 n2 r2 h5 => ?_⟩
            have E2 := E1.ext n2.ext
            have h6 : PostS X.K W ρ2 B2 H2 ((F [old, y] B2).then E (kFA4 cs n E (.ref i))) Dn := h5
            refine hk W ρ2 B2 σ H2 old y w u _ n2.rep (l2.ext n2.ext) r2 (PostS.then E2 h6 fun ρ3 zd B3 zv H3 n3 r3 h7 => ?_)
            have h8 : PostS X.K W ρ3 B3 H3 (okS E (oPut cs n i zd B3 B3[i]?)) Dn := h7
            cases z3 : B3[i]? with
            | none => rw [z3] at h8; exact h8.elim
            | some u3 =>
              rw [z3] at h8
              cases u3 with
              | ins c3 fs3 =>
                have h9 : PostS X.K W ρ3 B3 H3 (okS E (if c3 ∈ cs ∧ fs3.length < 1000 then some (B3.set i (.ins c3 (setF n zd fs3))) else none)) Dn := h8
                by_cases hc3 : c3 ∈ cs ∧ fs3.length < 1000
                · rw [if_pos hc3] at h9
                  obtain ⟨dx3, gs3, p1, p2⟩ := ins_at n3.rep z3
                  have ei : ρ3 i = ρ1 i := by rw [n3.ext.same i (Nat.lt_of_lt_of_le (lt_of_get z) n2.ext.le), n2.ext.same i (lt_of_get z)]
                  rw [ei] at p1
                  have n4 : Nxt X.K ρ3 B3 H3 ρ3 (B3.set i (.ins c3 (setF n zd fs3))) (upd H3 (ρ3 i) (.ins (clsA X.K c3) dx3 (putF x zv gs3))) :=
                    Nxt.set n3.rep z3 rfl rfl fun ex => ⟨dx3, putF x zv gs3, upd_same, (p2.put at_.nm r3).ext ex⟩
                  rw [ei] at n4
                  have ec : c3 = c := by
                    have e1 := hc3.1
                    rw [hcs, List.mem_singleton] at e1
                    rw [hcs, List.mem_singleton] at hc
                    rw [e1, hc]
                  subst ec
                  exact ⟨dx3, gs3, p1, by rw [← p2.len]; exact hc3.2, h9 ρ3 σ _ n4 ((E2.ext n3.ext).ext n4.ext)⟩
                · rw [if_neg hc3] at h9
                  exact h9.elim
              | _ => exact h8.elim
        · rw [if_neg hc] at h3
          exact h3.elim
      | _ => exact h2.elim
  | _ => exact h1'.elim
end
end DL
set_option Elab.async false
set_option linter.all false
set_option maxRecDepth 100000
set_option maxHeartbeats 4000000
/-! From the law's function to the law's promise (own work). -/
namespace DL
open PySem PySem.Spec PyProof.Rows L2
theorem end_law {K : PySem.W.Frag} {F : Fn} {H : Hp} {a : Addr} {ns : List Int} (hS : SqL K H a (ns.map V.int)) (h : ∃ B, F [.ref 0] [.rol (ns.map D.int)] = .ok (.bl true) B) :
    spD K 1 F [.ref a] H (fun v _ => v = .bl true) (fun _ _ _ => False) := by
  obtain ⟨B, h⟩ := h
  refine ⟨rfl, fun _ => a, [.ref 0], [.rol (ns.map D.int)], .cons (.ref (Nat.lt_succ_self _)) .nil, ?_, ?_⟩
  · refine ⟨fun i o e => ?_, fun i ds e => ?_, fun i j o u h1 h2 m1 m2 _ => ?_⟩
    · cases i with
      | zero => cases e; trivial
      | succ i => cases e
    · cases i with
      | succ i => cases e
      | zero =>
        cases e
        refine ⟨ns.map V.int, RepVs.ints ns, ?_⟩
        rcases hS with r | r
        · refine .inr ⟨r, fun j o e m => ?_⟩
          cases j with
          | zero => cases e; cases m
          | succ j => cases e
        · exact .inl r
    · cases i with
      | succ i => cases h1
      | zero => cases h1; cases m1
  · rw [h]
    intro ρ' v H' n r
    cases r
    rfl

def CXE : CXT := fun o H s E u s' => ∃ P w, L2N.CX P w o H s E u s'
theorem wide {P : Program} {w : World} {K : PySem.W.Frag} {mg : Str → Option Value} {base : Heap} {k : Nat} {f : Addr} {fd : FuncData} {ps : List Str} {sp : Sp} (F : FnOk P w K mg base (L2N.CX P w) k f fd ps sp) : FnOk P w K mg base CXE k f fd ps sp :=
  ⟨F.len, fun A outer s H args us vs Q E hr he hb hv hs => codeAny_mono (F.run A outer s H args us vs Q E hr he hb hv hs) fun r s' q => by
    cases r with
    | ok fl => cases fl <;> exact q
    | error e => exact ⟨P, w, q⟩⟩
theorem cxe_none (H : Hp) (s : Shared) (e : Value) (s' : Shared) (h : CXE [] H s (fun _ _ _ => False) e s') : False := by
  obtain ⟨P, w, a, B, H', cls, d, _, _, _, _, _, _, _, z⟩ := h
  exact z
end DL
set_option Elab.async false
set_option linter.all false
set_option maxRecDepth 100000
set_option maxHeartbeats 4000000
/-! The plain functions evaluated (own work). -/
namespace DL
open PySem
@[simp] theorem ev_eVar (i : Nat) E A : eVar i E A = okD A E[i]? := rfl
@[simp] theorem ev_eC (d : D) _x0 A : eC d _x0 A = .ok d A := rfl
@[simp] theorem ev_aNil _x0 A : aNil _x0 A = .ok [] A := rfl
@[simp] theorem ev_kCons (r : Ax) (E : Env) d A : kCons r E d A = (r E A).bind (kCons2 d) := rfl
@[simp] theorem ev_aCons (e : Ex) (r : Ax) E A : aCons e r E A = (e E A).bind (kCons r E) := rfl
@[simp] theorem ev_eF (F : Fn) (a : Ax) E A : eF F a E A = (a E A).bind F := rfl
@[simp] theorem ev_kM2 (F : Fn) (x : D) ds A : kM2 F x ds A = F (x :: ds) A := rfl
@[simp] theorem ev_kM (c : Nat) (F : Fn) (a : Ax) (E : Env) x A : kM c F a E x A = if isIns c A x = true then (a E A).bind (kM2 F x) else .bad := rfl
@[simp] theorem ev_eM (c : Nat) (F : Fn) (o : Ex) (a : Ax) E A : eM c F o a E A = (o E A).bind (kM c F a E) := rfl
@[simp] theorem ev_tB (e : Ex) E A : tB e E A = (e E A).bind kB := rfl
@[simp] theorem ev_kAnd (u : Tx) (E : Env) b A : kAnd u E b A = if b = true then u E A else .ok false A := rfl
@[simp] theorem ev_tAnd (t u : Tx) E A : tAnd t u E A = (t E A).bind (kAnd u E) := rfl
@[simp] theorem ev_kOr (u : Tx) (E : Env) b A : kOr u E b A = if b = true then .ok true A else u E A := rfl
@[simp] theorem ev_tOr (t u : Tx) E A : tOr t u E A = (t E A).bind (kOr u E) := rfl
@[simp] theorem ev_kNot b A : kNot b A = .ok (!b) A := rfl
@[simp] theorem ev_tNot (t : Tx) E A : tNot t E A = (t E A).bind kNot := rfl
@[simp] theorem ev_kIf (a b : Ex) (E : Env) c A : kIf a b E c A = if c = true then a E A else b E A := rfl
@[simp] theorem ev_eIf (t : Tx) (a b : Ex) E A : eIf t a b E A = (t E A).bind (kIf a b E) := rfl
@[simp] theorem ev_eAnd (a b : Ex) E A : eAnd a b E A = (a E A).bind (kAndV b E) := rfl
@[simp] theorem ev_eOr (a b : Ex) E A : eOr a b E A = (a E A).bind (kOrV b E) := rfl
@[simp] theorem ev_eNot (a : Ex) E A : eNot a E A = (a E A).bind kNotV := rfl
@[simp] theorem ev_kCh4 (G : Fn) (y : D) w A : kCh4 G y w A = G [y, w] A := rfl
@[simp] theorem ev_kCh2 (F G : Fn) (c : Ex) (E : Env) (x : D) y A : kCh2 F G c E x y A = (F [x, y] A).bind (kCh3 G c E y) := rfl
@[simp] theorem ev_kCh (F G : Fn) (b c : Ex) (E : Env) x A : kCh F G b c E x A = (b E A).bind (kCh2 F G c E x) := rfl
@[simp] theorem ev_eChain (F G : Fn) (a b c : Ex) E A : eChain F G a b c E A = (a E A).bind (kCh F G b c E) := rfl
@[simp] theorem ev_sNop E A : sNop E A = .nx E A := rfl
@[simp] theorem ev_sSeq (a b : Sx) E A : sSeq a b E A = (a E A).seq b := rfl
@[simp] theorem ev_kDrop (E : Env) _x0 A : kDrop E _x0 A = .nx E A := rfl
@[simp] theorem ev_sDrop (e : Ex) E A : sDrop e E A = (e E A).then E (kDrop E) := rfl
@[simp] theorem ev_kRet d A : kRet d A = .rt d A := rfl
@[simp] theorem ev_sRet (e : Ex) E A : sRet e E A = (e E A).then E kRet := rfl
@[simp] theorem ev_sRetN _x0 A : sRetN _x0 A = .rt .non A := rfl
@[simp] theorem ev_sBrk E A : sBrk E A = .bk E A := rfl
@[simp] theorem ev_sCnt E A : sCnt E A = .ct E A := rfl
@[simp] theorem ev_sBad _x0 _x1 : sBad _x0 _x1 = .bad := rfl
@[simp] theorem ev_kIfS (a b : Sx) (E : Env) c A : kIfS a b E c A = if c = true then a E A else b E A := rfl
@[simp] theorem ev_sIf (t : Tx) (a b : Sx) E A : sIf t a b E A = (t E A).then E (kIfS a b E) := rfl
@[simp] theorem ev_gName (i : Nat) d E A : gName i d E A = .nx (E.set i (some d)) A := rfl
@[simp] theorem ev_kSub2 (S : Stx) (d : D) (E : Env) (x : D) y A : kSub2 S d E x y A = okS E (S x y d A) := rfl
@[simp] theorem ev_kSub (S : Stx) (i : Ex) (d : D) (E : Env) x A : kSub S i d E x A = (i E A).then E (kSub2 S d E x) := rfl
@[simp] theorem ev_gSub (o i : Ex) (S : Stx) d E A : gSub o i S d E A = (o E A).then E (kSub S i d E) := rfl
@[simp] theorem ev_kAsg (g : Gx) (E : Env) d A : kAsg g E d A = (g d E A).only := rfl
@[simp] theorem ev_sAsg (e : Ex) (g : Gx) E A : sAsg e g E A = (e E A).then E (kAsg g E) := rfl
@[simp] theorem ev_kSet (i : Nat) (E : Env) d A : kSet i E d A = .nx (E.set i (some d)) A := rfl
@[simp] theorem ev_sPar (i j : Nat) (a : Ax) E A : sPar i j a E A = (a E A).then E (kPar i j E) := rfl
@[simp] theorem ev_kAug2 (i : Nat) (F : Fn) (E : Env) (d : D) y A : kAug2 i F E d y A = (F [d, y] A).then E (kSet i E) := rfl
@[simp] theorem ev_kAug (i : Nat) (e : Ex) (F : Fn) (E : Env) d A : kAug i e F E d A = (e E A).then E (kAug2 i F E d) := rfl
@[simp] theorem ev_sAug (i : Nat) (e : Ex) (F : Fn) E A : sAug i e F E A = (okD A E[i]?).then E (kAug i e F E) := rfl
@[simp] theorem ev_kAS5 (S : Stx) (E : Env) (x y : D) z A : kAS5 S E x y z A = okS E (S x y z A) := rfl
@[simp] theorem ev_kAS4 (F : Fn) (S : Stx) (E : Env) (x y old : D) d A : kAS4 F S E x y old d A = (F [old, d] A).then E (kAS5 S E x y) := rfl
@[simp] theorem ev_kAS3 (e : Ex) (F : Fn) (S : Stx) (E : Env) (x y : D) old A : kAS3 e F S E x y old A = (e E A).then E (kAS4 F S E x y old) := rfl
@[simp] theorem ev_kAS2 (e : Ex) (G F : Fn) (S : Stx) (E : Env) (x : D) y A : kAS2 e G F S E x y A = (G [x, y] A).then E (kAS3 e F S E x y) := rfl
@[simp] theorem ev_kAS1 (i e : Ex) (G F : Fn) (S : Stx) (E : Env) x A : kAS1 i e G F S E x A = (i E A).then E (kAS2 e G F S E x) := rfl
@[simp] theorem ev_sAugS (o i e : Ex) (G F : Fn) (S : Stx) E A : sAugS o i e G F S E A = (o E A).then E (kAS1 i e G F S E) := rfl
@[simp] theorem ev_kFld2 (cs : List Nat) (n : Nat) (E : Env) (d : D) x A : kFld2 cs n E d x A = okS E (putFld cs n d A x) := rfl
@[simp] theorem ev_kFld (cs : List Nat) (n : Nat) (o : Ex) (E : Env) d A : kFld cs n o E d A = (o E A).then E (kFld2 cs n E d) := rfl
@[simp] theorem ev_sFld (cs : List Nat) (n : Nat) (o e : Ex) E A : sFld cs n o e E A = (e E A).then E (kFld cs n o E) := rfl
@[simp] theorem ev_kFA4 (cs : List Nat) (n : Nat) (E : Env) (x : D) z A : kFA4 cs n E x z A = okS E (putFld cs n z A x) := rfl
@[simp] theorem ev_kFA3 (cs : List Nat) (n : Nat) (F : Fn) (E : Env) (x old : D) d A : kFA3 cs n F E x old d A = (F [old, d] A).then E (kFA4 cs n E x) := rfl
@[simp] theorem ev_kFA2 (cs : List Nat) (n : Nat) (e : Ex) (F : Fn) (E : Env) (x : D) old A : kFA2 cs n e F E x old A = (e E A).then E (kFA3 cs n F E x old) := rfl
@[simp] theorem ev_kFA1 (cs : List Nat) (n : Nat) (e : Ex) (F : Fn) (E : Env) x A : kFA1 cs n e F E x A = (fFld cs n [x] A).then E (kFA2 cs n e F E x) := rfl
@[simp] theorem ev_sFldAug (cs : List Nat) (n : Nat) (o e : Ex) (F : Fn) E A : sFldAug cs n o e F E A = (o E A).then E (kFA1 cs n e F E) := rfl
@[simp] theorem ev_sFor (it : Ix) (g : Gx) (b : Sx) E A : sFor it g b E A = (it E A).then E (kFor g b E) := rfl
@[simp] theorem ev_kWh (b f : Sx) (E : Env) c A : kWh b f E c A = if c = true then (b E A).turn f else .nx E A := rfl
@[simp] theorem ev_iSeq (e : Ex) E A : iSeq e E A = (e E A).bind kSeq := rfl
@[simp] theorem ev_iRng1 (a : Ax) E A : iRng1 a E A = (a E A).bind kRng1 := rfl
@[simp] theorem ev_iRng2 (a : Ax) E A : iRng2 a E A = (a E A).bind kRng2 := rfl
@[simp] theorem ev_iEnum (a : Ax) E A : iEnum a E A = (a E A).bind kEnum := rfl
@[simp] theorem ev_tYes _x0 A : tYes _x0 A = .ok true A := rfl
@[simp] theorem ev_eLc (it : Ix) (g : Gx) (t : Tx) (e : Ex) (own : List Nat) E A : eLc it g t e own E A = (it E A).bind (kLc g t e (wipeE E own)) := rfl
@[simp] theorem ev_mkIns (c : Nat) (F : Fn) ds A : mkIns c F ds A = (F (.ref A.length :: ds) (A ++ [.ins c []])).bind (kMk A.length) := rfl
@[simp] theorem ev_mkTup ds A : mkTup ds A = if ds.length ≤ line then .ok (.tup ds) A else .bad := rfl
@[simp] theorem ev_mkLst ds A : mkLst ds A = if ds.length ≤ line then .ok (.ref A.length) (A ++ [.lst ds]) else .bad := rfl
@[simp] theorem ev_kStar2 (ds : List D) es A : kStar2 ds es A = .ok (ds ++ es) A := rfl
@[simp] theorem ev_kStar1 (r : Ax) (E : Env) ds A : kStar1 r E ds A = (r E A).bind (kStar2 ds) := rfl
@[simp] theorem ev_kStar (r : Ax) (E : Env) d A : kStar r E d A = (itemsOf d A).bind (kStar1 r E) := rfl
@[simp] theorem ev_aStar (e : Ex) (r : Ax) E A : aStar e r E A = (e E A).bind (kStar r E) := rfl
@[simp] theorem ev_pNone _x0 A : pNone _x0 A = .ok none A := rfl
@[simp] theorem ev_pSome (e : Ex) E A : pSome e E A = (e E A).bind kPart := rfl
@[simp] theorem ev_kSl3 (d : D) (lo : Option Int) hi A : kSl3 d lo hi A = opSl lo hi A d := rfl
@[simp] theorem ev_kSl2 (q : Px) (E : Env) (d : D) lo A : kSl2 q E d lo A = (q E A).bind (kSl3 d lo) := rfl
@[simp] theorem ev_kSl1 (p q : Px) (E : Env) d A : kSl1 p q E d A = (p E A).bind (kSl2 q E d) := rfl
@[simp] theorem ev_eSl (e : Ex) (p q : Px) E A : eSl e p q E A = (e E A).bind (kSl1 p q E) := rfl
@[simp] theorem ev_kBM (k : Kd) (F : Fn) (a : Ax) (E : Env) x A : kBM k F a E x A = if isKd k A x = true then (a E A).bind (kM2 F x) else .bad := rfl
@[simp] theorem ev_eBM (k : Kd) (F : Fn) (o : Ex) (a : Ax) E A : eBM k F o a E A = (o E A).bind (kBM k F a E) := rfl
@[simp] theorem ev_sPar3 (i j l : Nat) (a : Ax) E A : sPar3 i j l a E A = (a E A).then E (kPar3 i j l E) := rfl
@[simp] theorem ev_sFg (is : List Nat) (m : Sx) E A : sFg is m E A = fgR is (m E A) := rfl
@[simp] theorem ev_kCons2 (d : D) (ds : List D) (A : AH) : kCons2 d ds A = .ok (d :: ds) A := rfl
@[simp] theorem ev_kB (b : Bool) (A : AH) : kB (.bl b) A = .ok b A := rfl
@[simp] theorem ev_kAndV (b : Ex) (E : Env) (c : Bool) (A : AH) : kAndV b E (.bl c) A = if c = true then b E A else .ok (.bl false) A := rfl
@[simp] theorem ev_kOrV (b : Ex) (E : Env) (c : Bool) (A : AH) : kOrV b E (.bl c) A = if c = true then .ok (.bl true) A else b E A := rfl
@[simp] theorem ev_kNotV (c : Bool) (A : AH) : kNotV (.bl c) A = .ok (.bl (!c)) A := rfl
@[simp] theorem ev_kCh3 (G : Fn) (c : Ex) (E : Env) (y : D) (k : Bool) (A : AH) : kCh3 G c E y (.bl k) A = if k = true then (c E A).bind (kCh4 G y) else .ok (.bl false) A := rfl
@[simp] theorem ev_kPart (i : Int) (A : AH) : kPart (.int i) A = .ok (some i) A := rfl
@[simp] theorem ev_gNil (E : Env) (A : AH) : gNil [] E A = .nx E A := rfl
@[simp] theorem ev_gCons (g : Gx) (r : Gsx) (d : D) (ds : List D) (E : Env) (A : AH) : gCons g r (d :: ds) E A = (g d E A).only.seq (r ds) := rfl
@[simp] theorem ev_gTup (n : Nat) (r : Gsx) (ds : List D) (E : Env) (A : AH) : gTup n r (.tup ds) E A = if ds.length = n then r ds E A else .bad := rfl
@[simp] theorem ev_kPar (i j : Nat) (E : Env) (x y : D) (A : AH) : kPar i j E [x, y] A = .nx ((E.set i (some x)).set j (some y)) A := rfl
@[simp] theorem ev_kPar3 (i j l : Nat) (E : Env) (x y z : D) (A : AH) : kPar3 i j l E [x, y, z] A = .nx (((E.set i (some x)).set j (some y)).set l (some z)) A := rfl
@[simp] theorem ev_kSeqT (ds : List D) (A : AH) : kSeq (.tup ds) A = .ok (.seq ds) A := rfl
@[simp] theorem ev_kSeqR (i : Nat) (A : AH) : kSeq (.ref i) A = okI (.lst i) A (seqAt A i) := rfl
@[simp] theorem ev_okI (s : Src) (A : AH) (ds : List D) : okI s A (some ds) = .ok s A := rfl
@[simp] theorem ev_kRng1 (j : Int) (A : AH) : kRng1 [.int j] A = if small62 j = true then .ok (.seq (upto 0 j.toNat)) A else .bad := rfl
@[simp] theorem ev_kRng2 (i j : Int) (A : AH) : kRng2 [.int i, .int j] A = if (small62 i && small62 j) = true then .ok (.seq (upto i (j - i).toNat)) A else .bad := rfl
@[simp] theorem ev_kEnumT (ds : List D) (A : AH) : kEnum [.tup ds] A = .ok (.seq (enumD 0 ds)) A := rfl
@[simp] theorem ev_kEnumR (i : Nat) (A : AH) : kEnum [.ref i] A = okI (.enum i) A (seqAt A i) := rfl
@[simp] theorem ev_kMk (n : Nat) (A : AH) : kMk n .non A = .ok (.ref n) A := rfl
@[simp] theorem ev_seqAt (A : AH) (i : Nat) : seqAt A i = seqO A[i]? := rfl
@[simp] theorem ev_seqOl (ds : List D) : seqO (some (.lst ds)) = some ds := rfl
@[simp] theorem ev_seqOr (ds : List D) : seqO (some (.rol ds)) = some ds := rfl
@[simp] theorem ev_itemsT (ds : List D) (A : AH) : itemsOf (.tup ds) A = .ok ds A := rfl
@[simp] theorem ev_itemsR (i : Nat) (A : AH) : itemsOf (.ref i) A = itemsO A (seqStar A[i]?) := rfl
@[simp] theorem ev_seqStarL (ds : List D) : seqStar (some (.lst ds)) = some ds := rfl
@[simp] theorem ev_seqStarR (ds : List D) : seqStar (some (.rol ds)) = some ds := rfl
@[simp] theorem ev_seqStarD (kvs : List (D × D)) : seqStar (some (.dic kvs)) = some (kvs.map (·.1)) := rfl
@[simp] theorem ev_itemsO (ds : List D) (A : AH) : itemsO A (some ds) = .ok ds A := rfl
@[simp] theorem ev_addI (i j : Int) (A : AH) : opAdd [.int i, .int j] A = .ok (.int (i + j)) A := rfl
@[simp] theorem ev_addT (xs ys : List D) (A : AH) : opAdd [.tup xs, .tup ys] A = if xs.length + ys.length ≤ line then .ok (.tup (xs ++ ys)) A else .bad := rfl
@[simp] theorem ev_addR (i j : Nat) (A : AH) : opAdd [.ref i, .ref j] A = lst2 A A[i]? A[j]? := rfl
@[simp] theorem ev_lst2 (A : AH) (xs ys : List D) : lst2 A (some (.lst xs)) (some (.lst ys)) = if xs.length + ys.length ≤ line then .ok (.ref A.length) (A ++ [.lst (xs ++ ys)]) else .bad := rfl
@[simp] theorem ev_subI (i j : Int) (A : AH) : opSub [.int i, .int j] A = .ok (.int (i - j)) A := rfl
@[simp] theorem ev_addII (i j : Int) (A : AH) : opAddI [.int i, .int j] A = .ok (.int (i + j)) A := rfl
@[simp] theorem ev_subII (i j : Int) (A : AH) : opSubI [.int i, .int j] A = .ok (.int (i - j)) A := rfl
@[simp] theorem ev_mulI (i j : Int) (A : AH) : opMul [.int i, .int j] A = if (tooWide i && tooWide j) = true then .bad else .ok (.int (i * j)) A := rfl
@[simp] theorem ev_mulR (i : Nat) (k : Int) (A : AH) : opMul [.ref i, .int k] A = mulL A k A[i]? := rfl
@[simp] theorem ev_mulL (A : AH) (k : Int) (xs : List D) : mulL A k (some (.lst xs)) = if -(2 ^ 63) ≤ k ∧ k < 2 ^ 63 then (if xs.length * k.toNat ≤ line then .ok (.ref A.length) (A ++ [.lst (rep k xs)]) else .bad) else .bad := rfl
theorem ev_mulT (xs : List D) (k : Int) (A : AH) : opMul [.tup xs, .int k] A = if xs ≠ [] ∧ 2 ≤ k ∧ k ≤ 1000 ∧ xs.length ≤ 1000 then .ok (.tup (rep k xs)) A else .bad := rfl
@[simp] theorem ev_modI (i j : Int) (A : AH) : opMod [.int i, .int j] A = if j ≠ 0 then .ok (.int (i.fmod j)) A else .bad := rfl
@[simp] theorem ev_divI (i j : Int) (A : AH) : opDiv [.int i, .int j] A = if j ≠ 0 ∧ j.natAbs < 1073741824 then .ok (.int (i.fdiv j)) A else .bad := rfl
@[simp] theorem ev_powI (i j : Int) (A : AH) : opPow [.int i, .int j] A = if 0 ≤ j ∧ j ≤ 1000000 ∧ i.natAbs < 2 ^ 64 then .ok (.int (i ^ j.toNat)) A else .bad := rfl
@[simp] theorem ev_negI (i : Int) (A : AH) : opNeg [.int i] A = .ok (.int (-i)) A := rfl
@[simp] theorem ev_lt (i j : Int) (A : AH) : opLt [.int i, .int j] A = .ok (.bl (decide (i < j))) A := rfl
@[simp] theorem ev_le (i j : Int) (A : AH) : opLe [.int i, .int j] A = .ok (.bl (decide (i ≤ j))) A := rfl
@[simp] theorem ev_gt (i j : Int) (A : AH) : opGt [.int i, .int j] A = .ok (.bl (decide (j < i))) A := rfl
@[simp] theorem ev_ge (i j : Int) (A : AH) : opGe [.int i, .int j] A = .ok (.bl (decide (j ≤ i))) A := rfl
@[simp] theorem ev_is (x : D) (A : AH) : opIs [x, .non] A = .ok (.bl x.isN) A := by cases x <;> rfl
@[simp] theorem ev_nis (x : D) (A : AH) : opNis [x, .non] A = .ok (.bl (!x.isN)) A := by cases x <;> rfl
@[simp] theorem isN_non : D.isN .non = true := rfl
@[simp] theorem isN_int (i : Int) : D.isN (.int i) = false := rfl
@[simp] theorem isN_bl (i : Bool) : D.isN (.bl i) = false := rfl
@[simp] theorem isN_str (i : Str) : D.isN (.str i) = false := rfl
@[simp] theorem isN_tup (i : List D) : D.isN (.tup i) = false := rfl
@[simp] theorem isN_ref (i : Nat) : D.isN (.ref i) = false := rfl
@[simp] theorem ev_ixT (ds : List D) (i : Int) (A : AH) : opIx [.tup ds, .int i] A = okO A (atD ds i) := rfl
@[simp] theorem ev_ixR (j : Nat) (i : Int) (A : AH) : opIx [.ref j, .int i] A = atS A i (seqAt A j) := rfl
@[simp] theorem ev_ixL (j : Nat) (i : Int) (A : AH) : opIxL [.ref j, .int i] A = atS A i (seqAt A j) := rfl
@[simp] theorem ev_atS (A : AH) (i : Int) (ds : List D) : atS A i (some ds) = okO A (atD ds i) := rfl
@[simp] theorem ev_stIx (i : Nat) (j : Int) (d : D) (A : AH) : stIx (.ref i) (.int j) d A = setO i j d A A[i]? := rfl
@[simp] theorem ev_setO (i : Nat) (j : Int) (d : D) (A : AH) (ds : List D) : setO i j d A (some (.lst ds)) = (ixD ds.length j).map fun k => A.set i (.lst (ds.set k d)) := rfl
@[simp] theorem ev_slT (lo hi : Option Int) (A : AH) (ds : List D) : opSl lo hi A (.tup ds) = .ok (.tup (cutD ds lo hi)) A := rfl
@[simp] theorem ev_slR (lo hi : Option Int) (A : AH) (i : Nat) : opSl lo hi A (.ref i) = cutS A lo hi (seqAt A i) := rfl
@[simp] theorem ev_cutS (lo hi : Option Int) (A : AH) (ds : List D) : cutS A lo hi (some ds) = .ok (.ref A.length) (A ++ [.lst (cutD ds lo hi)]) := rfl
@[simp] theorem ev_lenT (ds : List D) (A : AH) : biLen [.tup ds] A = .ok (.int ds.length) A := rfl
@[simp] theorem ev_lenR (i : Nat) (A : AH) : biLen [.ref i] A = lenS A A[i]? := rfl
@[simp] theorem ev_lenSl (A : AH) (ds : List D) : lenS A (some (.lst ds)) = .ok (.int ds.length) A := rfl
@[simp] theorem ev_lenSr (A : AH) (ds : List D) : lenS A (some (.rol ds)) = .ok (.int ds.length) A := rfl
@[simp] theorem ev_listT (ds : List D) (A : AH) : biList [.tup ds] A = .ok (.ref A.length) (A ++ [.lst ds]) := rfl
@[simp] theorem ev_listR (i : Nat) (A : AH) : biList [.ref i] A = toLst A (seqAt A i) := rfl
@[simp] theorem ev_toLst (A : AH) (ds : List D) : toLst A (some ds) = .ok (.ref A.length) (A ++ [.lst ds]) := rfl
@[simp] theorem ev_tupleT (ds : List D) (A : AH) : biTuple [.tup ds] A = .ok (.tup ds) A := rfl
@[simp] theorem ev_tupleR (i : Nat) (A : AH) : biTuple [.ref i] A = toTup A (seqAt A i) := rfl
@[simp] theorem ev_toTup (A : AH) (ds : List D) : toTup A (some ds) = .ok (.tup ds) A := rfl
@[simp] theorem ev_intI (i : Int) (A : AH) : biInt [.int i] A = .ok (.int i) A := rfl
@[simp] theorem ev_intB (b : Bool) (A : AH) : biInt [.bl b] A = .ok (.int (if b then 1 else 0)) A := rfl
@[simp] theorem ev_absI (i : Int) (A : AH) : biAbs [.int i] A = .ok (.int (if i < 0 then -i else i)) A := rfl
@[simp] theorem ev_maxR (i : Nat) (A : AH) : biMax [.ref i] A = maxO A ((seqAt A i).bind intsOf) := rfl
@[simp] theorem ev_maxO (A : AH) (n : Int) (ns : List Int) : maxO A (some (n :: ns)) = .ok (.int (maxI n ns)) A := rfl
@[simp] theorem ev_allR (i : Nat) (A : AH) : biAll [.ref i] A = allO A ((seqAt A i).bind blsOf) := rfl
@[simp] theorem ev_allO (A : AH) (bs : List Bool) : allO A (some bs) = .ok (.bl (bs.all id)) A := rfl
@[simp] theorem ev_anyR (i : Nat) (A : AH) : biAny [.ref i] A = anyO A ((seqAt A i).bind blsOf) := rfl
@[simp] theorem ev_anyO (A : AH) (bs : List Bool) : anyO A (some bs) = .ok (.bl (bs.any id)) A := rfl
@[simp] theorem ev_sumR (i : Nat) (A : AH) : biSum [.ref i] A = sumO A ((seqAt A i).bind intsOf) := rfl
@[simp] theorem ev_sumO (A : AH) (ns : List Int) : sumO A (some ns) = .ok (.int ns.sum) A := rfl
@[simp] theorem ev_isiN (t : Ty) (A : AH) : biIsi t [.non] A = .ok (.bl false) A := rfl
@[simp] theorem ev_isiB (t : Ty) (b : Bool) (A : AH) : biIsi t [.bl b] A = .ok (.bl t.ofB) A := rfl
@[simp] theorem ev_isiI (t : Ty) (b : Int) (A : AH) : biIsi t [.int b] A = .ok (.bl t.ofI) A := rfl
@[simp] theorem ev_isiS (t : Ty) (b : Str) (A : AH) : biIsi t [.str b] A = .ok (.bl t.ofS) A := rfl
@[simp] theorem ev_isiT (t : Ty) (b : List D) (A : AH) : biIsi t [.tup b] A = .ok (.bl t.ofT) A := rfl
@[simp] theorem ev_isiR (t : Ty) (i : Nat) (A : AH) : biIsi t [.ref i] A = tyO t A A[i]? := rfl
@[simp] theorem ev_tyO (t : Ty) (A : AH) (ds : List D) : tyO t A (some (.lst ds)) = .ok (.bl t.ofL) A := rfl
@[simp] theorem ev_app (i : Nat) (d : D) (A : AH) : mAppend [.ref i, d] A = appO i d A A[i]? := rfl
@[simp] theorem ev_appO (i : Nat) (d : D) (A : AH) (ds : List D) : appO i d A (some (.lst ds)) = if ds.length < line then .ok .non (A.set i (.lst (ds ++ [d]))) else .bad := rfl
@[simp] theorem ev_isKdR (k : Kd) (A : AH) (i : Nat) : isKd k A (.ref i) = kindO k A[i]? := rfl
@[simp] theorem ev_kindL (ds : List D) : kindO .list (some (.lst ds)) = true := rfl
@[simp] theorem ev_kindD (ds : List (D × D)) : kindO .dict (some (.dic ds)) = true := rfl
theorem isIns_of {c : Nat} {A : AH} {i : Nat} {fs : List (Nat × D)} (h : A[i]? = some (.ins c fs)) : isIns c A (.ref i) = true := by simp [isIns, h]
@[simp] theorem ev_fFld (cs : List Nat) (n i : Nat) (A : AH) : fFld cs n [.ref i] A = oFld cs n A A[i]? := rfl
@[simp] theorem ev_oFld (cs : List Nat) (n : Nat) (A : AH) (c : Nat) (fs : List (Nat × D)) : oFld cs n A (some (.ins c fs)) = if c ∈ cs then okD A (some (lookF n fs)) else .bad := rfl
@[simp] theorem ev_putFld (cs : List Nat) (n : Nat) (d : D) (A : AH) (i : Nat) : putFld cs n d A (.ref i) = oPut cs n i d A A[i]? := rfl
@[simp] theorem ev_oPut (cs : List Nat) (n i : Nat) (d : D) (A : AH) (c : Nat) (fs : List (Nat × D)) : oPut cs n i d A (some (.ins c fs)) = if c ∈ cs ∧ fs.length < 1000 then some (A.set i (.ins c (setF n d fs))) else none := rfl
@[simp] theorem lookF_nil (n : Nat) : lookF n [] = none := rfl
@[simp] theorem lookF_cons (n m : Nat) (c : D) (r : List (Nat × D)) : lookF n ((m, c) :: r) = if m = n then some c else lookF n r := rfl
@[simp] theorem setF_nil (n : Nat) (d : D) : setF n d [] = [(n, d)] := rfl
@[simp] theorem setF_cons (n m : Nat) (c d : D) (r : List (Nat × D)) : setF n d ((m, c) :: r) = if m = n then (m, d) :: r else (m, c) :: setF n d r := rfl
@[simp] theorem wipeE_nil (E : Env) : wipeE E [] = E := rfl
@[simp] theorem wipeE_cons (E : Env) (v : Nat) (vs : List Nat) : wipeE E (v :: vs) = (wipeE E vs).set v none := rfl
@[simp] theorem fgE_nil (E : Env) : fgE [] E = E := rfl
@[simp] theorem fgE_cons (E : Env) (v : Nat) (vs : List Nat) : fgE (v :: vs) E = fgE vs (E.set v none) := rfl
@[simp] theorem fgR_nx (is : List Nat) (E : Env) (A : AH) : fgR is (.nx E A) = .nx (fgE is E) A := rfl
@[simp] theorem fgR_rt (is : List Nat) (d : D) (A : AH) : fgR is (.rt d A) = .rt d A := rfl
@[simp] theorem ev_sGc (m : Sx) (E : Env) (A : AH) : sGc m E A = gcS A (m E A) := rfl
@[simp] theorem gcS_nx (A : AH) (E : Env) (B : AH) : gcS A (.nx E B) = .nx E (gcE A E B) := rfl
@[simp] theorem gcS_rt (A : AH) (d : D) (B : AH) : gcS A (.rt d B) = .rt d B := rfl
@[simp] theorem gcE_same (A : AH) (E : Env) : gcE A E A = A := by
  unfold gcE
  simp
@[simp] theorem bd_non (n : Nat) : D.bd n .non = true := by simp [D.bd]
@[simp] theorem bd_bl (n : Nat) (b : Bool) : D.bd n (.bl b) = true := by simp [D.bd]
@[simp] theorem bd_int (n : Nat) (i : Int) : D.bd n (.int i) = true := by simp [D.bd]
@[simp] theorem bd_str (n : Nat) (i : Str) : D.bd n (.str i) = true := by simp [D.bd]
@[simp] theorem bd_tup (n : Nat) (ds : List D) : D.bd n (.tup ds) = bdAll n ds := by simp [D.bd]
@[simp] theorem bd_ref (n i : Nat) : D.bd n (.ref i) = decide (i < n) := by simp [D.bd]
@[simp] theorem bdAll_nil (n : Nat) : bdAll n [] = true := by simp [bdAll]
@[simp] theorem bdAll_cons (n : Nat) (d : D) (ds : List D) : bdAll n (d :: ds) = (d.bd n && bdAll n ds) := by simp [bdAll]
theorem bdAll_iff (n : Nat) : ∀ ds : List D, bdAll n ds = true ↔ ∀ d ∈ ds, d.bd n = true
  | [] => by simp
  | d :: ds => by simp [bdAll_iff n ds]
theorem okPre_refl (A : AH) : okPre A A := ⟨rfl, fun _ _ h => .inl h⟩
theorem okPre_app (A G : AH) : okPre A ((A ++ G).take A.length) := by rw [List.take_left]; exact okPre_refl A
/-- some object is another one -/
theorem okPre_set {A : AH} {i : Nat} {o : O} (hi : i < A.length) (h : o.bd A.length = true) : okPre A (A.set i o) := ⟨by rw [List.length_set], fun j u e => by
  by_cases z : i = j
  · subst z
    rw [List.getElem?_set_self hi] at e
    cases e
    exact .inr h
  · rw [List.getElem?_set_ne z] at e
    exact .inl e⟩
theorem gc_val {A : AH} {d : D} {B : AH} (h : d.bd A.length = true) (p : okPre A (B.take A.length)) : gc A d B = .ok d (B.take A.length) := by
  unfold gc
  rw [if_pos ⟨h, p⟩]
theorem gc_app {A : AH} {d : D} (G : AH) (h : d.bd A.length = true) : gc A d (A ++ G) = .ok d A := by
  rw [gc_val h (okPre_app A G), List.take_left]
@[simp] theorem gc_self {A : AH} {d : D} (h : d.bd A.length = true) : gc A d A = .ok d A := by
  have := gc_app (A := A) (d := d) [] h
  rwa [List.append_nil] at this
theorem gc_set {A : AH} {d : D} {i : Nat} {o : O} (h : d.bd A.length = true) (hi : i < A.length) (ho : o.bd A.length = true) : gc A d (A.set i o) = .ok d (A.set i o) := by
  have e : (A.set i o).take A.length = A.set i o := by rw [List.take_of_length_le]; rw [List.length_set]; exact Nat.le_refl _
  have := gc_val (B := A.set i o) h (by rw [e]; exact okPre_set hi ho)
  rwa [e] at this
/-- a fresh object comes back -/
theorem gc_new {A G : AH} {j : Nat} {o : O} (e : G[j]? = some o) (m : o.mut = true) (h : o.bd A.length = true) : gc A (.ref (A.length + j)) (A ++ G) = .ok (.ref A.length) (A ++ [o]) := by
  unfold gc
  rw [if_neg (fun z => by have q := z.1; rw [bd_ref, decide_eq_true_eq] at q; omega)]
  have : refO A (A ++ G) (.ref (A.length + j)) = some o := by
    simp [refO, List.getElem?_append_right, e]
  rw [this]
  unfold gcO
  simp only []
  rw [if_pos ⟨m, h, okPre_app A G⟩, List.take_left]
theorem gcE_app {A : AH} {E : Env} (G : AH) (h : envBd A.length E = true) : gcE A E (A ++ G) = A := by
  unfold gcE
  rw [if_pos ⟨h, okPre_app A G⟩, List.take_left]
@[simp] theorem envBd_nil (n : Nat) : envBd n [] = true := rfl
@[simp] theorem envBd_some (n : Nat) (d : D) (E : Env) : envBd n (some d :: E) = (d.bd n && envBd n E) := rfl
@[simp] theorem envBd_none (n : Nat) (E : Env) : envBd n (none :: E) = envBd n E := rfl

/-! ### ends: what holds behind -/
def Res.sat {α : Type} (r : Res α) (P : α → AH → Prop) : Prop := match r with
  | .ok a A => P a A
  | _ => False
@[simp] theorem sat_ok {α : Type} (a : α) (A : AH) (P : α → AH → Prop) : (Res.ok a A).sat P = P a A := rfl
@[simp] theorem sat_bad {α : Type} (P : α → AH → Prop) : (Res.bad : Res α).sat P = False := rfl
@[simp] theorem sat_bind {α β : Type} (r : Res α) (f : α → AH → Res β) (P : β → AH → Prop) : (r.bind f).sat P = r.sat fun a A => (f a A).sat P := by cases r <;> rfl
@[simp] theorem sat_bindN {α β : Type} (r : Res α) (f : α → AH → Res β) (P : β → AH → Prop) : (r.bindN f).sat P = r.sat fun a A => (f a A).sat P := by cases r <;> rfl
theorem Res.sat.mono {α : Type} {r : Res α} {P Q : α → AH → Prop} (h : r.sat P) (q : ∀ a A, P a A → Q a A) : r.sat Q := by
  cases r with
  | ok a A => exact q a A h
  | _ => exact h
theorem sat_iff {α : Type} {r : Res α} {P : α → AH → Prop} : r.sat P ↔ ∃ a A, r = .ok a A ∧ P a A := by
  cases r with
  | ok a A => exact ⟨fun h => ⟨a, A, rfl, h⟩, fun ⟨_, _, e, h⟩ => by cases e; exact h⟩
  | exc x A => exact ⟨fun h => h.elim, fun ⟨_, _, e, _⟩ => by cases e⟩
  | bad => exact ⟨fun h => h.elim, fun ⟨_, _, e, _⟩ => by cases e⟩
def SRes.sat (r : SRes) (N : Env → AH → Prop) (R : D → AH → Prop) : Prop := match r with
  | .nx E A => N E A
  | .rt d A => R d A
  | _ => False
@[simp] theorem ssat_nx (E : Env) (A : AH) (N : Env → AH → Prop) (R : D → AH → Prop) : (SRes.nx E A).sat N R = N E A := rfl
@[simp] theorem ssat_rt (d : D) (A : AH) (N : Env → AH → Prop) (R : D → AH → Prop) : (SRes.rt d A).sat N R = R d A := rfl
@[simp] theorem ssat_bad (N : Env → AH → Prop) (R : D → AH → Prop) : SRes.bad.sat N R = False := rfl
@[simp] theorem ssat_seq (r : SRes) (f : Sx) (N : Env → AH → Prop) (R : D → AH → Prop) : (r.seq f).sat N R = r.sat (fun E A => (f E A).sat N R) R := by cases r <;> rfl
@[simp] theorem ssat_then {α : Type} (r : Res α) (E : Env) (f : α → AH → SRes) (N : Env → AH → Prop) (R : D → AH → Prop) : (r.then E f).sat N R = r.sat fun a A => (f a A).sat N R := by cases r <;> rfl
@[simp] theorem ssat_only (r : SRes) (N : Env → AH → Prop) (R : D → AH → Prop) : r.only.sat N R = r.sat N fun _ _ => False := by cases r <;> rfl
theorem SRes.sat.mono {r : SRes} {N N' : Env → AH → Prop} {R R' : D → AH → Prop} (h : r.sat N R) (q : ∀ E A, N E A → N' E A) (p : ∀ d A, R d A → R' d A) : r.sat N' R' := by
  cases r with
  | nx E A => exact q E A h
  | rt d A => exact p d A h
  | _ => exact h
/-- a def's end -/
theorem sat_def {np N : Nat} {b : Sx} {ds : List D} {A : AH} {P : D → AH → Prop} (hl : ds.length = np) (h : (b (startE N ds) A).sat (fun _ B => (gc A .non B).sat P) fun d B => (gc A d B).sat P) : (runDef np N b ds A).sat P := by
  unfold runDef
  rw [if_pos hl]
  cases e : b (startE N ds) A with
  | nx E B => rw [e] at h; exact h
  | rt d B => rw [e] at h; exact h
  | _ => rw [e] at h; exact h.elim
/-- turns of a for -/
def tsat (r : SRes) (J N : Env → AH → Prop) (R : D → AH → Prop) : Prop := match r with
  | .nx E A => J E A
  | .ct E A => J E A
  | .bk E A => N E A
  | .rt d A => R d A
  | _ => False
theorem for_sat {src : Src} {g : Gx} {b : Sx} {E : Env} {A : AH} {N : Env → AH → Prop} {R : D → AH → Prop} (n : Nat) (I : Nat → Env → AH → Prop) (hn : n ≤ src.size A) (h0 : I 0 E A)
    (hs : ∀ k E A, k < n → I k E A → ∃ d, src.at A k = .item d ∧ tsat ((g d E A).only.seq b) (I (k + 1)) N R) (he : ∀ E A, I n E A → src.at A n = .stop ∧ N E A) : (kFor g b E src A).sat N R := by
  have main : ∀ m k E A, k + m = n → I k E A → ∀ f, m + 1 ≤ f → (forN src g b f k E A).sat N R := by
    intro m
    induction m with
    | zero =>
      intro k E A hk hI f hf
      obtain ⟨f, rfl⟩ : ∃ f', f = f' + 1 := ⟨f - 1, by omega⟩
      have e : k = n := by omega
      subst e
      obtain ⟨q1, q2⟩ := he E A hI
      show (forK g b (forN src g b f (k + 1)) E A (src.at A k)).sat N R
      rw [q1]
      exact q2
    | succ m ih =>
      intro k E A hk hI f hf
      obtain ⟨f, rfl⟩ : ∃ f', f = f' + 1 := ⟨f - 1, by omega⟩
      obtain ⟨d, q1, q2⟩ := hs k E A (by omega) hI
      show (forK g b (forN src g b f (k + 1)) E A (src.at A k)).sat N R
      rw [q1]
      show (((g d E A).only.seq b).turn (forN src g b f (k + 1))).sat N R
      cases z : (g d E A).only.seq b with
      | nx E2 A2 => rw [z] at q2; exact ih (k + 1) E2 A2 (by omega) q2 f (by omega)
      | ct E2 A2 => rw [z] at q2; exact ih (k + 1) E2 A2 (by omega) q2 f (by omega)
      | bk E2 A2 => rw [z] at q2; exact q2
      | rt d2 A2 => rw [z] at q2; exact q2
      | _ => rw [z] at q2; exact q2.elim
  exact main n 0 E A (by omega) h0 _ (by omega)
theorem tsat_of {r : SRes} {J N : Env → AH → Prop} {R : D → AH → Prop} (h : r.sat J R) : tsat r J N R := by cases r <;> first | exact h | exact h.elim
theorem tsat_seq {r : SRes} {b : Sx} {J N : Env → AH → Prop} {R : D → AH → Prop} (h : r.sat (fun E A => tsat (b E A) J N R) R) : tsat (r.seq b) J N R := by cases r <;> first | exact h | exact h.elim
theorem while_sat {t : Tx} {b : Sx} {E : Env} {A : AH} {N : Env → AH → Prop} {R : D → AH → Prop} (n : Nat) (I : Nat → Env → AH → Prop) (hn : n < fuel) (h0 : I n E A)
    (hs : ∀ k E A, I k E A → (t E A).sat fun c A1 => if c = true then ∃ j, k = j + 1 ∧ tsat (b E A1) (I j) N R else N E A1) : (sWhile t b E A).sat N R := by
  have main : ∀ n E A f, n < f → I n E A → (whileN t b f E A).sat N R := by
    intro n
    induction n with
    | zero =>
      intro E A f hf hI
      obtain ⟨f, rfl⟩ : ∃ f', f = f' + 1 := ⟨f - 1, by omega⟩
      have q := hs 0 E A hI
      show ((t E A).then E (kWh b (whileN t b f) E)).sat N R
      rw [ssat_then]
      refine q.mono fun c A1 z => ?_
      cases c with
      | false => exact z
      | true =>
        obtain ⟨j, e, _⟩ : ∃ j, 0 = j + 1 ∧ tsat (b E A1) (I j) N R := z
        cases e
    | succ n ih =>
      intro E A f hf hI
      obtain ⟨f, rfl⟩ : ∃ f', f = f' + 1 := ⟨f - 1, by omega⟩
      have q := hs (n + 1) E A hI
      show ((t E A).then E (kWh b (whileN t b f) E)).sat N R
      rw [ssat_then]
      refine q.mono fun c A1 z => ?_
      cases c with
      | false => exact z
      | true =>
        obtain ⟨j, e, z⟩ : ∃ j, n + 1 = j + 1 ∧ tsat (b E A1) (I j) N R := z
        cases e
        show ((b E A1).turn (whileN t b f)).sat N R
        cases y : b E A1 with
        | nx E2 A2 => rw [y] at z; exact ih E2 A2 f (by omega) z
        | ct E2 A2 => rw [y] at z; exact ih E2 A2 f (by omega) z
        | bk E2 A2 => rw [y] at z; exact z
        | rt d2 A2 => rw [y] at z; exact z
        | _ => rw [y] at z; exact z.elim
  exact main n E A fuel hn h0
/-- a comprehension; I k A: its list (at the number l) is within A -/
theorem lc_sat {src : Src} {g : Gx} {t : Tx} {e : Ex} {E : Env} {A : AH} {P : D → AH → Prop} (n : Nat) (I : Nat → AH → Prop) (hn : n ≤ src.size A) (h0 : I 0 (A ++ [.lst []]))
    (hs : ∀ k B, k < n → I k B → ∃ d E5 A5, src.at B k = .item d ∧ g d E B = .nx E5 A5 ∧ (t E5 A5).sat fun c A6 => if c = true then (e E5 A6).sat (fun y A7 => ∃ acc, A7[A.length]? = some (.lst acc) ∧ acc.length < line ∧ I (k + 1) (A7.set A.length (.lst (acc ++ [y])))) else I (k + 1) A6)
    (he : ∀ B, I n B → src.at B n = .stop ∧ P (.ref A.length) B) : (kLc g t e E src A).sat P := by
  have main : ∀ m k B, k + m = n → I k B → ∀ f, m + 1 ≤ f → (lcN src g t e E A.length f k B).sat P := by
    intro m
    induction m with
    | zero =>
      intro k B hk hI f hf
      obtain ⟨f, rfl⟩ : ∃ f', f = f' + 1 := ⟨f - 1, by omega⟩
      have e0 : k = n := by omega
      subst e0
      obtain ⟨q1, q2⟩ := he B hI
      show (lcK g t e E A.length (lcN src g t e E A.length f (k + 1)) B (src.at B k)).sat P
      rw [q1]
      exact q2
    | succ m ih =>
      intro k B hk hI f hf
      obtain ⟨f, rfl⟩ : ∃ f', f = f' + 1 := ⟨f - 1, by omega⟩
      obtain ⟨d, E5, A5, q1, q2, q3⟩ := hs k B (by omega) hI
      show (lcK g t e E A.length (lcN src g t e E A.length f (k + 1)) B (src.at B k)).sat P
      rw [q1]
      show (kLc1 t e A.length (lcN src g t e E A.length f (k + 1)) (g d E B)).sat P
      rw [q2]
      show ((t E5 A5).bindN (kLc2 e E5 A.length (lcN src g t e E A.length f (k + 1)))).sat P
      rw [sat_bindN]
      refine q3.mono fun c A6 z => ?_
      cases c with
      | false => exact ih (k + 1) A6 (by omega) z f (by omega)
      | true =>
        show ((e E5 A6).bindN (kLc3 A.length (lcN src g t e E A.length f (k + 1)))).sat P
        rw [sat_bindN]
        refine Res.sat.mono (P := fun y A7 => ∃ acc, A7[A.length]? = some (.lst acc) ∧ acc.length < line ∧ I (k + 1) (A7.set A.length (.lst (acc ++ [y])))) z fun y A7 ⟨acc, r1, r2, r3⟩ => ?_
        show (okA (lcN src g t e E A.length f (k + 1)) (addTo A.length y A7)).sat P
        have : addTo A.length y A7 = some (A7.set A.length (.lst (acc ++ [y]))) := by
          unfold addTo addO
          rw [r1]
          simp only [r2, if_true]
        rw [this]
        exact ih (k + 1) _ (by omega) r3 f (by omega)
  exact main n 0 _ (by omega) h0 _ (by omega)
@[simp] theorem sat_ite {α : Type} (p : Prop) [Decidable p] (r s : Res α) (P : α → AH → Prop) : (if p then r else s).sat P ↔ (p → r.sat P) ∧ (¬p → s.sat P) := by
  by_cases h : p <;> simp [h]
@[simp] theorem ssat_ite (p : Prop) [Decidable p] (r s : SRes) (N : Env → AH → Prop) (R : D → AH → Prop) : (if p then r else s).sat N R ↔ (p → r.sat N R) ∧ (¬p → s.sat N R) := by
  by_cases h : p <;> simp [h]
@[simp] theorem tsat_ite (p : Prop) [Decidable p] (r s : SRes) (J N : Env → AH → Prop) (R : D → AH → Prop) : tsat (if p then r else s) J N R ↔ (p → tsat r J N R) ∧ (¬p → tsat s J N R) := by
  by_cases h : p <;> simp [h]
theorem upto_len (lo : Int) (n : Nat) : (upto lo n).length = n := by simp [upto]
theorem enumD_len : ∀ (ds : List D) (k : Nat), (enumD k ds).length = ds.length
  | [], _ => rfl
  | d :: ds, k => by simp [enumD, enumD_len ds]
theorem sat_eq {α : Type} {r : Res α} {x : α} {A : AH} (h : r.sat fun a B => a = x ∧ B = A) : r = .ok x A := by
  obtain ⟨a, B, e, rfl, rfl⟩ := sat_iff.mp h
  exact e
theorem set_last {A G : AH} {o o' : O} : (A ++ o :: G).set A.length o' = A ++ o' :: G := by
  rw [List.set_append_right _ _ (Nat.le_refl _), Nat.sub_self]
  rfl
theorem get_last {A G : AH} {o : O} : (A ++ o :: G)[A.length]? = some o := by
  rw [List.getElem?_append_right (Nat.le_refl _), Nat.sub_self]
  rfl
theorem get_left {A G : AH} {i : Nat} {o : O} (h : A[i]? = some o) : (A ++ G)[i]? = some o := by
  rw [List.getElem?_append_left (List.getElem?_eq_some_iff.mp h).1]
  exact h
/-- a comprehension that changes nothing: the items that pass, mapped -/
theorem lc_fm {src : Src} {g : Gx} {t : Tx} {e : Ex} {E : Env} {A : AH} {ds : List D} (Ed : D → Env) (p : D → Bool) (f : D → D) (hl : ds.length ≤ line) (hsz : src.size A = ds.length) (hat : ∀ G k, src.at (A ++ G) k = stepO ds[k]?)
    (hg : ∀ d ∈ ds, ∀ G, g d E (A ++ G) = .nx (Ed d) (A ++ G)) (ht : ∀ d ∈ ds, ∀ G, t (Ed d) (A ++ G) = .ok (p d) (A ++ G)) (he : ∀ d ∈ ds, p d = true → ∀ G, e (Ed d) (A ++ G) = .ok (f d) (A ++ G)) :
    kLc g t e E src A = .ok (.ref A.length) (A ++ [.lst ((ds.filter p).map f)]) := by
  refine sat_eq (lc_sat ds.length (fun k B => k ≤ ds.length ∧ B = A ++ [.lst (((ds.take k).filter p).map f)]) (Nat.le_of_eq hsz.symm) ⟨Nat.zero_le _, by simp⟩ ?_ ?_)
  · rintro k B hk ⟨_, rfl⟩
    obtain ⟨d, hd⟩ : ∃ d, ds[k]? = some d := ⟨_, List.getElem?_eq_getElem hk⟩
    have hm : d ∈ ds := List.mem_of_getElem? hd
    have htk : ds.take (k + 1) = ds.take k ++ [d] := by rw [List.take_add_one, hd]; rfl
    refine ⟨d, Ed d, _, by rw [hat, hd]; rfl, hg d hm _, ?_⟩
    rw [ht d hm]
    show if p d = true then _ else _
    by_cases z : p d = true
    · rw [if_pos z, he d hm z]
      refine ⟨_, get_last, ?_, hk, ?_⟩
      · rw [List.length_map]
        exact Nat.lt_of_le_of_lt (List.length_filter_le _ _) (by rw [List.length_take]; omega)
      · rw [set_last, htk, List.filter_append, List.map_append]
        simp [z]
    · rw [if_neg z]
      refine ⟨hk, ?_⟩
      rw [htk, List.filter_append]
      simp [z]
  · rintro B ⟨_, rfl⟩
    refine ⟨by rw [hat, List.getElem?_eq_none (Nat.le_refl _)]; rfl, rfl, by rw [List.take_length]⟩
theorem lc_map {src : Src} {g : Gx} {e : Ex} {E : Env} {A : AH} {ds : List D} (Ed : D → Env) (f : D → D) (hl : ds.length ≤ line) (hsz : src.size A = ds.length) (hat : ∀ G k, src.at (A ++ G) k = stepO ds[k]?)
    (hg : ∀ d ∈ ds, ∀ G, g d E (A ++ G) = .nx (Ed d) (A ++ G)) (he : ∀ d ∈ ds, ∀ G, e (Ed d) (A ++ G) = .ok (f d) (A ++ G)) :
    kLc g tYes e E src A = .ok (.ref A.length) (A ++ [.lst (ds.map f)]) := by
  have q := lc_fm (g := g) (t := tYes) (e := e) (E := E) (A := A) (src := src) Ed (fun _ => true) f hl hsz hat hg (fun _ _ _ => rfl) (fun d h _ => he d h)
  rwa [List.filter_eq_self.mpr (fun _ _ => rfl)] at q
theorem at_seq (ds : List D) (A : AH) (k : Nat) : (Src.seq ds).at A k = stepO ds[k]? := rfl
theorem at_lst {A : AH} {i : Nat} {ds : List D} (h : seqO A[i]? = some ds) (k : Nat) : (Src.lst i).at A k = stepO ds[k]? := by
  show (match seqAt A i with | some ds => stepO ds[k]? | none => .bad) = _
  rw [show seqAt A i = some ds from h]
theorem at_enum {A : AH} {i : Nat} {ds : List D} (h : seqO A[i]? = some ds) (k : Nat) : (Src.enum i).at A k = stepE k ds[k]? := by
  show (match seqAt A i with | some ds => stepE k ds[k]? | none => .bad) = _
  rw [show seqAt A i = some ds from h]
theorem size_lst {A : AH} {i : Nat} {ds : List D} (h : seqO A[i]? = some ds) : (Src.lst i).size A = ds.length := by
  show ((seqAt A i).getD []).length = _
  rw [show seqAt A i = some ds from h]
  rfl
theorem size_enum {A : AH} {i : Nat} {ds : List D} (h : seqO A[i]? = some ds) : (Src.enum i).size A = ds.length := by
  show ((seqAt A i).getD []).length = _
  rw [show seqAt A i = some ds from h]
  rfl
theorem seq_sat {a b : Sx} {E : Env} {A : AH} {N : Env → AH → Prop} {R : D → AH → Prop} (N1 : Env → AH → Prop) (h : (a E A).sat N1 R) (k : ∀ E A, N1 E A → (b E A).sat N R) : (sSeq a b E A).sat N R := by
  rw [ev_sSeq, ssat_seq]
  exact h.mono k fun _ _ q => q
theorem gcE_keep {A : AH} {E : Env} {B : AH} (h : envBd A.length E = false) : gcE A E B = B := by
  unfold gcE
  rw [if_neg (fun z => by rw [z.1] at h; cases h)]
theorem gcE_ok' {A : AH} {E : Env} {B : AH} (h : envBd A.length E = true) (p : okPre A (B.take A.length)) : gcE A E B = B.take A.length := by
  unfold gcE
  rw [if_pos ⟨h, p⟩]
theorem gc_bl (A : AH) (b : Bool) (B : AH) : (gc A (.bl b) B).sat fun d _ => d = .bl b := by
  unfold gc
  split
  · exact rfl
  · exact rfl
theorem envBd_iff (n : Nat) : ∀ E : Env, envBd n E = true ↔ ∀ d, some d ∈ E → d.bd n = true
  | [] => by simp
  | some c :: E => by
    simp [envBd_iff n E]
  | none :: E => by
    simp [envBd_iff n E]
@[simp] theorem ssat_gcS (A : AH) (r : SRes) (N : Env → AH → Prop) (R : D → AH → Prop) : (gcS A r).sat N R = r.sat (fun E B => N E (gcE A E B)) R := by cases r <;> rfl
@[simp] theorem ssat_fgR (is : List Nat) (r : SRes) (N : Env → AH → Prop) (R : D → AH → Prop) : (fgR is r).sat N R = r.sat (fun E B => N (fgE is E) B) R := by cases r <;> rfl
theorem gcE_len {A : AH} {E : Env} {B : AH} (h : B.length ≤ A.length) : gcE A E B = B := by
  unfold gcE
  split
  · exact List.take_of_length_le h
  · rfl
end DL
set_option Elab.async false
set_option linter.all false
set_option maxRecDepth 100000
set_option maxHeartbeats 4000000
/-! Equality of pure values (own work). -/
namespace DL
open PySem
mutual
def D.py : D → PyData
  | .non => .none
  | .bl b => .bool b
  | .int i => .int i
  | .str x => .str x
  | .tup ds => .tuple (pys ds)
  | .ref _ => .none
def pys : List D → List PyData
  | [] => []
  | d :: ds => D.py d :: pys ds
end
mutual
/-- no object in it; at most n deep -/
def D.pur : Nat → D → Bool
  | 0, _ => false
  | _ + 1, .non => true
  | _ + 1, .bl _ => true
  | _ + 1, .int _ => true
  | _ + 1, .str x => PyData.canLay0 (.str x)
  | n + 1, .tup ds => purs n ds
  | _ + 1, .ref _ => false
def purs : Nat → List D → Bool
  | _, [] => true
  | n, d :: ds => D.pur n d && purs n ds
end
mutual
/-- no bool in it -/
def D.nob : D → Bool
  | .bl _ => false
  | .tup ds => nobs ds
  | .non => true
  | .int _ => true
  | .str _ => true
  | .ref _ => false
def nobs : List D → Bool
  | [] => true
  | d :: ds => D.nob d && nobs ds
end
theorem purs_iff (n : Nat) : ∀ ds : List D, purs n ds = true ↔ ∀ d ∈ ds, d.pur n = true
  | [] => by simp [purs]
  | d :: ds => by simp [purs, purs_iff n ds]
theorem nobs_iff : ∀ ds : List D, nobs ds = true ↔ ∀ d ∈ ds, d.nob = true
  | [] => by simp [nobs]
  | d :: ds => by simp [nobs, nobs_iff ds]
@[simp] theorem pur_int (n : Nat) (i : Int) : D.pur (n + 1) (.int i) = true := by simp [D.pur]
@[simp] theorem pur_bl (n : Nat) (i : Bool) : D.pur (n + 1) (.bl i) = true := by simp [D.pur]
@[simp] theorem pur_non (n : Nat) : D.pur (n + 1) .non = true := by simp [D.pur]
@[simp] theorem pur_tup (n : Nat) (ds : List D) : D.pur (n + 1) (.tup ds) = purs n ds := by simp [D.pur]
@[simp] theorem purs_nil (n : Nat) : purs n [] = true := by simp [purs]
@[simp] theorem purs_cons (n : Nat) (d : D) (ds : List D) : purs n (d :: ds) = (d.pur n && purs n ds) := by simp [purs]
@[simp] theorem nob_int (i : Int) : D.nob (.int i) = true := by simp [D.nob]
@[simp] theorem nob_non : D.nob .non = true := by simp [D.nob]
@[simp] theorem nob_tup (ds : List D) : D.nob (.tup ds) = nobs ds := by simp [D.nob]
@[simp] theorem nobs_nil : nobs [] = true := by simp [nobs]
@[simp] theorem nobs_cons (d : D) (ds : List D) : nobs (d :: ds) = (d.nob && nobs ds) := by simp [nobs]
@[simp] theorem py_int (i : Int) : D.py (.int i) = .int i := by simp [D.py]
@[simp] theorem py_bl (i : Bool) : D.py (.bl i) = .bool i := by simp [D.py]
@[simp] theorem py_non : D.py .non = .none := by simp [D.py]
@[simp] theorem py_str (i : Str) : D.py (.str i) = .str i := by simp [D.py]
@[simp] theorem py_tup (ds : List D) : D.py (.tup ds) = .tuple (pys ds) := by simp [D.py]
@[simp] theorem pys_nil : pys [] = [] := by simp [pys]
@[simp] theorem pys_cons (d : D) (ds : List D) : pys (d :: ds) = d.py :: pys ds := by simp [pys]
theorem purs_app {n : Nat} {xs ys : List D} : purs n (xs ++ ys) = (purs n xs && purs n ys) := by
  induction xs with
  | nil => simp
  | cons x xs ih => simp [ih, Bool.and_assoc]
theorem nobs_app {xs ys : List D} : nobs (xs ++ ys) = (nobs xs && nobs ys) := by
  induction xs with
  | nil => simp
  | cons x xs ih => simp [ih, Bool.and_assoc]
theorem allSome_some {α : Type} : ∀ (l : List α), allSome (l.map some) = some l
  | [] => rfl
  | a :: l => by simp [allSome, allSome_some l]
mutual
theorem toPy_pur {A : AH} : ∀ {n : Nat} {d : D}, d.pur n = true → toPy A n d = some d.py
  | 0, _, h => by simp [D.pur] at h
  | n + 1, .non, h => by simp [toPy]
  | n + 1, .bl _, h => by simp [toPy]
  | n + 1, .int _, h => by simp [toPy]
  | n + 1, .str x, h => by
    have h' : PyData.canLay0 (.str x) = true := by simpa [D.pur] using h
    simp [toPy, h']
  | n + 1, .tup ds, h => by
    have h' : purs n ds = true := by simpa using h
    simp [toPy, toPys_pur h']
  | n + 1, .ref _, h => by simp [D.pur] at h
theorem toPys_pur {A : AH} : ∀ {n : Nat} {ds : List D}, purs n ds = true → allSome (ds.map (toPy A n)) = some (pys ds)
  | n, [], h => by simp [allSome]
  | n, d :: ds, h => by
    have h' : d.pur n = true ∧ purs n ds = true := by simpa using h
    simp [allSome, toPy_pur h'.1, toPys_pur h'.2]
end
theorem toPy_lst {A : AH} {n i : Nat} {ds : List D} (e : seqAt A i = some ds) (h : purs n ds = true) : toPy A (n + 1) (.ref i) = some (.list (pys ds)) := by
  simp only [toPy, e, toPys_pur h, Option.map_some]
mutual
theorem eqv_same : ∀ (d : D), PyData.eqv d.py d.py = true
  | .non => by simp [PyData.eqv]
  | .bl _ => by simp [PyData.eqv]
  | .int _ => by simp [PyData.eqv]
  | .str _ => by simp [PyData.eqv]
  | .tup ds => by simp [PyData.eqv, eqvAll_same ds]
  | .ref _ => by simp [D.py, PyData.eqv]
theorem eqvAll_same : ∀ (ds : List D), PyData.eqvAll (pys ds) (pys ds) = true
  | [] => by simp [PyData.eqvAll]
  | d :: ds => by simp [PyData.eqvAll, eqv_same d, eqvAll_same ds]
end
mutual
theorem eqv_eq : ∀ (d e : D), d.nob = true → e.nob = true → (PyData.eqv d.py e.py = true ↔ d = e)
  | .non, e, _, he => by cases e <;> simp_all [PyData.eqv, D.nob]
  | .bl _, e, hd, he => by simp [D.nob] at hd
  | .int i, e, hd, he => by cases e <;> simp_all [PyData.eqv, D.nob]
  | .str x, e, hd, he => by cases e <;> simp_all [PyData.eqv, D.nob]
  | .ref _, e, hd, he => by simp [D.nob] at hd
  | .tup ds, .tup es, hd, he => by
    simp only [nob_tup] at hd he
    simp only [py_tup, PyData.eqv, D.tup.injEq]
    exact eqvAll_eq ds es hd he
  | .tup ds, .non, hd, he => by simp [PyData.eqv]
  | .tup ds, .int _, hd, he => by simp [PyData.eqv]
  | .tup ds, .str _, hd, he => by simp [PyData.eqv]
  | .tup ds, .bl _, hd, he => by simp [D.nob] at he
  | .tup ds, .ref _, hd, he => by simp [D.nob] at he
theorem eqvAll_eq : ∀ (ds es : List D), nobs ds = true → nobs es = true → (PyData.eqvAll (pys ds) (pys es) = true ↔ ds = es)
  | [], [], _, _ => by simp [PyData.eqvAll]
  | [], e :: es, _, _ => by simp [PyData.eqvAll]
  | d :: ds, [], _, _ => by simp [PyData.eqvAll]
  | d :: ds, e :: es, hd, he => by
    simp only [nobs_cons, Bool.and_eq_true] at hd he
    simp only [pys_cons, PyData.eqvAll, Bool.and_eq_true, List.cons.injEq]
    rw [eqv_eq d e hd.1 he.1, eqvAll_eq ds es hd.2 he.2]
end
/-- equality as Python sees it -/
def eqD (x y : D) : Bool := PyData.eqv x.py y.py
def eqDs (x y : List D) : Bool := PyData.eqvAll (pys x) (pys y)
theorem opEq_pur {A : AH} {x y : D} (hx : x.pur 60 = true) (hy : y.pur 60 = true) : opEq [x, y] A = .ok (.bl (eqD x y)) A := by
  show eqO A id (toPy A 60 x) (toPy A 60 y) = _
  rw [toPy_pur hx, toPy_pur hy]
  rfl
theorem opNe_pur {A : AH} {x y : D} (hx : x.pur 60 = true) (hy : y.pur 60 = true) : opNe [x, y] A = .ok (.bl (!eqD x y)) A := by
  show eqO A not (toPy A 60 x) (toPy A 60 y) = _
  rw [toPy_pur hx, toPy_pur hy]
  rfl
theorem opEq_lst {A : AH} {i j : Nat} {xs ys : List D} (e : seqAt A i = some xs) (f : seqAt A j = some ys) (hx : purs 59 xs = true) (hy : purs 59 ys = true) : opEq [.ref i, .ref j] A = .ok (.bl (eqDs xs ys)) A := by
  show eqO A id (toPy A 60 _) (toPy A 60 _) = _
  rw [toPy_lst e hx, toPy_lst f hy]
  simp [eqO, PyData.eqv, eqDs]
theorem opNe_lst {A : AH} {i j : Nat} {xs ys : List D} (e : seqAt A i = some xs) (f : seqAt A j = some ys) (hx : purs 59 xs = true) (hy : purs 59 ys = true) : opNe [.ref i, .ref j] A = .ok (.bl (!eqDs xs ys)) A := by
  show eqO A not (toPy A 60 _) (toPy A 60 _) = _
  rw [toPy_lst e hx, toPy_lst f hy]
  simp [eqO, PyData.eqv, eqDs]
/-- a list and a value that is none -/
theorem opEq_lstP {A : AH} {i : Nat} {xs : List D} {y : D} (e : seqAt A i = some xs) (hx : purs 59 xs = true) (hy : y.pur 60 = true) : opEq [.ref i, y] A = .ok (.bl false) A := by
  show eqO A id (toPy A 60 _) (toPy A 60 _) = _
  rw [toPy_lst e hx, toPy_pur hy]
  cases y <;> simp [eqO, PyData.eqv, D.py]
theorem opNe_lstP {A : AH} {i : Nat} {xs : List D} {y : D} (e : seqAt A i = some xs) (hx : purs 59 xs = true) (hy : y.pur 60 = true) : opNe [.ref i, y] A = .ok (.bl true) A := by
  show eqO A not (toPy A 60 _) (toPy A 60 _) = _
  rw [toPy_lst e hx, toPy_pur hy]
  cases y <;> simp [eqO, PyData.eqv, D.py]
@[simp] theorem eqD_same (x : D) : eqD x x = true := eqv_same x
@[simp] theorem eqDs_same (x : List D) : eqDs x x = true := eqvAll_same x
theorem eqD_iff {x y : D} (hx : x.nob = true) (hy : y.nob = true) : eqD x y = true ↔ x = y := eqv_eq x y hx hy
theorem eqDs_iff {x y : List D} (hx : nobs x = true) (hy : nobs y = true) : eqDs x y = true ↔ x = y := eqvAll_eq x y hx hy
@[simp] theorem eqD_int (i j : Int) : eqD (.int i) (.int j) = decide (i = j) := by
  simp [eqD, PyData.eqv]
  rfl
@[simp] theorem opEq_int (A : AH) (i j : Int) : opEq [.int i, .int j] A = .ok (.bl (decide (i = j))) A := by rw [opEq_pur (by simp) (by simp), eqD_int]
@[simp] theorem opNe_int (A : AH) (i j : Int) : opNe [.int i, .int j] A = .ok (.bl (!decide (i = j))) A := by rw [opNe_pur (by simp) (by simp), eqD_int]
@[simp] theorem opNe_bl (A : AH) (i j : Bool) : opNe [.bl i, .bl j] A = .ok (.bl (!(i == j))) A := by rw [opNe_pur (by simp) (by simp)]; simp [eqD, PyData.eqv]
@[simp] theorem opEq_bl (A : AH) (i j : Bool) : opEq [.bl i, .bl j] A = .ok (.bl (i == j)) A := by rw [opEq_pur (by simp) (by simp)]; simp [eqD, PyData.eqv]
theorem purs_ints (n : Nat) (ns : List Int) : purs (n + 1) (ns.map D.int) = true := by induction ns <;> simp_all
theorem nobs_ints (ns : List Int) : nobs (ns.map D.int) = true := by induction ns <;> simp_all
end DL
set_option Elab.async false
set_option linter.all false
set_option maxRecDepth 100000
set_option maxHeartbeats 4000000
/-! The newer functions evaluated (own work). -/
namespace DL
open PySem
@[simp] theorem isDic_ref (A : AH) (i : Nat) : isDic A (.ref i) = isDicO A[i]? := by unfold isDic; rfl
@[simp] theorem isDicO_none : isDicO none = false := by unfold isDicO; rfl
@[simp] theorem isDicO_lst (ds : List D) : isDicO (some (.lst ds)) = false := by unfold isDicO; rfl
@[simp] theorem isDicO_rol (ds : List D) : isDicO (some (.rol ds)) = false := by unfold isDicO; rfl
@[simp] theorem isDicO_dic (ds : List (D × D)) : isDicO (some (.dic ds)) = true := by unfold isDicO; rfl
@[simp] theorem isDicO_dit (ds : List (D × D)) : isDicO (some (.dit ds)) = false := by unfold isDicO; rfl
@[simp] theorem isDicO_ins (c : Nat) (fs : List (Nat × D)) : isDicO (some (.ins c fs)) = false := by unfold isDicO; rfl
@[simp] theorem isDic_int (A : AH) (i : Int) : isDic A (.int i) = false := by unfold isDic; rfl
@[simp] theorem isDic_bl (A : AH) (i : Bool) : isDic A (.bl i) = false := by unfold isDic; rfl
@[simp] theorem isDic_str (A : AH) (i : Str) : isDic A (.str i) = false := by unfold isDic; rfl
@[simp] theorem isDic_tup (A : AH) (i : List D) : isDic A (.tup i) = false := by unfold isDic; rfl
@[simp] theorem isDic_non (A : AH) : isDic A .non = false := by unfold isDic; rfl
@[simp] theorem ev_eqX {x y : D} {A : AH} (h : isDic A x = false) : opEqX [x, y] A = opEq [x, y] A := if_neg (by rw [h]; exact Bool.noConfusion)
@[simp] theorem ev_eqXd {x y : D} {A : AH} (h : isDic A x = true) : opEqX [x, y] A = eqDD id [x, y] A := if_pos h
@[simp] theorem ev_neX {x y : D} {A : AH} (h : isDic A x = false) : opNeX [x, y] A = opNe [x, y] A := if_neg (by rw [h]; exact Bool.noConfusion)
@[simp] theorem ev_neXd {x y : D} {A : AH} (h : isDic A x = true) : opNeX [x, y] A = eqDD not [x, y] A := if_pos h
@[simp] theorem ev_listX {x : D} {A : AH} (h : isDic A x = false) : biListX [x] A = biList [x] A := if_neg (by rw [h]; exact Bool.noConfusion)
@[simp] theorem ev_listXd {x : D} {A : AH} (h : isDic A x = true) : biListX [x] A = biListD [x] A := if_pos h
@[simp] theorem ev_listD (i : Nat) (A : AH) : biListD [.ref i] A = lstDO A A[i]? := rfl
@[simp] theorem ev_lstDO (A : AH) (kvs : List (D × D)) : lstDO A (some (.dic kvs)) = .ok (.ref A.length) (A ++ [.lst (kvs.map (·.1))]) := rfl
@[simp] theorem ev_dictX {x : D} {A : AH} (h : isDic A x = false) : biDictX [x] A = biDictP [x] A := if_neg (by rw [h]; exact Bool.noConfusion)
@[simp] theorem ev_dictXd {x : D} {A : AH} (h : isDic A x = true) : biDictX [x] A = biDict [x] A := if_pos h
@[simp] theorem ev_dict (i : Nat) (A : AH) : biDict [.ref i] A = dicO A A[i]? := rfl
@[simp] theorem ev_dicO (A : AH) (kvs : List (D × D)) : dicO A (some (.dic kvs)) = .ok (.ref A.length) (A ++ [.dic kvs]) := rfl
@[simp] theorem ev_dictP (i : Nat) (A : AH) : biDictP [.ref i] A = dicLO A (seqAt A i) := rfl
@[simp] theorem ev_dicLO (A : AH) (ds : List D) : dicLO A (some ds) = dicPO A (allSome (ds.map pairD)) := rfl
@[simp] theorem ev_dicPO (A : AH) (ps : List (D × D)) : dicPO A (some ps) = .ok (.ref A.length) (A ++ [.dic (mergeF [] ps)]) := rfl
@[simp] theorem ev_maxX2 (i j : Int) (A : AH) : biMaxX [.int i, .int j] A = .ok (.int (if j > i then j else i)) A := rfl
@[simp] theorem ev_maxX1 {i : Nat} {A : AH} (h : isTupL (seqAt A i) = false) : biMaxX [.ref i] A = biMax [.ref i] A := by
  show (if isTupL (seqAt A i) = true then biMaxT [.ref i] A else biMax [.ref i] A) = _
  rw [h]
  rfl
@[simp] theorem ev_maxX1t {i : Nat} {A : AH} (h : isTupL (seqAt A i) = true) : biMaxX [.ref i] A = biMaxT [.ref i] A := by
  show (if isTupL (seqAt A i) = true then biMaxT [.ref i] A else biMax [.ref i] A) = _
  rw [h]
  rfl
@[simp] theorem ev_maxT (i : Nat) (A : AH) : biMaxT [.ref i] A = maxLO A (seqAt A i) := rfl
@[simp] theorem ev_maxLO (A : AH) (ds : List D) : maxLO A (some ds) = maxTO A (allSome (ds.map D.ints?)) := rfl
@[simp] theorem ev_maxTO (A : AH) (n : List Int) (ns : List (List Int)) : maxTO A (some (n :: ns)) = .ok (.tup ((maxL n ns).map D.int)) A := rfl
@[simp] theorem isTupL_tup (ds es : List D) : isTupL (some (.tup ds :: es)) = true := by unfold isTupL; rfl
@[simp] theorem isTupL_int (i : Int) (es : List D) : isTupL (some (.int i :: es)) = false := by unfold isTupL; rfl
@[simp] theorem isTupL_nil : isTupL (some []) = false := by unfold isTupL; rfl
@[simp] theorem ev_minT (ds : List D) (A : AH) : biMinT [.tup ds] A = minO A (intsOf ds) := rfl
@[simp] theorem ev_minO (A : AH) (n : Int) (ns : List Int) : minO A (some (n :: ns)) = .ok (.int (minI n ns)) A := rfl
@[simp] theorem ev_eLenSet (e : Ex) (E : Env) (A : AH) : eLenSet e E A = (e E A).bind kLenSet := rfl
@[simp] theorem ev_kLenSet (i : Nat) (A : AH) : kLenSet (.ref i) A = lenSO A ((seqAt A i).bind intsOf) := rfl
@[simp] theorem ev_lenSO (A : AH) (ns : List Int) : lenSO A (some ns) = if ns.length ≤ 4000 then .ok (.int (setN ns).length) A else .bad := rfl
@[simp] theorem ev_eGet2 (o k d : Ex) (E : Env) (A : AH) : eGet2 o k d E A = (o E A).bind (kGa k d E) := rfl
@[simp] theorem ev_kGa (k d : Ex) (E : Env) (x : D) (A : AH) : kGa k d E x A = if isDic A x = true then (k E A).bind (kGb d E x) else .bad := rfl
@[simp] theorem ev_kGb (d : Ex) (E : Env) (x y : D) (A : AH) : kGb d E x y A = (d E A).bind (kGc x y) := rfl
@[simp] theorem ev_kGc (x y z : D) (A : AH) : kGc x y z A = get2D x y z A := rfl
@[simp] theorem ev_get2D (i : Nat) (k d : D) (A : AH) : get2D (.ref i) k d A = get2O A k d A[i]? := rfl
@[simp] theorem ev_get2O (A : AH) (k d : D) (kvs : List (D × D)) : get2O A k d (some (.dic kvs)) = if (keyD k).isSome = true then .ok ((valF keyD kvs k).getD d) A else .bad := rfl
@[simp] theorem keyD_int (i : Int) : keyD (.int i) = some (.inl i) := rfl
@[simp] theorem keyD_str (i : Str) : keyD (.str i) = some (.inr i) := rfl
@[simp] theorem ev_opGet (i : Nat) (k : D) (A : AH) : opGet [.ref i, k] A = getO A k A[i]? := rfl
@[simp] theorem ev_getO (A : AH) (k : D) (kvs : List (D × D)) : getO A k (some (.dic kvs)) = if (keyD k).isSome = true then okO A (valF keyD kvs k) else .bad := rfl
@[simp] theorem ev_stPut (i : Nat) (y d : D) (A : AH) : stPut (.ref i) y d A = putO i y d A A[i]? := rfl
@[simp] theorem ev_putO (i : Nat) (k d : D) (A : AH) (kvs : List (D × D)) : putO i k d A (some (.dic kvs)) = if (keyD k).isSome = true ∧ kvs.length < line then some (A.set i (.dic (putF' keyD kvs k d))) else none := rfl
@[simp] theorem ev_mkDic (A : AH) : mkDic [] A = .ok (.ref A.length) (A ++ [.dic []]) := rfl
@[simp] theorem ev_sorted (i : Nat) (A : AH) : biSorted [.ref i] A = sortO A ((seqAt A i).bind intsOf) := rfl
@[simp] theorem ev_sortO (A : AH) (ns : List Int) : sortO A (some ns) = .ok (.ref A.length) (A ++ [.lst ((sortI ns).map D.int)]) := rfl
@[simp] theorem ev_sForK (e : Ex) (g : Gx) (b : Sx) (E : Env) (A : AH) : sForK e g b E A = (e E A).then E (forD keysOf g b E) := rfl
@[simp] theorem ev_sForI (e : Ex) (g : Gx) (b : Sx) (E : Env) (A : AH) : sForI e g b E A = (e E A).then E (forD pairsOf g b E) := rfl
/-- a walk over a dict -/
theorem forD_sat {f : List (D × D) → List D} {g : Gx} {b : Sx} {E : Env} {A : AH} {i : Nat} {kvs : List (D × D)} {N : Env → AH → Prop} {R : D → AH → Prop} (h : A[i]? = some (.dic kvs)) (hl : (f kvs).length = kvs.length)
    (hs : (kFor g b E (.seq (f kvs)) (A.set i (.fro kvs))).sat (fun E B => ∃ k, B[i]? = some (.fro k) ∧ N E (B.set i (.dic k))) (fun d B => ∃ k, B[i]? = some (.fro k) ∧ R d (B.set i (.dic k)))) : (forD f g b E (.ref i) A).sat N R := by
  have e : forD f g b E (.ref i) A = unS i (kFor g b E (.seq (f kvs)) (A.set i (.fro kvs))) := by
    show forDO f g b E i A A[i]? = _
    rw [h]
    show unS i (forN (.seq (f kvs)) g b (kvs.length + 1) 0 E (A.set i (.fro kvs))) = unS i (forN (.seq (f kvs)) g b ((f kvs).length + 1) 0 E (A.set i (.fro kvs)))
    rw [hl]
  rw [e]
  cases z : kFor g b E (.seq (f kvs)) (A.set i (.fro kvs)) with
  | nx E2 B =>
    rw [z] at hs
    obtain ⟨k, q1, q2⟩ := hs
    have : unA i B = some (B.set i (.dic k)) := by unfold unA; rw [q1]; rfl
    show (unN E2 (unA i B)).sat N R
    rw [this]
    exact q2
  | rt d B =>
    rw [z] at hs
    obtain ⟨k, q1, q2⟩ := hs
    have : unA i B = some (B.set i (.dic k)) := by unfold unA; rw [q1]; rfl
    show (unR d (unA i B)).sat N R
    rw [this]
    exact q2
  | _ => rw [z] at hs; exact hs.elim
@[simp] theorem eqD_str (x y : Str) : eqD (.str x) (.str y) = decide (x = y) := by
  simp [eqD, PyData.eqv]
  rfl
/-- dicts with the same keys in the same order -/
theorem valF_cons (k v : D) (r : List (D × D)) (x : D) : valF keyD ((k, v) :: r) x = if keqF keyD k x = true then some v else valF keyD r x := by
  unfold valF
  rw [List.find?_cons]
  by_cases z : keqF keyD k x = true
  · simp [z]
  · simp [z]
@[simp] theorem valF_nil (x : D) : valF keyD [] x = none := rfl
@[simp] theorem keqF_int (i j : Int) : keqF keyD (.int i) (.int j) = decide (i = j) := by
  simp [keqF]
end DL
set_option Elab.async false
set_option linter.all false
set_option maxRecDepth 100000
set_option maxHeartbeats 4000000
/-! {k: v, ..} with entries, d.update(e) (own work). -/
namespace DL
open PySem PySem.Spec PyProof.Rows L2
abbrev Dxp := Env → AH → Res (List (D × D))
def dxNil : Dxp := fun _ A => .ok [] A
def kDx3 (k v : D) : List (D × D) → AH → Res (List (D × D)) := fun ps A => .ok ((k, v) :: ps) A
def kDx2 (r : Dxp) (E : Env) (k : D) : D → AH → Res (List (D × D)) := fun v A => (r E A).bind (kDx3 k v)
def kDx1 (e : Ex) (r : Dxp) (E : Env) : D → AH → Res (List (D × D)) := fun k A => (e E A).bind (kDx2 r E k)
def dxCons (k e : Ex) (r : Dxp) : Dxp := fun E A => (k E A).bind (kDx1 e r E)
def dxL : List (Ex × Ex) → Dxp
  | [] => dxNil
  | m :: r => dxCons m.1 m.2 (dxL r)
def dspO (n : Nat) (ps : List (D × D)) (A : AH) : Option O → Res D
  | some (.dic []) => if ps.length ≤ 15 ∧ (ps.all fun p => (keyD p.1).isSome) = true then .ok (.ref n) (A.set n (.dic (mergeF [] ps))) else .bad
  | _ => .bad
def kDsp (n : Nat) : List (D × D) → AH → Res D := fun ps A => dspO n ps A A[n]?
def eDsp (ms : List (Ex × Ex)) : Ex := fun E A => (dxL ms E (A ++ [.dic []])).bind (kDsp A.length)
abbrev RepPs (ρ : Nat → Addr) (n : Nat) (H : Hp) : List (D × D) → List (V × V) → Prop := Paired fun p q => RepV ρ n H p.1 q.1 ∧ RepV ρ n H p.2 q.2
theorem RepPs.ext {ρ ρ' : Nat → Addr} {n n' : Nat} {H H' : Hp} (x : Ext ρ n H ρ' n' H') {ps : List (D × D)} {qs : List (V × V)} (r : RepPs ρ n H ps qs) : RepPs ρ' n' H' ps qs := paired_imp (fun _ _ h => ⟨h.1.ext x, h.2.ext x⟩) r
theorem RepPs.keys {ρ : Nat → Addr} {n : Nat} {H : Hp} : ∀ {ps : List (D × D)} {qs : List (V × V)}, RepPs ρ n H ps qs → (ps.all fun p => (keyD p.1).isSome) = true → ∃ kvs : List (Key × V), qs = kvs.map (fun kv => (kV kv.1, kv.2)) ∧ RepK keyD ρ n H ps kvs
  | [], _, .nil, _ => ⟨[], rfl, .nil⟩
  | p :: ps, q :: qs, .cons h t, e => by
    rw [List.all_cons, Bool.and_eq_true] at e
    obtain ⟨k, hk⟩ := Option.isSome_iff_exists.mp e.1
    obtain ⟨kvs, e1, e2⟩ := RepPs.keys t e.2
    refine ⟨(k, q.2) :: kvs, ?_, .cons hk h.2 e2⟩
    rw [List.map_cons, ← e1]
    show q :: qs = (kV k, q.2) :: qs
    rw [← keyD_rep hk h.1]
section
variable {X : Cx} {W : WX}
theorem dx_of : ∀ (ms : List (Ex × Ex)) {ρ : Nat → Addr} {E : Env} {A : AH} {σ : Sl} {H : Hp} {Q : List (V × V) → Hp → Prop}, RepE ρ A.length H E σ → RepA X.K ρ H A → Post X.K W RepPs ρ A σ H (dxL ms E A) Q → tPairs (ms.map fun m => (tE X.K W m.1, tE X.K W m.2)) σ H Q
  | [], ρ, E, A, σ, H, Q, hE, hA, h => by
    have h' : Post X.K W RepPs ρ A σ H (.ok [] A) Q := h
    exact h' ρ [] H (.refl hA) .nil
  | m :: ms, ρ, E, A, σ, H, Q, hE, hA, h => by
    have h0 : Post X.K W RepPs ρ A σ H ((m.1 E A).bind (kDx1 m.2 (dxL ms) E)) Q := h
    refine ⟨ρ, E, A, hE, hA, Post.bind h0 fun ρ1 k B x H1 n1 r1 h1 => ?_⟩
    have h1' : Post X.K W RepPs ρ1 B σ H1 ((m.2 E B).bind (kDx2 (dxL ms) E k)) Q := h1
    refine ⟨ρ1, E, B, hE.ext n1.ext, n1.rep, Post.bind h1' fun ρ2 v C y H2 n2 r2 h2 => ?_⟩
    have h2' : Post X.K W RepPs ρ2 C σ H2 ((dxL ms E C).bind (kDx3 k v)) Q := h2
    refine dx_of ms ((hE.ext n1.ext).ext n2.ext) n2.rep (Post.bind h2' fun ρ3 ps C3 qs H3 n3 r3 h3 => ?_)
    have h3' : Post X.K W RepPs ρ3 C3 σ H3 (.ok ((k, v) :: ps) C3) Q := h3
    exact h3' ρ3 _ H3 (.refl n3.rep) (.cons ⟨(r1.ext n2.ext).ext n3.ext, r2.ext n3.ext⟩ r3)
theorem disp_of {ms : List (Ex × Ex)} {σ : Sl} {H : Hp} {Q : VK} (h : tE X.K W (eDsp ms) σ H Q) : tDisp (ms.map fun m => (tE X.K W m.1, tE X.K W m.2)) σ H Q := by
  obtain ⟨ρ, E, A, hE, hA, h⟩ := h
  intro L hL
  have h0 : Post X.K W RepV ρ A σ H ((dxL ms E (A ++ [.dic []])).bind (kDsp A.length)) Q := h
  obtain ⟨ρ2, eL, n2⟩ := Nxt.alloc (o := .dic []) (ho := .dK []) hA hL rfl fun ρ' _ => ⟨[], upd_same, .nil⟩
  have lA : A.length < (A ++ [O.dic []]).length := by rw [List.length_append]; exact Nat.lt_succ_self _
  refine dx_of ms (hE.ext n2.ext) n2.rep (Post.bind (Post.later h0 n2) fun ρ3 ps B qs H3 n3 r3 h3 => ?_)
  have h3' : Post X.K W RepV ρ3 B σ H3 (dspO A.length ps B B[A.length]?) Q := h3
  have e3 : ρ3 A.length = L := (n3.ext.same _ lA).trans eL
  have l3 : A.length < B.length := Nat.lt_of_lt_of_le lA n3.ext.le
  cases z : B[A.length]? with
  | none => rw [z] at h3'; exact h3'.elim
  | some o =>
    rw [z] at h3'
    cases o with
    | dic kvs =>
      cases kvs with
      | cons _ _ => exact h3'.elim
      | nil =>
        have h4 : Post X.K W RepV ρ3 B σ H3 (if ps.length ≤ 15 ∧ (ps.all fun p => (keyD p.1).isSome) = true then .ok (.ref A.length) (B.set A.length (.dic (mergeF [] ps))) else .bad) Q := h3'
        by_cases c : ps.length ≤ 15 ∧ (ps.all fun p => (keyD p.1).isSome) = true
        · rw [if_pos c] at h4
          obtain ⟨gs, q1, q2⟩ := n3.rep.objs _ _ z
          cases q2
          obtain ⟨kvs, k1, k2⟩ := RepPs.keys r3 c.2
          have n4 : Nxt X.K ρ3 B H3 ρ3 (B.set A.length (.dic (mergeF [] ps))) (upd H3 (ρ3 A.length) (.dK (mergeK [] kvs))) :=
            Nxt.set n3.rep z rfl rfl fun ex => ⟨_, upd_same, (RepK.merge k2 .nil).ext ex⟩
          have q := h4 ρ3 (.ref (ρ3 A.length)) _ n4 (.ref (by rw [List.length_set]; exact l3))
          rw [e3] at q1 q
          exact ⟨q1, kvs, k1, by rw [← k2.len]; exact c.1, q⟩
        · rw [if_neg c] at h4
          exact h4.elim
    | _ => exact h3'.elim
variable {pos : Pos} {keys : List (Option Expr)} {values : List Expr} {ms : List (Ex × Ex)}
def RPs (X : Cx) (W : WX) (pos : Pos) (ks : List (Option Expr)) (vs : List Expr) (ms : List (Ex × Ex)) : Prop := PPs X pos ks vs (ms.map fun m => (tE X.K W m.1, tE X.K W m.2))
theorem rps_nil : RPs X W pos [] [] [] := pps_nil
theorem rps_cons {k v : Expr} {mk mv : Ex} (hk : RE X W k mk) (hv : RE X W v mv) (hr : RPs X W pos keys values ms) : RPs X W pos (some k :: keys) (v :: values) ((mk, mv) :: ms) := pps_cons hk hv hr
theorem re_disp (h : RPs X W pos keys values ms) (hall : keys.all (·.isSome) = true := by rfl) (hl : keys.length = values.length := by rfl) (h0 : keys ≠ [] := by intro z; cases z) (h15 : keys.length ≤ 15 := by decide) : RE X W (.Dict keys values pos) (eDsp ms) :=
  PE.imp (pe_disp h hall hl h0 h15) fun σ H Q q => disp_of q
end
@[simp] theorem ev_eDsp (ms : List (Ex × Ex)) (E : Env) (A : AH) : eDsp ms E A = (dxL ms E (A ++ [.dic []])).bind (kDsp A.length) := rfl
@[simp] theorem ev_dxNil (E : Env) (A : AH) : dxL [] E A = .ok [] A := rfl
@[simp] theorem ev_dxCons (k e : Ex) (r : List (Ex × Ex)) (E : Env) (A : AH) : dxL ((k, e) :: r) E A = (k E A).bind (kDx1 e (dxL r) E) := rfl
@[simp] theorem ev_kDx1 (e : Ex) (r : Dxp) (E : Env) (k : D) (A : AH) : kDx1 e r E k A = (e E A).bind (kDx2 r E k) := rfl
@[simp] theorem ev_kDx2 (r : Dxp) (E : Env) (k v : D) (A : AH) : kDx2 r E k v A = (r E A).bind (kDx3 k v) := rfl
@[simp] theorem ev_kDx3 (k v : D) (ps : List (D × D)) (A : AH) : kDx3 k v ps A = .ok ((k, v) :: ps) A := rfl
@[simp] theorem ev_kDsp (n : Nat) (ps : List (D × D)) (A : AH) : kDsp n ps A = dspO n ps A A[n]? := rfl
@[simp] theorem ev_dspO (n : Nat) (ps : List (D × D)) (A : AH) : dspO n ps A (some (.dic [])) = if ps.length ≤ 15 ∧ (ps.all fun p => (keyD p.1).isSome) = true then .ok (.ref n) (A.set n (.dic (mergeF [] ps))) else .bad := rfl
/-! ### d.update(e) -/
def rDUpd : V → List V → Hp → VK → Prop := fun x xs H Q => ∃ (a b : Addr) (kvs more : List (Key × V)), x = .ref a ∧ xs = [.ref b] ∧ a ≠ b ∧ H a = some (.dK kvs) ∧ H b = some (.dK more) ∧ kvs.length + more.length ≤ sizeLine ∧ Q .non (upd H a (.dK (mergeK kvs more)))
theorem mt_dupd {X : Cx} : MtR X "dict.update" rDUpd := by
  intro pins s σ H x xs v us Q I rx rv h
  obtain ⟨a, b, kvs, more, ex, ev, ne, e1, e2, l, q⟩ := h
  subst ex
  subst ev
  obtain rfl : v = Value.ref a := rx
  cases rv with
  | cons r1 r2 =>
    cases r2
    cases r1
    obtain ⟨z1, hd1, vs1, rel1, dd1⟩ := dk_of I.hok e1
    obtain ⟨z2, hd2, vs2, rel2, dd2⟩ := dk_of I.hok e2
    refine call_meetsIn PySem.F.slot_dict_update dd1.typeIs PySem.F.entry_dict_update (PySem.F.args_dict_update_2 _ _) (meets_dict_update (mixKind X.prog X.w) a b ne hd2) ⟨vs1, vs2, dd1, dd2, by rw [← rel1.length, ← rel2.length]; exact l, fun h' d1 d2 hs => ?_⟩
    have he : ∃ q, h'.get? a = some q := let ⟨q, _, _, hq, _⟩ := d1; ⟨q, hq⟩
    have hm := length_mergeK more kvs
    exact ⟨.non, _, d_write (t' := s.toks) I (by rw [e1]; exact True.intro) hs he (dk_new (by omega) hd1 (rel2.merge rel1) d1), rfl, q⟩
def updO2 (i : Nat) (kvs : List (D × D)) (A : AH) : Option O → Res D
  | some (.dic more) => if kvs.length + more.length ≤ line then .ok .non (A.set i (.dic (mergeF kvs more))) else .bad
  | _ => .bad
def updO1 (i j : Nat) (A : AH) : Option O → Res D
  | some (.dic kvs) => if i = j then .bad else updO2 i kvs A A[j]?
  | _ => .bad
def mUpdate : Fn
  | [.ref i, .ref j], A => updO1 i j A A[i]?
  | _, _ => .bad
@[simp] theorem ev_mUpdate (i j : Nat) (A : AH) : mUpdate [.ref i, .ref j] A = updO1 i j A A[i]? := rfl
@[simp] theorem ev_updO1 (i j : Nat) (A : AH) (kvs : List (D × D)) : updO1 i j A (some (.dic kvs)) = if i = j then .bad else updO2 i kvs A A[j]? := rfl
@[simp] theorem ev_updO2 (i : Nat) (A : AH) (kvs more : List (D × D)) : updO2 i kvs A (some (.dic more)) = if kvs.length + more.length ≤ line then .ok .non (A.set i (.dic (mergeF kvs more))) else .bad := rfl
theorem ok_update {X : Cx} : OkM X.K rDUpd mUpdate := fun W ρ A σ H d ds v vs Q hA rd rs h => by
  cases rd with
  | @ref i hi => cases rs with
    | nil => exact h.elim
    | cons r1 r2 => cases r2 with
      | cons _ _ => cases r1 <;> exact h.elim
      | nil => cases r1 with
        | @ref j hj =>
          have h2 : Post X.K W RepV ρ A σ H (updO1 i j A A[i]?) Q := h
          cases z : A[i]? with
          | none => rw [z] at h2; exact h2.elim
          | some o =>
            rw [z] at h2
            cases o with
            | dic kvs =>
              have h3 : Post X.K W RepV ρ A σ H (if i = j then .bad else updO2 i kvs A A[j]?) Q := h2
              by_cases e : i = j
              · rw [if_pos e] at h3; exact h3.elim
              · rw [if_neg e] at h3
                cases y : A[j]? with
                | none => rw [y] at h3; exact h3.elim
                | some o2 =>
                  rw [y] at h3
                  cases o2 with
                  | dic more =>
                    have h4 : Post X.K W RepV ρ A σ H (if kvs.length + more.length ≤ line then .ok .non (A.set i (.dic (mergeF kvs more))) else .bad) Q := h3
                    by_cases c : kvs.length + more.length ≤ line
                    · rw [if_pos c] at h4
                      obtain ⟨gs, q1, q2⟩ := hA.objs i _ z
                      obtain ⟨gm, p1, p2⟩ := hA.objs j _ y
                      have ne : ρ i ≠ ρ j := fun w => e (hA.inj i j _ _ z y rfl rfl w)
                      refine ⟨ρ i, ρ j, gs, gm, rfl, rfl, ne, q1, p1, ?_, post_set hA h4 z rfl rfl .non fun ex => ⟨_, upd_same, (RepK.merge p2 q2).ext ex⟩⟩
                      rw [← q2.len, ← p2.len, ← line_eq]
                      exact c
                    · rw [if_neg c] at h4; exact h4.elim
                  | _ => exact h3.elim
            | _ => exact h2.elim
        | _ => exact h.elim
  | _ => cases rs with
    | nil => exact h.elim
    | cons r1 r2 => cases r2 <;> exact h.elim
/-! ### min of two -/
def biMin2 : Fn
  | [.int i, .int j], A => .ok (.int (if j < i then j else i)) A
  | _, _ => .bad
@[simp] theorem ev_min2 (i j : Int) (A : AH) : biMin2 [.int i, .int j] A = .ok (.int (if j < i then j else i)) A := rfl
theorem ok_min2 {X : Cx} : OkL X.K (fun xs H Q => ∃ i j, xs = [.int i, .int j] ∧ Q (.int (if j < i then j else i)) H) biMin2 := fun W ρ A σ H ds vs Q hA r h => by
  cases r with
  | nil => exact h.elim
  | cons r1 r2 => cases r2 with
    | nil => cases r1 <;> exact h.elim
    | cons r2 r3 => cases r3 with
      | cons _ _ => cases r1 <;> cases r2 <;> exact h.elim
      | nil => cases r1 with
        | int i => cases r2 with
          | int j => exact ⟨i, j, rfl, post_val hA h (.int _)⟩
          | _ => exact h.elim
        | _ => cases r2 <;> exact h.elim
/-! ### a number in a tuple of numbers -/
theorem flats_int : ∀ ns : List Int, allSome ((ns.map D.int).map toFlat) = some (ns.map V.int)
  | [] => rfl
  | n :: ns => by
    have ih := flats_int ns
    rw [List.map_cons, List.map_cons]
    show allSome (some (V.int n) :: _) = _
    simp only [allSome]
    rw [ih]
    rfl
theorem inV_int (n : Int) : ∀ ns : List Int, inV (.int n) (ns.map V.int) = decide (n ∈ ns)
  | [] => rfl
  | m :: ns => by
    have ih := inV_int n ns
    unfold inV at ih ⊢
    rw [List.map_cons, List.any_cons, ih]
    show ((m == n) || _) = _
    by_cases h : m = n
    · subst h
      simp
    · have h2 : ¬ n = m := fun e => h e.symm
      simp [h, h2]
theorem opIn_int (neg : Bool) (n : Int) (ns : List Int) (A : AH) : opIn neg [.int n, .tup (ns.map D.int)] A = .ok (.bl (if neg then !decide (n ∈ ns) else decide (n ∈ ns))) A := by
  show inT A neg (some (V.int n)) (allSome ((ns.map D.int).map toFlat)) = _
  rw [flats_int, ← inV_int]
  rfl
end DL
set_option Elab.async false
set_option linter.all false
set_option maxRecDepth 100000
set_option maxHeartbeats 4000000
/-! Raise of an own error, try/except: the D-layer's rules (own work). -/
namespace DL
open PySem PySem.Spec PyProof.Rows L2
/-! ### what they do -/
def sRaise (c f : Nat) (me : Ex) : Sx := fun E A => (me E A).then E fun d B => .exc ⟨c, [(f, d)]⟩ E B
def sRaise0 (c : Nat) : Sx := fun E A => .exc ⟨c, []⟩ E A
def sTry (m : Sx) (c : Nat) (h : Exn → Sx) : Sx := fun E A => match m E A with
  | .exc x E1 A1 => if x.cls = c then h x E1 A1 else .bad
  | r => r
def unNm (i : Nat) : SRes → SRes
  | .nx E A => .nx (E.set i none) A
  | .bk E A => .bk (E.set i none) A
  | .ct E A => .ct (E.set i none) A
  | .rt d A => .rt d A
  | .exc _ _ _ => .bad
  | .bad => .bad
def sTryAs (m : Sx) (c i : Nat) (h : Exn → Sx) : Sx := fun E A => match m E A with
  | .exc x E1 A1 => if x.cls = c ∧ i < E1.length then unNm i (h x (E1.set i none) A1) else .bad
  | r => r
/-- the field f of what is caught -/
def xFld (f : Nat) (x : Exn) : Ex := fun _ A => match x.fs with
  | [(g, d)] => if g = f then .ok d A else .bad
  | _ => .bad

/-! ### raise -/
theorem relO_par {par : Str} {v : V} {v' : Value} (r : RelV v v') (f : Str) : RelO (List.lookup f [(par, v)]) (if f = par then some v' else none) := by
  by_cases hw : f = par
  · subst hw
    rw [if_pos rfl]
    have q : List.lookup f [(f, v)] = some v := by simp [List.lookup]
    rw [q]
    exact r
  · rw [if_neg hw]
    have qw : (f == par) = false := by simpa using hw
    have q2 : List.lookup f [(par, v)] = none := by simp [List.lookup, qw]
    rw [q2]
    trivial
/-- what a law says of one own error -/
structure XOk1 (K : PySem.W.Frag) (file : Str) (cn par : Str) (C fI : Addr) : Prop where
  ex : ∃ (txt : Str) (j : Nat) (p1 p2 q0 q1 q2 q3 q4 q5 q6 q7 q8 q9 : Pos) (scope : Scope) (qual : Str), (q2.endLine == q4.line) = true ∧
    DLX.XT K file C fI (DLX.xA1 par p1 p2) (DLX.xB1 par txt j q0 q1 q2 q3 q4 q5 q6 q7 q8 q9) scope qual ∧ DLX.XS scope ∧ scope.names.lookup par = some .local ∧
    (∀ (kV doc pm : Value) (an : Option Addr) (cdv ct : Value) (cc : Addr) (u v : Value), bindArgs (PySem.W.ksFn "__init__" qual (DLX.xA1 par p1 p2) (DLX.xB1 par txt j q0 q1 q2 q3 q4 q5 q6 q7 q8 q9) scope .none kV doc pm an cdv ct cc) ⟨[u, v], []⟩ = pure [(("self" : Str), u), (par, v)])
  ps : par ≠ ("self" : Str)
  pd : (par == ("__debug__" : Str)) = false
  no : PySem.W.findIn K (.ref C) par = some none
  te : PySem.W.exmOne K (.ref C) (.ref C) = some true
structure XOk0 (K : PySem.W.Frag) (file : Str) (cn : Str) (C fI : Addr) : Prop where
  ex : ∃ (txt : Str) (j : Nat) (p1 q0 q1 q2 q3 q4 q5 : Pos) (scope : Scope) (qual : Str), (q2.endLine == q4.line) = true ∧
    DLX.XT K file C fI (DLX.xA0 p1) (DLX.xB0 txt j q0 q1 q2 q3 q4 q5) scope qual ∧ DLX.XS scope ∧
    (∀ (kV doc pm : Value) (an : Option Addr) (cdv ct : Value) (cc : Addr) (u : Value), bindArgs (PySem.W.ksFn "__init__" qual (DLX.xA0 p1) (DLX.xB0 txt j q0 q1 q2 q3 q4 q5) scope .none kV doc pm an cdv ct cc) ⟨[u], []⟩ = pure [(("self" : Str), u)])
  te : PySem.W.exmOne K (.ref C) (.ref C) = some true
section
variable {X : Cx} {W : WX} {k : Nat} {file cn par : Str} {C fI : Addr} {a : Expr} {ta : TA} {p pos pos2 : Pos}
def tMk1 (C : Addr) (par : Str) (ta : TA) : L2.St → Hp → XK → Prop := fun σ H Q => ta σ H fun vs H1 => ∃ v, vs = [v] ∧ ∀ d, H1 d = none → Q (.ref C) (some d) (upd H1 d (.xd [(par, v)]))
theorem pmk_x1 (T : XOk1 X.K file cn par C fI) (M : DLX.XM X.prog X.mg file) (hr : Room k X.A) (hm : X.mg cn = some (.ref C)) (hg : Gl X cn) (ha : PA X [a] ta) (hd : (cn == ("__debug__" : Str)) = false := by decide)
    (he : starEach (a :: []) X.env = (false, eval a X.env) :: starEach [] X.env := by rfl) (hpl : (backTo pos (starEach [] X.env)).any (·.1) = false := by rfl) :
    L2N.PMk X (.Call (.Name cn p) [a] [] pos) (tMk1 C par ta) := by
  obtain ⟨txt, j, p1, p2, q0, q1, q2, q3, q4, q5, q6, q7, q8, q9, scope, qual, hl, XTT, S, hpar, hB⟩ := T.ex
  intro pins s σ H Q I h
  refine wpAny_Call_Name_kw (ld_glob I hg hm ?_ hd)
  refine PySem.W.callWith_K (h₀ := X.base) I.ok.mod.kin XTT.kC (thn (ha.run pos pins s σ H _ I h) fun us s1 hh => ?_) he hpl
  obtain ⟨vs, H1, I1, r1, v, ev, q1⟩ := hh
  subst ev
  refine ⟨I1.kIn, ?_⟩
  cases r1 with
  | cons rv rn =>
    rename_i v' us'
    cases rn
    show wpAny _ _ (call (.ref C) [v']) _ _ _
    have hlim := I1.nolimit
    have hgl : s1.heap.Ns mainGlobals X.mg := I1.mod.glob.keeps I1.bk
    have hbl : ∃ mb, s1.heap.Ns builtinsNs mb ∧ ∀ x : Str, x ≠ "__name__" → mb x = bootBuiltins x := by
      obtain ⟨mb, b1, b2⟩ := I1.mod.blt
      exact ⟨mb, b1.keeps I1.bk, b2⟩
    have hK := I1.kIn
    obtain ⟨hp, g, dr, tk, os⟩ := s1
    refine wpAny_call (DLX.x_made1 hl XTT hB S hpar T.ps T.pd T.no M hK hgl hbl hlim (by have := hr.dp; omega) fun h' tk' e d Md => ?_)
    show L2N.MkP X pins σ Q (.ref e) ⟨h', g, dr, tk', os⟩
    obtain ⟨oe, fv, hoe, hc, hd, hdat, h1, h2⟩ := Md.obj
    have hns := Md.ns
    obtain ⟨G', g1, g2⟩ := restrict h' fun b => decide (b ≠ e)
    have gk : ∀ b, b ≠ e → G'.get? b = h'.get? b := fun b hb => g1 b (decide_eq_true hb)
    have ge : G'.get? e = none := g2 e (by simp)
    have old : ∀ b o, hp.get? b = some o → G'.get? b = some o := fun b o q => (gk b (Nat.ne_of_lt (Nat.lt_of_lt_of_le (Heap.lt_size q) Md.new))).trans (Md.keep b o q)
    have ob : ObjOk X.prog X.w (upd H1 d (.xd [(par, v)])) G' d (.xd [(par, v)]) :=
      ⟨_, hns.at (fun o q => (gk d Md.dne).trans q), fun f => relO_par rv f⟩
    have J : Inv X pins σ (upd H1 d (.xd [(par, v)])) ⟨G', g, dr, tk', os⟩ := I1.laid (t' := tk') old Md.dbig ob
    refine ⟨e, oe, fv, ⟨G', g, dr, tk', os⟩, _, .ref C, some d, rfl, J, fun b o q => ?_, ge, hoe, ⟨hc, hd, fun vs e => by rw [hdat] at e; cases e; exact h2⟩, hdat, h1, ?_, rfl, I1.bare, raises_own XTT.exB XTT.tyC, q1 d (I1.hok.fresh Md.dbig)⟩
    · by_cases hb : b = e
      · have q' : G'.get? b = some o := q
        rw [hb, ge] at q'; cases q'
      · exact (gk b hb).symm.trans q
    · rw [upd_ne (Ne.symm Md.dne)]
      exact I1.hok.fresh Md.new
theorem pmk_x0 (T : XOk0 X.K file cn C fI) (M : DLX.XM X.prog X.mg file) (hr : Room k X.A) (hm : X.mg cn = some (.ref C)) (hg : Gl X cn) (hd : (cn == ("__debug__" : Str)) = false := by decide) :
    L2N.PMk X (.Call (.Name cn p) [] [] pos) (fun _ H Q => Q (.ref C) none H) := by
  obtain ⟨txt, j, p1, q0, q1, q2, q3, q4, q5, scope, qual, hl, XTT, S, hB⟩ := T.ex
  intro pins s σ H Q I h
  refine wpAny_Call_Name_kw (ld_glob I hg hm ?_ hd)
  refine PySem.W.callWith_K0 I.kIn XTT.kC ?_
  have hlim := I.nolimit
  have hgl : s.heap.Ns mainGlobals X.mg := I.mod.glob.keeps I.bk
  have hbl : ∃ mb, s.heap.Ns builtinsNs mb ∧ ∀ x : Str, x ≠ "__name__" → mb x = bootBuiltins x := by
    obtain ⟨mb, b1, b2⟩ := I.mod.blt
    exact ⟨mb, b1.keeps I.bk, b2⟩
  have hK := I.kIn
  obtain ⟨hp, g, dr, tk, os⟩ := s
  refine wpAny_call (DLX.x_made0 hl XTT hB S M hK hgl hbl hlim (by have := hr.dp; omega) fun h' tk' e Md => ?_)
  show L2N.MkP X pins σ Q (.ref e) ⟨h', g, dr, tk', os⟩
  obtain ⟨oe, fv, hoe, hc, hd, hdat, h1, h2⟩ := Md.obj
  obtain ⟨G', g1, g2⟩ := restrict h' fun b => decide (b ≠ e)
  have gk : ∀ b, b ≠ e → G'.get? b = h'.get? b := fun b hb => g1 b (decide_eq_true hb)
  have ge : G'.get? e = none := g2 e (by simp)
  have old : ∀ b o, hp.get? b = some o → G'.get? b = some o := fun b o q => (gk b (Nat.ne_of_lt (Nat.lt_of_lt_of_le (Heap.lt_size q) Md.new))).trans (Md.keep b o q)
  have J : Inv X pins σ H ⟨G', g, dr, tk', os⟩ := I.kept (h' := G') (t' := tk') old
  refine ⟨e, oe, fv, ⟨G', g, dr, tk', os⟩, _, .ref C, none, rfl, J, fun b o q => ?_, ge, hoe, ⟨hc, hd, fun vs e => by rw [hdat] at e; cases e; exact h2⟩, hdat, h1, ?_, rfl, I.bare, raises_own XTT.exB XTT.tyC, h⟩
  · by_cases hb : b = e
    · have q' : G'.get? b = some o := q
      rw [hb, ge] at q'; cases q'
    · exact (gk b hb).symm.trans q
  · exact I.hok.fresh Md.new
end
section
variable {X : Cx} {W : WX} {k : Nat} {file cn par : Str} {fI : Addr} {a : Expr} {ma : Ex} {p pos pos2 : Pos} {c f : Nat}
theorem rs_raise (T : XOk1 X.K file cn par (clsA X.K c) fI) (M : DLX.XM X.prog X.mg file) (cx : Ctx X W k) (hf : fldN[f]? = some par) (hm : X.mg cn = some (.ref (clsA X.K c))) (ha : RE X W a ma) (hg : Gl X cn := by rfl) (hd : (cn == ("__debug__" : Str)) = false := by decide)
    (he : starEach (a :: []) X.env = (false, eval a X.env) :: starEach [] X.env := by rfl) (hpl : (backTo pos (starEach [] X.env)).any (·.1) = false := by rfl) :
    RS X W (.Raise (some (.Call (.Name cn p) [a] [] pos)) none pos2) (sRaise c f ma) := by
  refine PS.imp (L2N.ps_raise cx.calm cx.tk (pmk_x1 T M cx.room hm hg (ra_cons ha ra_nil he) hd he hpl)) fun Dn σ H ⟨ρ, E, A, hE, hA, h⟩ => ?_
  have h' : PostS X.K W ρ A H ((ma E A).then E fun d B => .exc ⟨c, [(f, d)]⟩ E B) Dn := h
  refine ⟨ρ, E, A, hE, hA, ?_⟩
  have e1 : aCons ma aNil E A = (ma E A).bind fun d B => .ok [d] B := by
    unfold aCons
    cases ma E A <;> rfl
  rw [e1]
  cases e : ma E A with
  | bad => rw [e] at h'; exact h'.elim
  | exc x B =>
    rw [e] at h'
    exact fun ρ' cls d H' n r => h' ρ' cls d σ H' n (hE.ext n.ext) r
  | ok d B =>
    rw [e] at h'
    intro ρ' vs H' n r
    cases r with
    | cons r1 r2 =>
      rename_i v vs'
      cases r2
      refine ⟨v, rfl, fun dd hdd => ?_⟩
      have sm : Same H' (upd H' dd (.xd [(par, v)])) := same_upd hdd
      have n2 : Nxt X.K ρ' B H' ρ' B (upd H' dd (.xd [(par, v)])) := Nxt.same n.rep sm
      refine h' ρ' (.ref (clsA X.K c)) (some dd) σ _ (n.trans n2) (hE.ext (n.trans n2).ext) ⟨rfl, .inr ⟨dd, _, rfl, upd_same, .cons hf (r1.ext n2.ext) .nil⟩⟩
theorem rs_raise0 (T : XOk0 X.K file cn (clsA X.K c) fI) (M : DLX.XM X.prog X.mg file) (cx : Ctx X W k) (hm : X.mg cn = some (.ref (clsA X.K c))) (hg : Gl X cn := by rfl) (hd : (cn == ("__debug__" : Str)) = false := by decide) :
    RS X W (.Raise (some (.Call (.Name cn p) [] [] pos)) none pos2) (sRaise0 c) :=
  PS.imp (L2N.ps_raise cx.calm cx.tk (pmk_x0 T M cx.room hm hg hd)) fun Dn σ H ⟨ρ, E, A, hE, hA, h⟩ => h ρ (.ref (clsA X.K c)) none σ H (.refl hA) hE ⟨rfl, .inl ⟨rfl, rfl⟩⟩
end
end DL
set_option Elab.async false
set_option linter.all false
set_option maxRecDepth 100000
set_option maxHeartbeats 4000000
/-! try/except: the D-layer's rules (own work). -/
namespace DL
open PySem PySem.Spec PyProof.Rows L2
abbrev WF : WX := fun _ _ _ _ => False
/-- what an except suite's context has -/
structure CtxS (X : Cx) (k : Nat) : Prop where
  nd : X.N.Nodup
  un : X.A.units + 16 * k + 200 < cLine
  hot : L2H.HotC X
  rm : L2H.RoomH k X.A
  pa : ∀ σ, PassesAt (L2N.CX X.prog X.w) X σ (fun _ _ _ => False)
theorem CtxS.u1 {X : Cx} {k : Nat} (c : CtxS X k) : X.A.units + 1 < cLine := by have := c.un; omega
theorem CtxS.u65 {X : Cx} {k : Nat} (c : CtxS X k) : X.A.units + 65 < cLine := by have := c.un; omega
theorem RepE.blind {ρ : Nat → Addr} {n : Nat} {H : Hp} {E : Env} {σ : Sl} (r : RepE ρ n H E σ) (i : Nat) (v : V) : RepE ρ n H (E.set i Option.none) (σ.set i (some v)) := by
  refine ⟨by rw [List.length_set, List.length_set]; exact r.len, fun j c e => ?_⟩
  have hl := lt_of_get e
  rw [List.length_set] at hl
  by_cases z : i = j
  · subst z
    rw [List.getElem?_set_self hl] at e
    cases e
  · rw [List.getElem?_set_ne z] at e
    obtain ⟨u, h1, h2⟩ := r.get j c e
    exact ⟨u, by rw [List.getElem?_set_ne z]; exact h1, h2⟩
/-- the state at the head of a suite: x is caught, at a; slot i holds it -/
structure At0 (K : PySem.W.Frag) (c i : Nat) (a : Addr) (cls : Value) (d : Option Addr) (x : Exn) (ρ : Nat → Addr) (E : Env) (A : AH) (σ : Sl) (H : Hp) : Prop where
  e : RepE ρ A.length H E σ
  r : RepA K ρ H A
  rx : RepX K ρ A.length H x cls d
  xc : x.cls = c
  s : σ[i]? = some (some (.ref a))
def tSx (K : PySem.W.Frag) (c i : Nat) (a : Addr) (cls : Value) (d : Option Addr) (h : Exn → Sx) : TS := fun Dn σ H => ∃ x ρ E A, At0 K c i a cls d x ρ E A σ H ∧ PostS K WF ρ A H (h x E A) Dn
def tEx (K : PySem.W.Frag) (c i : Nat) (a : Addr) (cls : Value) (d : Option Addr) (m : Exn → Ex) : TE := fun σ H Q => ∃ x ρ E A, At0 K c i a cls d x ρ E A σ H ∧ Post K WF RepV ρ A σ H (m x E A) Q
def tTx (K : PySem.W.Frag) (c i : Nat) (a : Addr) (cls : Value) (d : Option Addr) (m : Exn → Tx) : TT := fun σ H Q => ∃ x ρ E A, At0 K c i a cls d x ρ E A σ H ∧ Post K WF relB ρ A σ H (m x E A) Q
def RXS (X : Cx) (c i : Nat) (a : Addr) (cls : Value) (d : Option Addr) (st : Stmt) (m : Exn → Sx) : Prop := PS X st (tSx X.K c i a cls d m)
def RXSs (X : Cx) (c i : Nat) (a : Addr) (cls : Value) (d : Option Addr) (st : List Stmt) (m : Exn → Sx) : Prop := PSs X st (tSx X.K c i a cls d m)
def RXE (X : Cx) (c i : Nat) (a : Addr) (cls : Value) (d : Option Addr) (e : Expr) (m : Exn → Ex) : Prop := PE X e (tEx X.K c i a cls d m)
def RXT (X : Cx) (c i : Nat) (a : Addr) (cls : Value) (d : Option Addr) (e : Expr) (m : Exn → Tx) : Prop := PT X e (tTx X.K c i a cls d m)
section
variable {X : Cx} {c i f : Nat} {a : Addr} {cls : Value} {d : Option Addr} {pos : Pos} {st : Stmt} {sts sts2 : List Stmt} {m m2 : Sx} {e e2 : Expr} {me : Exn → Ex} {mt : Exn → Tx} {ms : Exn → Sx} {m1 : Ex}
theorem rxss_plain (h : RSs X WF sts m) : RXSs X c i a cls d sts (fun _ => m) := PSs.imp h fun Dn σ H ⟨x, ρ, E, A, h0, q⟩ => ⟨ρ, E, A, h0.e, h0.r, q⟩
theorem rxss_one (h : RXS X c i a cls d st ms) : RXSs X c i a cls d [st] ms := pss_one h
theorem rxss_cons (h1 : RXS X c i a cls d st ms) (h2 : RSs X WF sts m2) : RXSs X c i a cls d (st :: sts) (fun x => sSeq (ms x) m2) :=
  PSs.imp (pss_cons h1 h2) fun Dn σ H ⟨x, ρ, E, A, h0, q⟩ => ⟨x, ρ, E, A, h0, PostS.seq q⟩
theorem rxs_ret (he : RXE X c i a cls d e me) : RXS X c i a cls d (.Return (some e) pos) (fun x => sRet (me x)) :=
  PS.imp (ps_ret he) fun Dn σ H ⟨x, ρ, E, A, h0, h⟩ => ⟨x, ρ, E, A, h0, PostS.then h0.e h fun ρ1 d B v H1 n1 r1 h1 => h1 ρ1 v H1 (.refl n1.rep) r1⟩
theorem rxs_if (hc : RXT X c i a cls d e mt) (h1 : RSs X WF sts m) (h2 : RSs X WF sts2 m2) : RXS X c i a cls d (.If e sts sts2 pos) (fun x => sIf (mt x) m m2) := by
  refine PS.imp (ps_if hc h1 h2) fun Dn σ H ⟨x, ρ, E, A, h0, h⟩ => ⟨x, ρ, E, A, h0, PostS.then h0.e h fun ρ1 d B v H1 n1 r1 h1 => ?_⟩
  have r1' : d = v := r1
  subst r1'
  cases d with
  | true => exact iteT ⟨ρ1, E, B, h0.e.ext n1.ext, n1.rep, h1⟩
  | false => exact iteF ⟨ρ1, E, B, h0.e.ext n1.ext, n1.rep, h1⟩
theorem rxt_cmp {op : CmpOp} {r : R2} {F : Fn} (ho : OpR X (compareOp op) r) (hk : Ok2 X.K r F) (ha : RXE X c i a cls d e me) (hb : RE X WF e2 m1) (hm : behindInMarks op e2 = false) : RXT X c i a cls d (.Compare e [op] [e2] pos) (fun x => tB (eF F (aCons (me x) (aCons m1 aNil)))) := by
  refine PT.imp (pt_cmpR ho ha hb hm) fun σ H Q ⟨x, ρ, E, A, h0, h⟩ => ⟨x, ρ, E, A, h0, ?_⟩
  have h' : Post X.K WF relB ρ A σ H ((eF F (aCons (me x) (aCons m1 aNil)) E A).bind kB) Q := h
  rw [eF2] at h'
  have h2 : Post X.K WF relB ρ A σ H ((me x E A).bind fun y A1 => ((m1 E A1).bind fun z A2 => F [y, z] A2).bind kB) Q := by
    cases q : me x E A with
    | ok y A1 => rw [q] at h'; exact h'
    | exc y A1 => rw [q] at h'; exact h'
    | bad => rw [q] at h'; exact h'
  refine Post.bind h2 fun ρ1 d1 B v H1 n1 r1 h1 => ?_
  have h3 : Post X.K WF relB ρ1 B σ H1 ((m1 E B).bind fun z A2 => (F [d1, z] A2).bind kB) Q := by
    cases q : m1 E B with
    | ok y A1 => rw [q] at h1; exact h1
    | exc y A1 => rw [q] at h1; exact h1
    | bad => rw [q] at h1; exact h1
  refine ⟨ρ1, E, B, h0.e.ext n1.ext, n1.rep, Post.bind h3 fun ρ2 d2 C v2 H2 n2 r2 h4 => ?_⟩
  refine hk WF ρ2 C σ H2 d1 d2 v v2 _ n2.rep (r1.ext n2.ext) r2 (Post.bind h4 fun ρ3 d3 B3 v3 H3 n3 r3 h5 => ?_)
  cases d3 with
  | bl k =>
    cases r3
    exact ⟨k, rfl, h5 ρ3 k H3 (.refl n3.rep) rfl⟩
  | _ => exact h5.elim
theorem rxe_lst1 (ha : RXE X c i a cls d e me) (hs : starEach (e :: []) X.env = (false, eval e X.env) :: starEach [] X.env := by rfl) : RXE X c i a cls d (.List [e] pos) (fun x => eF mkLst (aCons (me x) aNil)) := by
  refine PE.imp (pe_lst (pa_cons ha pa_nil hs)) fun σ H Q ⟨x, ρ, E, A, h0, h⟩ => ⟨x, ρ, E, A, h0, ?_⟩
  have h' : Post X.K WF RepV ρ A σ H (eF mkLst (aCons (me x) aNil) E A) Q := h
  rw [eF1] at h'
  refine Post.bind h' fun ρ1 d1 B v H1 n1 r1 h1 => ?_
  have h2 : Post X.K WF RepV ρ1 B σ H1 (if [d1].length ≤ line then .ok (.ref B.length) (B ++ [.lst [d1]]) else .bad) Q := h1
  by_cases z : [d1].length ≤ line
  · rw [if_pos z] at h2
    refine ⟨?_, fun p hp => post_lst n1.rep h2 (.cons r1 .nil) hp⟩
    have := z
    rw [line_eq] at this
    exact this
  · rw [if_neg z] at h2
    exact h2.elim
end
section
variable {X : Cx} {W : WX} {k c i f : Nat} {file cn par n : Str} {fI : Addr} {pos pos' np : Pos} {body suite : List Stmt} {b₀ : Stmt} {m : Sx} {hd : Exn → Sx} {hm2 : Sx}
/-- fault.many -/
theorem rxe_fld {a : Addr} {oe : Obj} {cls : Value} {d : Option Addr} {pn : List (Addr × Obj)} {p : Pos} (T : XOk1 X.K file cn par (clsA X.K c) fI) (hz : Zc cls d oe) (hf : ∃ vs, oe.data = .fields vs) (hfl : fldN[f]? = some par)
    (hi : X.N[i]? = some n := by rfl) (hv : Vis X.env.scope n := by first | exact Or.inl rfl | exact Or.inr (Or.inl rfl) | exact Or.inr (Or.inr rfl)) (hd : (n == ("__debug__" : Str)) = false := by decide) (hcd : (n == ("__classdict__" : Str)) = false := by decide)
    (hb : attributeBase (.Name n p) par X.env (eval (.Name n p) X.env) = eval (.Name n p) X.env := by rfl) :
    RXE (X.suite a ((a, oe) :: pn)) c i a cls d (.Attribute (.Name n p) par pos) (xFld f) := by
  obtain ⟨txt, j, p1, p2, q0, q1, q2, q3, q4, q5, q6, q7, q8, q9, scope, qual, hl, XTT, S, hpar, hB⟩ := T.ex
  refine ⟨fun pins s σ H Q I ⟨x, ρ, E, A, h0, h⟩ => ?_⟩
  have hN : (X.suite a ((a, oe) :: pn)).N[i]? = some n := hi
  have hV : Vis (X.suite a ((a, oe) :: pn)).env.scope n := hv
  refine attr_of hb (thn ((pe_var (X := X.suite a ((a, oe) :: pn)) (pos := p) hN hV hd hcd).run pins s σ H (fun v H1 => v = .ref a ∧ H1 = H) I ⟨.ref a, h0.s, rfl, rfl⟩) fun u s1 hh => ?_)
  obtain ⟨x', H1, I1, rx, ex, eH⟩ := hh
  subst ex
  subst eH
  obtain rfl : u = Value.ref a := rx
  obtain ⟨ec, hx⟩ := h0.rx
  rw [h0.xc] at ec
  rcases hx with ⟨e1, e2⟩ | ⟨dd, gs, e1, e2, e3⟩
  · have h' : Post X.K WF RepV ρ A σ H1 (xFld f x E A) Q := h
    unfold xFld at h'
    rw [e1] at h'
    exact h'.elim
  · have h' : Post X.K WF RepV ρ A σ H1 (xFld f x E A) Q := h
    unfold xFld at h'
    cases hfs : x.fs with
    | nil => rw [hfs] at h'; exact h'.elim
    | cons g r =>
      rw [hfs] at h' e3
      cases r with
      | cons _ _ => obtain ⟨g1, g2⟩ := g; exact h'.elim
      | nil =>
        obtain ⟨g, d1⟩ := g
        have h2 : Post X.K WF RepV ρ A σ H1 (if g = f then .ok d1 A else .bad) Q := h'
        by_cases z : g = f
        · rw [if_pos z] at h2
          subst z
          cases e3 with
          | cons f1 f2 f3 =>
            rename_i y v gs'
            cases f3
            rw [hfl] at f1
            obtain rfl : par = y := Option.some.inj f1
            have hq := h2 ρ v H1 (.refl h0.r) f2
            subst ec
            subst e1
            obtain ⟨ha, _⟩ := I1.pin (a, oe) (List.mem_append_left _ List.mem_cons_self)
            obtain ⟨vs, hdat⟩ := hf
            have hx : ObjOk X.prog X.w H1 s1.heap dd (.xd [(par, v)]) := I1.hok dd _ e2
            obtain ⟨mA, hns, hr⟩ := hx
            obtain ⟨od, ho, hlk⟩ := lookIn_ns hns
            have l : List.lookup par [(par, v)] = some v := by simp [List.lookup]
            obtain ⟨u, hu, ru⟩ := RelO.some_of (v := v) (o := mA par) (by rw [← l]; exact hr par)
            have J : PySem.W.InstAt s1.heap a oe (clsA X.K c) (some od) := ⟨ha, hz.1, by unfold PySem.W.notCls; rw [hdat] <;> rfl, by rw [hz.2]; exact ho⟩
            exact HandSPX.exc_get I1.kIn J XTT.ga XTT.gg XTT.exB (PySem.W.findObj_own XTT.hdC T.no rfl (by rw [hlk, hu])) (handed_of ru) ⟨v, H1, I1.tok _, ru, hq⟩
        · rw [if_neg z] at h2
          exact h2.elim
theorem ctx_try (cx : Ctx X W k) {W1 : WX} {pn : List (Addr × Obj)} {xe : Value → Shared → Prop} (tk : L2N.Takes (X.tr pn xe) W1) (po : PassesOwn (model X.prog X.w) X.A X.env xe) : Ctx (X.tr pn xe) W1 k := ⟨cx.calm, cx.nd, tk, po, cx.room⟩
theorem ctx_suite (cx : Ctx X W k) {a : Addr} {oe : Obj} {cls : Value} {d : Option Addr} (pn : List (Addr × Obj)) (hz : L2N.Zn cls d oe) (hf : ∃ vs, oe.data = .fields vs) : CtxS (X.suite a ((a, oe) :: pn)) k := ⟨cx.nd, cx.room.un, ⟨(a, oe), ⟨rfl, by
  obtain ⟨vs, e⟩ := hf
  exact ⟨vs, e, hz.2.2 vs e⟩⟩, List.mem_cons_self⟩, ⟨cx.room.dp, cx.room.un⟩, fun σ pins H s e s' I h => by
  obtain ⟨_, _, _, _, _, _, _, _, _, _, _, _, z⟩ := h
  exact z.elim⟩
/-- try: body / except cn as n: suite -/
theorem rs_tryAs (cx : Ctx X W k) (te : PySem.W.exmOne X.K (.ref (clsA X.K c)) (.ref (clsA X.K c)) = some true) (hm : X.mg cn = some (.ref (clsA X.K c)))
    (hb : ∀ (W1 : WX) (pn : List (Addr × Obj)) (xe : Value → Shared → Prop), Ctx (X.tr pn xe) W1 k → RSs (X.tr pn xe) W1 body m)
    (hs : ∀ (a : Addr) (oe : Obj) (cls : Value) (d : Option Addr) (pn : List (Addr × Obj)), Zc cls d oe → (∃ vs, oe.data = .fields vs) → CtxS (X.suite a ((a, oe) :: pn)) k → RXSs (X.suite a ((a, oe) :: pn)) c i a cls d (b₀ :: suite) hd)
    (hst : X.stack = X.env :: X.outer := by rfl) (hfr : X.env.frame = some X.env.locals := by rfl) (hi : X.N[i]? = some n := by rfl) (hln : X.env.kindOf n = some .local := by rfl) (hg : Gl X cn := by rfl) (hdb : (cn == ("__debug__" : Str)) = false := by decide) :
    RS X W (.Try body [.ExceptHandler (some (.Name cn np)) (some n) (b₀ :: suite) pos'] [] [] pos) (sTryAs m c i hd) := by
  refine PS.imp (L2N.ps_try_as hst hfr cx.nd hi hln (c := .ref (clsA X.K c)) ⟨hg, hdb, .inl hm⟩ cx.tk (tb := fun W1 => tS X.K W1 m) (ts := fun a cls d => tSx X.K c i a cls d hd)
    (fun W1 pn xe tk po => hb W1 pn xe (ctx_try cx tk po)) (fun a oe cls d pn hz hf => hs a oe cls d pn hz.zc hf (ctx_suite cx _ hz hf))) fun Dn σ H ⟨ρ, E, A, hE, hA, h⟩ => ⟨ρ, E, A, hE, hA, ?_⟩
  have h' : PostS X.K W ρ A H (sTryAs m c i hd E A) Dn := h
  unfold sTryAs at h'
  cases q : m E A with
  | nx E1 B => rw [q] at h'; exact h'
  | rt d B => rw [q] at h'; exact h'
  | bk E1 B => rw [q] at h'; exact h'
  | ct E1 B => rw [q] at h'; exact h'
  | bad => rw [q] at h'; exact h'
  | exc x E1 B =>
    rw [q] at h'
    have h2 : PostS X.K W ρ A H (if x.cls = c ∧ i < E1.length then unNm i (hd x (E1.set i none) B) else .bad) Dn := h'
    by_cases z : x.cls = c ∧ i < E1.length
    · rw [if_pos z] at h2
      intro ρ' cls d σ' H' n1 r1 rx
      have ecls : cls = .ref (clsA X.K c) := by rw [← z.1]; exact rx.1
      refine ⟨true, by rw [ecls]; exact te, fun _ a na => ?_, fun y => by cases y⟩
      refine ⟨x, ρ', E1.set i none, B, ⟨r1.blind i _, n1.rep, rx, z.1, List.getElem?_set_self (by rw [← r1.len]; exact z.2)⟩, ?_⟩
      have h3 := PostS.later h2 n1
      cases q2 : hd x (E1.set i none) B with
      | nx E2 B2 =>
        rw [q2] at h3
        exact fun ρ2 σ2 H2 n2 r2 => h3 ρ2 _ H2 n2 (r2.clear i)
      | rt d2 B2 => rw [q2] at h3; exact h3
      | bk E2 B2 =>
        rw [q2] at h3
        exact fun ρ2 σ2 H2 n2 r2 => h3 ρ2 _ H2 n2 (r2.clear i)
      | ct E2 B2 =>
        rw [q2] at h3
        exact fun ρ2 σ2 H2 n2 r2 => h3 ρ2 _ H2 n2 (r2.clear i)
      | exc y E2 B2 => rw [q2] at h3; exact h3.elim
      | bad => rw [q2] at h3; exact h3.elim
    · rw [if_neg z] at h2
      exact h2.elim
/-- try: body / except cn: suite -/
def sTry0 (m : Sx) (c : Nat) (h : Sx) : Sx := fun E A => match m E A with
  | .exc x E1 A1 => if x.cls = c then nxc (h E1 A1) else .bad
  | r => r
where nxc : SRes → SRes
  | .exc _ _ _ => .bad
  | r => r
/-- x = e within a suite -/
theorem rs_setS (cx : CtxS X k) (i : Nat) {x : Str} {e : Expr} {me : Ex} {pos' : Pos} (he : RE X W e me) (hi : X.N[i]? = some x := by rfl) (hx : Loc X.env.scope x := by first | exact Or.inl rfl | exact Or.inr rfl) (hs : swapsWith e (some (.Name x pos')) pos.line X.env = pure false := by rfl)
    (hf : X.fn x = true ∨ X.env.scope.names.lookup x = some .local := by first | exact .inl rfl | exact .inr rfl | assumption) : RS X W (.Assign [.Name x pos'] e pos) (sAsg me (gName i)) :=
  PS.imp (ps_set cx.nd hi hx he hs hf) fun Dn σ H ⟨ρ, E, A, hE, hA, h⟩ => ⟨ρ, E, A, hE, hA, PostS.then hE h fun ρ1 d B v H1 n1 r1 h1 => h1 ρ1 _ H1 (.refl n1.rep) ((hE.ext n1.ext).set i r1)⟩
end
end DL
set_option Elab.async false
set_option linter.all false
set_option maxRecDepth 100000
set_option maxHeartbeats 4000000
/-! Raise, try/except evaluated (own work). -/
namespace DL
open PySem
def kRaise (c f : Nat) (E : Env) : D → AH → SRes := fun d B => .exc ⟨c, [(f, d)]⟩ E B
@[simp] theorem ev_kRaise (c f : Nat) (E : Env) (d : D) (B : AH) : kRaise c f E d B = .exc ⟨c, [(f, d)]⟩ E B := rfl
@[simp] theorem ev_sRaise (c f : Nat) (me : Ex) (E : Env) (A : AH) : sRaise c f me E A = (me E A).then E (kRaise c f E) := rfl
@[simp] theorem ev_sRaise0 (c : Nat) (E : Env) (A : AH) : sRaise0 c E A = .exc ⟨c, []⟩ E A := rfl
def tryK (c i : Nat) (h : Exn → Sx) : SRes → SRes
  | .exc x E A => if x.cls = c ∧ i < E.length then unNm i (h x (E.set i none) A) else .bad
  | .nx E A => .nx E A
  | .rt d A => .rt d A
  | .bk E A => .bk E A
  | .ct E A => .ct E A
  | .bad => .bad
theorem ev_sTryAs (m : Sx) (c i : Nat) (h : Exn → Sx) (E : Env) (A : AH) : sTryAs m c i h E A = tryK c i h (m E A) := by
  unfold sTryAs tryK
  cases m E A <;> rfl
theorem tryK_exc (c i : Nat) (h : Exn → Sx) (fs : List (Nat × D)) (E : Env) (A : AH) (hi : i < E.length) : tryK c i h (.exc ⟨c, fs⟩ E A) = unNm i (h ⟨c, fs⟩ (E.set i none) A) := if_pos ⟨rfl, hi⟩
@[simp] theorem tryK_nx (c i : Nat) (h : Exn → Sx) (E : Env) (A : AH) : tryK c i h (.nx E A) = .nx E A := rfl
@[simp] theorem tryK_rt (c i : Nat) (h : Exn → Sx) (d : D) (A : AH) : tryK c i h (.rt d A) = .rt d A := rfl
def tryK0 (c : Nat) (h : Sx) : SRes → SRes
  | .exc x E A => if x.cls = c then sTry0.nxc (h E A) else .bad
  | .nx E A => .nx E A
  | .rt d A => .rt d A
  | .bk E A => .bk E A
  | .ct E A => .ct E A
  | .bad => .bad
theorem ev_sTry0 (m : Sx) (c : Nat) (h : Sx) (E : Env) (A : AH) : sTry0 m c h E A = tryK0 c h (m E A) := by
  unfold sTry0 tryK0
  cases m E A <;> rfl
theorem tryK0_exc (c : Nat) (h : Sx) (fs : List (Nat × D)) (E : Env) (A : AH) : tryK0 c h (.exc ⟨c, fs⟩ E A) = sTry0.nxc (h E A) := if_pos rfl
@[simp] theorem tryK0_nx (c : Nat) (h : Sx) (E : Env) (A : AH) : tryK0 c h (.nx E A) = .nx E A := rfl
@[simp] theorem tryK0_rt (c : Nat) (h : Sx) (d : D) (A : AH) : tryK0 c h (.rt d A) = .rt d A := rfl
@[simp] theorem nxc_nx (E : Env) (A : AH) : sTry0.nxc (.nx E A) = .nx E A := rfl
@[simp] theorem nxc_rt (d : D) (A : AH) : sTry0.nxc (.rt d A) = .rt d A := rfl
@[simp] theorem unNm_nx (i : Nat) (E : Env) (A : AH) : unNm i (.nx E A) = .nx (E.set i none) A := rfl
@[simp] theorem unNm_rt (i : Nat) (d : D) (A : AH) : unNm i (.rt d A) = .rt d A := rfl
@[simp] theorem unNm_ct (i : Nat) (E : Env) (A : AH) : unNm i (.ct E A) = .ct (E.set i none) A := rfl
@[simp] theorem ev_xFld (f c : Nat) (d : D) (E : Env) (A : AH) : xFld f ⟨c, [(f, d)]⟩ E A = .ok d A := if_pos rfl
theorem run_exc {np N : Nat} {b : Sx} {ds : List D} {A B : AH} {x : Exn} {E : Env} (hl : ds.length = np) (h : b (startE N ds) A = .exc x E B) : runDef np N b ds A = gcX A x B := by
  unfold runDef
  rw [if_pos hl, h]
  rfl
theorem gcX_app {A : AH} {x : Exn} (G : AH) (h : (x.fs.all fun p => p.2.bd A.length) = true) : gcX A x (A ++ G) = .exc x A := by
  unfold gcX
  rw [if_pos ⟨h, okPre_app A G⟩, List.take_left]
theorem gcX_self {A : AH} {x : Exn} (h : (x.fs.all fun p => p.2.bd A.length) = true) : gcX A x A = .exc x A := by
  have := gcX_app (A := A) (x := x) [] h
  rwa [List.append_nil] at this
end DL
set_option Elab.async false
set_option linter.all false
set_option maxRecDepth 100000
set_option maxHeartbeats 4000000
/-! Defs called while an exception is handled (own work). -/
namespace DL
open PySem PySem.Spec PyProof.Rows L2
structure HotOk (P : Program) (w : World) (K : PySem.W.Frag) (mg : Str → Option Value) (base : Heap) (k : Nat) (f : Addr) (ps : List Str) (n : Nat) (F : Fn) : Prop where
  ex : ∃ fd, L2H.FnH P w K mg base (L2N.CX P w) k f fd ps (spD K n F) ∧ Binds K fd ps []
  kp : PySem.W.keepIn K (.ref f) = true
section
variable {P : Program} {w : World} {K : PySem.W.Frag} {mg : Str → Option Value} {base : Heap} {x qual : Str} {params : Arguments} {body : List Stmt} {scope : Scope} {dvs : List V} {kws : List (Str × V)} {f : Addr} {fd : FuncData}
abbrev cxHD (P : Program) (w : World) (K : PySem.W.Frag) (mg : Str → Option Value) (base : Heap) (N : List Str) (qual : Str) (scope : Scope) (f : Addr) (cdv : Value) (A : Around) (outer : List PySem.Env) (s : Shared) (H : Hp) (E : XK) (p : Addr × Obj) : Cx := L2H.cxH (L2N.CX P w) P w K mg base N qual scope f cdv A outer s H E p
theorem def_okH {N ps : List Str} {k : Nat} {b : Sx} (F : FunD K x qual params body scope dvs kws f fd) (S : FnScope N ps scope) (hB : Binds K fd ps [])
    (hb : ∀ (cdv : Value) (A : Around) (outer : List PySem.Env) (s : Shared) (H : Hp) (E : XK) (p : Addr × Obj), RSs (cxHD P w K mg base N qual scope f cdv A outer s H E p) (wxD E) body b) :
    HotOk P w K mg base (k + 1) f ps ps.length (runDef ps.length N.length b) := by
  refine ⟨⟨fd, ?_, hB⟩, F.kp⟩
  obtain ⟨oc, od, dV, kV, doc, pm, an, cdv, ct, osl, rfl, lk, hcd, _, _⟩ := F.ex
  refine L2H.fn_ofH lk hcd S (fun vs H Q E h => h.1) fun A outer s H vs Q E p hot hr h => ?_
  refine ⟨_, hb cdv A outer s H E p, ?_⟩
  obtain ⟨hl, ρ, xs, C, hv, hA, hp⟩ := h
  refine ⟨ρ, startE N.length xs, C, startE_rep hv, hA, ?_⟩
  have hx : xs.length = ps.length := by rw [hv.len]; exact hl
  unfold runDef at hp
  rw [if_pos hx] at hp
  cases e : b (startE N.length xs) C with
  | nx E1 B =>
    rw [e] at hp
    exact fun ρ' σ H' n r => gc_post hA hp n .non
  | rt d B =>
    rw [e] at hp
    exact fun ρ' v H' n r => gc_post hA hp n r
  | bk E1 B => rw [e] at hp; exact hp.elim
  | ct E1 B => rw [e] at hp; exact hp.elim
  | exc y E1 B =>
    rw [e] at hp
    exact fun ρ' cls d σ H' n _ r => gcX_post hA hp n r
  | bad => rw [e] at hp; exact hp.elim
end
section
variable {X : Cx} {k : Nat} {f : Addr} {ps : List Str} {n : Nat} {F : Fn} {m : Str} {pos apos : Pos} {o : Expr} {mo : Ex}
/-- o.m() within a suite -/
theorem re_meth0H {pl : Sem Bool} {C j : Nat} (G : HotOk X.prog X.w X.K X.mg X.base j f ps n F) (c : CtxS X k) (hj : j ≤ k) (hn : Asks n F) (cl : Cls X.K (clsA X.K C)) (hm : Meth X.K (clsA X.K C) m f) (hout : m ∉ fldN) (ho : RE X WF o mo)
    (ht : eval (.Call (.Attribute o m apos) [] [] pos) X.env = (do
      let ov ← eval o X.env
      standAt apos.atName
      let (f, first) ← holding [ov] (getMethod ov m pl)
      callWith pos f first (backTo pos (starEach [] X.env)) (backToKw pos (keywordEach [] X.env))) := by rfl) :
    RE X WF (.Call (.Attribute o m apos) [] [] pos) (eM C (fun xs A => F (xs ++ []) A) mo aNil) := by
  obtain ⟨fd, G1, hb⟩ := G.ex
  refine ⟨fun pins s σ H Q I ⟨ρ, E, A, hE, hA, h⟩ => ?_⟩
  have q0 := ho.run pins s σ H _ I ⟨ρ, E, A, hE, hA, Post.bind h fun ρ1 d B v H1 n1 r1 h1 => (⟨ρ1, d, B, n1, r1, h1⟩ : ∃ ρ1 d B, Nxt X.K ρ A H ρ1 B H1 ∧ RepV ρ1 B.length H1 d v ∧ Post X.K WF RepV ρ1 B σ H1 (kM C (fun xs A => F (xs ++ []) A) aNil E d B) Q)⟩
  refine PySem.W.methodCall_KW (pl := pl) (thn q0 fun u s1 ⟨v, H1, I1, rx, ρ1, d, B, n1, r1, h1⟩ => ?_) ht
  have hi : isIns C B d = true := by
    cases z : isIns C B d with
    | true => rfl
    | false =>
      unfold kM at h1
      rw [z] at h1
      exact h1.elim
  have h2 : Post X.K WF RepV ρ1 B σ H1 (F ([d] ++ []) B) Q := by
    unfold kM at h1
    rw [if_pos hi] at h1
    exact h1
  obtain ⟨a, dx, gs, fs, rfl, ea, rf, _⟩ := ins_of n1.rep r1 hi
  obtain rfl : u = Value.ref a := rx
  refine getmeth_ok I1 ea cl hm (rf.out hout) ?_
  have r3 : RepVs ρ1 B.length H1 [d] [.ref a] := .cons r1 .nil
  have hl : [V.ref a].length = n := by
    have := lenD (dd := []) (dv := []) hn (.nil : RepVs ρ1 B.length H1 [] []) r3 (Post.ne h2)
    simpa using this
  exact PySem.W.callWith_K0 (first := [.ref a]) I1.kIn hm.kp (L2H.run_fnH (E := fun _ _ _ _ => False) (us := [.ref a]) (vs := [.ref a]) G1 (c.rm.mono hj) c.hot hb (c.pa σ) I1 (.cons rfl .nil) ⟨hl, ρ1, [d], B, r3, n1.rep, Post.wish h2 fun _ _ _ z => z⟩)
end
section
variable {X : Cx} {c i : Nat} {a : Addr} {cls : Value} {d : Option Addr} {pos : Pos} {e b : Expr} {rest : List Expr} {mt : Exn → Tx} {mu : Tx}
theorem rxt_or (h : RXT X c i a cls d e mt) (h2 : RW X WF (.BoolOp .Or (b :: rest) pos) mu) : RXT X c i a cls d (.BoolOp .Or (e :: b :: rest) pos) (fun x => tOr (mt x) mu) := by
  refine PT.imp (PW.pt (pw_or h h2)) fun σ H Q ⟨x, ρ, E, A, h0, h⟩ => ⟨x, ρ, E, A, h0, Post.bind h fun ρ1 d B v H1 n1 r1 h1 => ?_⟩
  have r1' : d = v := r1
  subst r1'
  cases d with
  | true => exact iteT (h1 ρ1 true H1 (.refl n1.rep) rfl)
  | false => exact iteF ⟨ρ1, E, B, h0.e.ext n1.ext, n1.rep, h1⟩
end
end DL
set_option Elab.async false
set_option linter.all false
set_option maxRecDepth 100000
set_option maxHeartbeats 4000000
/-! A list comprehension within a def that is called while an exception is handled (own work). -/
namespace HLC
open PySem PySem.Spec PyProof.Rows L2 HotX L2H
/-- the heap in which a block begins: its names, its cells -/
abbrev bHp (u : Shared) (sc : Scope) : Shared := { u with heap := pushCells (u.heap.push { cls := .type "dict", data := .dict #[] }) sc.names }
abbrev bEn (X : Cx) (u : Shared) (sc : Scope) : Env := compEnvC sc (cellsFrom (u.heap.objs.size + 1) sc.names (cloFrom X.env.cells sc.names [])) u.heap.objs.size X.env
/-- the block's context; what is handled stays pinned -/
abbrev bCx (X : Cx) (u : Shared) (G : Hp) (sc : Scope) (ce : Env) (fp : List Addr) : Cx := { X.blk u G sc ce fp with pn := X.pn }
section
variable {X : Cx} {pins : List (Addr × Obj)} {σ τ : L2.St} {H G G' : Hp} {s u u' : Shared} {sc : Scope} {ce : Env} {fp : List Addr} {own : List (Str × Nat)}
theorem bCx_of (I : Inv (X.blk u G sc ce fp) [] τ G' u') (k : ∀ p ∈ X.pn, u'.heap.get? p.1 = some p.2 ∧ G' p.1 = none ∧ p.1 ≠ ce.locals ∧ p.1 ∉ frs X.stack ∧ ∀ v, p.2.data ≠ .cell v) : Inv (bCx X u G sc ce fp) [] τ G' u' where
  ok := { mod := I.ok.mod, kind := I.ok.kind, glob := I.ok.glob, blt := I.ok.blt, above := I.ok.above, inj := I.ok.inj, has := I.ok.has, cab := I.ok.cab, hd := I.ok.hd, frames := I.ok.frames, stk := I.ok.stk, exf := I.ok.exf, bs := I.ok.bs, bsz := I.ok.bsz, noex := I.ok.noex, exfs := I.ok.exfs, funs := I.ok.funs, frf := I.ok.frf }
  os := I.os
  bare := I.bare
  base := I.base
  loc := I.loc
  cell := I.cell
  free := I.free
  freeC := I.freeC
  pin := fun p h => k p (by simpa using h)
  hok := I.hok
  len := I.len
theorem bCx_start (I : Inv X pins σ G u) (b0 : BlkOk X.N X.env.scope sc own) (nd : X.N.Nodup) (k : ∀ b ∈ fp, FpOk X pins G b ∧ b < u.heap.objs.size) : Inv (bCx X u G sc (bEn X u sc) fp) [] (L2.wipe σ (own.map (·.2))) G (bHp u sc) :=
  bCx_of (block_start I b0 nd k) fun p hp => by
    obtain ⟨g1, g2, g3, g4, g5⟩ := I.pin p (List.mem_append_left _ hp)
    refine ⟨pushCells_keeps _ _ _ _ (Heap.get?_push_of_some _ g1), g2, Nat.ne_of_lt (Heap.lt_size g1), fun m => ?_, g5⟩
    rcases List.mem_cons.mp (I.stkSub p.1 m) with e | e
    · exact g3 e
    · exact g4 e
/-- the iterator's objects are the block's own -/
theorem bCx_fp (k : ∀ b ∈ fp, FpOk X pins G b) (I : Inv (bCx X u G sc ce fp) [] τ G' u') (hn : ∀ b ∈ fp, G' b = none) : ∀ b ∈ fp, FpOk (bCx X u G sc ce fp) [] G' b := fun b hb => by
  obtain ⟨_, _, _, _, _, kp⟩ := k b hb
  obtain ⟨x1, x2⟩ := I.ok.exf b hb
  exact ⟨hn b hb, x1, I.ok.exfs b hb, .inl hb, x2, fun p hp => kp p (List.mem_append_left _ (by simpa using hp))⟩
/-- out of the block again -/
theorem bCx_out (I : Inv X pins σ G u) (k : ∀ b ∈ fp, FpOk X pins G b) (J : Inv (bCx X u G sc ce fp) [] τ G' u') : Inv X pins σ G' u' :=
  I.call' (ch := fp) J.os J.base J.hok J.bare fun b hb => by
    obtain ⟨_, f1, _, f3, f4, f5⟩ := k b hb
    exact ⟨f3, f1, f4, f5⟩
end
section
variable {X : Cx} {tg iter elt : Expr} {ifs : List Expr} {sc : Scope} {own : List (Str × Nat)} {pos pos' : Pos} {wi : TI} {g : TG} {tt : TT} {te : TE}
/-- what a comprehension's parts promise in their block -/
structure Parts (X : Cx) (tg elt : Expr) (ifs : List Expr) (sc : Scope) (g : TG) (tt : TT) (te : TE) : Prop where
  pg : ∀ u G fp, PG (bCx X u G sc (bEn X u sc) fp) tg g
  pt : ∀ u G fp, PTs (bCx X u G sc (bEn X u sc) fp) ifs tt
  pe : ∀ u G fp, PE (bCx X u G sc (bEn X u sc) fp) elt te
/-- one turn of the block: an item comes, is stored, tested, and told -/
theorem one_turn {pins : List (Addr × Obj)} {σ : L2.St} {u u5 : Shared} {G G5 : Hp} {fp : List Addr} {it D : Addr} {tn : Nat → Heap → Prop} {J : It} {i : Nat} {Nx : Hp → Prop} {R : Result → Shared → Prop} {n : Nat} {W : Nat → Nat → Hp → Prop} {e : Env} (hot : HotC X) (P : Parts X tg elt ifs sc g tt te) (T : TurnH X.prog X.w X.K tg J fp it tn)
    (k : ∀ b ∈ fp, FpOk X pins G b) (he : e = bEn X u sc) (I : Inv (bCx X u G sc e fp) [] (L2.wipe σ (own.map (·.2))) G5 u5) (st : tn i u5.heap) (fr : ∀ b ∈ fp, G5 b = none) (go : J.go i G5) (hN : ∀ H', Nx H' → ∃ m', m' < n ∧ W (i + 1) m' H')
    (step : ∀ x H', J.yld i G5 x H' → g x (L2.wipe σ (own.map (·.2))) H' fun σ2 H2 => L2.wipe σ2 (own.map (·.2)) = L2.wipe σ (own.map (·.2)) ∧ tt σ2 H2 fun b H3 =>
      if b = true then te σ2 H3 fun y H4 => ∃ acc, H4 D = some (.lst acc) ∧ acc.length < sizeLine ∧ Nx (upd H4 D (.lst (acc ++ [y]))) else Nx H3) :
    wpAny (model X.prog X.w) X.A (pyNext (.ref it)) (fun r s₁ => match r with
      | none => R (.ok .next) s₁
      | some v => wpAny (model X.prog X.w) X.A (letOwnedTupleGo tg (.ref it) v) (fun _ s₁' => wpAny (model X.prog X.w) X.A (assign tg e v) (fun _ s₂ =>
          wpAny (model X.prog X.w) X.A (forIn ifs true fun c r => if r = true then do let ok ← isTrue c e (eval c e); pure (ForInStep.yield ok) else pure (ForInStep.yield r)) (fun ok s₃ =>
            if ok = true then wpAny (model X.prog X.w) X.A (eval elt e) (fun x s₄ =>
              wpAny (model X.prog X.w) X.A (call (.builtin "list.append") [.ref D, x]) (fun _ s₅ => ∃ m, m < n ∧ ∃ i H', Inv (bCx X u G sc e fp) [] (L2.wipe σ (own.map (·.2))) H' s₅ ∧ tn i s₅.heap ∧ (∀ b ∈ fp, H' b = none) ∧ W i m H') (notedBy (model X.prog X.w) X.A e fun e s' => R (.error e) s') s₄) (notedBy (model X.prog X.w) X.A e fun e s' => R (.error e) s') s₃
            else ∃ m, m < n ∧ ∃ i H', Inv (bCx X u G sc e fp) [] (L2.wipe σ (own.map (·.2))) H' s₃ ∧ tn i s₃.heap ∧ (∀ b ∈ fp, H' b = none) ∧ W i m H') (notedBy (model X.prog X.w) X.A e fun e s' => R (.error e) s') s₂) (notedBy (model X.prog X.w) X.A e fun e s' => R (.error e) s') s₁') (notedBy (model X.prog X.w) X.A e fun e s' => R (.error e) s') s₁) (notedBy (model X.prog X.w) X.A e fun e s' => R (.error e) s') u5 := by
  subst he
  have item := T.item (bCx X u G sc (bEn X u sc) fp) rfl rfl rfl hot i [] u5 _ G5 (fun _ _ => False) I (bCx_fp k I fr) st go
  refine thnF item fun r u6 ⟨v, hr, h6⟩ => ?_
  cases hr
  refine thnF h6 fun _ u7 ⟨x, G7, I7, rv, hy, st7, fr7⟩ => ?_
  -- what the iterator is made of stays through the turn
  have I7p := I7.pinned (bCx_fp k I7 fr7) (T.obj _ _ st7)
  have back : ∀ {w : Shared} {τ : L2.St} {F : Hp}, L2.wipe τ (own.map (·.2)) = L2.wipe σ (own.map (·.2)) → Inv (bCx X u G sc (bEn X u sc) fp) ([] ++ pinsAt fp u7.heap) τ F w → Nx F →
      ∃ m, m < n ∧ ∃ i H', Inv (bCx X u G sc (bEn X u sc) fp) [] (L2.wipe σ (own.map (·.2))) H' w ∧ tn i w.heap ∧ (∀ b ∈ fp, H' b = none) ∧ W i m H' := fun {w τ F} hw Iw nx => by
    obtain ⟨m', lt', ww⟩ := hN F nx
    have there : ∀ b ∈ fp, ∀ o, u7.heap.get? b = some o → w.heap.get? b = some o ∧ F b = none := fun b hb o eo => by
      have z := Iw.pin (b, o) (List.mem_append_right _ (List.mem_append_right _ (mem_pinsAt hb eo)))
      exact ⟨z.1, z.2.1⟩
    have unp : Inv (bCx X u G sc (bEn X u sc) fp) [] τ F w := Iw.unpinned
    have lens : (L2.wipe σ (own.map (·.2))).length = τ.length := by rw [← hw, wipe_length]
    refine ⟨m', lt', i + 1, F, unp.weak lens fun j v ej => ?_, T.keep _ _ _ st7 fun b hb o eo => (there b hb o eo).1, fun b hb => ?_, ww⟩
    · rw [← hw] at ej
      exact (wipe_some ej).1
    · obtain ⟨o, eo, _⟩ := T.obj _ _ st7 b hb
      exact (there b hb o eo).2
  refine thnF ((P.pg u G fp).run _ u7 _ G7 x v _ I7p rv (step x G7 hy)) fun _ u8 ⟨τ, G8, I8, hw, q8⟩ => ?_
  refine thnF ((P.pt u G fp).run _ u8 τ G8 _ I8 q8) fun b u9 ⟨G9, I9, q9⟩ => ?_
  cases b with
  | true =>
    have yes : te τ G9 fun y H4 => ∃ acc, H4 D = some (.lst acc) ∧ acc.length < sizeLine ∧ Nx (upd H4 D (.lst (acc ++ [y]))) := q9
    refine thnF ((P.pe u G fp).run _ u9 τ G9 _ I9 yes) fun z w ⟨yv, F, Iw, ry, acc, eD, lD, nx⟩ => ?_
    exact app_ok (X := bCx X u G sc (bEn X u sc) fp) Iw eD lD ry fun w' Iw' => back hw Iw' nx
  | false =>
    have no : Nx G9 := q9
    exact back hw I9 no
/-- [elt for tg in iter if ..], hot -/
theorem pe_lcH (hot : HotC X) (nd : X.N.Nodup) (hi : PIH X tg iter wi) (b0 : BlkOk X.N X.env.scope sc own) (P : Parts X tg elt ifs sc g tt te) (hs : ∀ x, foldedSetIterable iter X.env x = pure x := by intro _; rfl) :
    PE X (.ListComp elt [⟨tg, iter, ifs, 0⟩] sc pos) (tLc wi g tt te (own.map (·.2))) := by
  refine ⟨fun pins s σ H Q I h => ?_⟩
  rw [eval_ListComp]
  have hclo : ∀ y ∈ sc.names, y.2 = .free → ∃ c, X.env.cells.lookup y.1 = some c := fun y hy e =>
    (b0.free y hy e).elim (fun k => I.ok.has _ (.inl k)) fun k => I.ok.has _ (.inr k)
  refine wpAny_comprehension_free rfl hs (closure_ok hclo) b0.kind (fun y hy e => by rw [b0.uniq y hy, e]) ?_
  refine thn (hi.run pins s σ H _ I h) fun xv t1 h1 => thn h1 fun itv t2 h2 => ?_
  obtain ⟨it, fp, tn, J, G2, rfl, I2, T, st2, k2, q⟩ := h2
  refine wpAny_newObj_type (newEnv_comp ?_) (by show 0 ≤ sizeLine; decide)
  obtain ⟨D, eD⟩ : ∃ D, D = t2.heap.objs.size := ⟨_, rfl⟩
  rw [← eD]
  obtain ⟨W, ⟨m0, w0⟩, turn⟩ := q D (I2.hok.fresh (Nat.le_of_eq eD.symm))
  obtain ⟨u, eu⟩ : ∃ u : Shared, u = { t2 with heap := t2.heap.push { cls := .type "list", data := .seq ([] : List Value).toArray } } := ⟨_, rfl⟩
  have hu : u.heap = t2.heap.push { cls := .type "list", data := .seq ([] : List Value).toArray } := by rw [eu]
  obtain ⟨G, eG⟩ : ∃ G : Hp, G = upd G2 D (.lst []) := ⟨_, rfl⟩
  rw [← eG] at w0
  have I3 : Inv X pins σ G u := by
    subst eu eG
    exact I2.laid (t' := t2.toks) (fun b o e => Heap.get?_push_of_some _ e) (Nat.le_of_eq eD.symm) ⟨Nat.zero_le _, [], 0, .nil, by rw [eD]; exact Heap.get?_push_size _ rfl⟩
  have low : ∀ b ∈ fp, b < t2.heap.objs.size := fun b hb => by
    obtain ⟨o, e, _⟩ := T.obj _ _ st2 b hb
    exact Heap.lt_size e
  have k3 : ∀ b ∈ fp, FpOk X pins G b := fun b hb => by
    obtain ⟨f0, f⟩ := k2 b hb
    refine ⟨?_, f⟩
    rw [eG, upd_ne (by rw [eD]; exact Nat.ne_of_lt (low b hb))]
    exact f0
  have k3' : ∀ b ∈ fp, FpOk X pins G b ∧ b < u.heap.objs.size := fun b hb => ⟨k3 b hb, by
    rw [hu, Heap.size_push]
    exact Nat.lt_succ_of_lt (low b hb)⟩
  have I4 := bCx_start I3 b0 nd k3'
  have st4 : tn 0 (bHp u sc).heap := T.keep _ _ _ st2 fun b _ o e => by
    refine pushCells_keeps _ _ _ _ (Heap.get?_push_of_some _ ?_)
    rw [hu]
    exact Heap.get?_push_of_some _ e
  have cL : (bEn X u sc).locals = u.heap.objs.size := rfl
  rw [← eu]
  have goes : codeAny (model X.prog X.w) X.A (.compLoop (.ListComp elt [⟨tg, iter, ifs, 0⟩] sc pos) 0 (.ref it) (.ref D) (bEn X u sc)) (compPost (model X.prog X.w) X.A X.xe none (EP X pins σ Q) (.ref D) u.heap.objs.size) (bHp u sc) := by
    refine compLoop_any (fun n t => ∃ i H', Inv (bCx X u G sc (bEn X u sc) fp) [] (L2.wipe σ (own.map (·.2))) H' t ∧ tn i t.heap ∧ (∀ b ∈ fp, H' b = none) ∧ W i n H') ?_ m0 ⟨0, G, I4, st4, fun b hb => (k3 b hb).1, w0⟩
    rintro n t ⟨i, G5, I5, st5, fr5, w5⟩
    rcases turn i n G5 w5 with ⟨stop, qq⟩ | ⟨go, Nx, hN, step⟩
    · refine thnF (T.done (bCx X u G sc (bEn X u sc) fp) rfl rfl rfl hot i [] t _ G5 (fun _ _ => False) I5 (bCx_fp k3 I5 fr5) st5 stop) fun r t6 ⟨hr, I6⟩ => ?_
      cases hr
      have I7 := bCx_out I3 k3 I6
      have none5 : G5 u.heap.objs.size = none := I6.free
      obtain ⟨m, hn, _⟩ := I6.loc
      have hn' : t6.heap.Ns u.heap.objs.size m := hn
      obtain ⟨f0, f1, _, f3, f4, f5⟩ := I3.fpOk (H' := G5) (Nat.le_refl _) none5
      refine ⟨m, hn', fun h'' sb => ?_⟩
      exact ⟨.ref D, G5, I7.turned (t' := t6.toks) (fun b o hb e => (sb.2 b hb).trans e) f0 f1 f3 f4 f5, rfl, qq⟩
    · exact one_turn hot P T k3 rfl I5 st5 fr5 go hN step
  exact codeAny_compStart_list goes (T.self X.A 0 _ _ _ st4 goes)
end
end HLC
set_option Elab.async false
set_option linter.all false
set_option maxRecDepth 100000
set_option maxHeartbeats 4000000
/-! Hot defs that call hot defs; a comprehension there (own work). -/
namespace DL
open PySem PySem.Spec PyProof.Rows L2
/-- no exception leaves -/
def noE : Res D → Res D
  | .exc _ _ => .bad
  | r => r
@[simp] theorem noE_ok (d : D) (A : AH) : noE (.ok d A) = .ok d A := rfl
theorem Asks.runE {np N : Nat} {b : Sx} : Asks np (fun ds A => noE (runDef np N b ds A)) := fun xs A h => by
  by_cases e : xs.length = np
  · exact e
  · refine absurd ?_ h
    show noE (runDef np N b xs A) = .bad
    unfold runDef
    rw [if_neg e]
    rfl
theorem gc_noE (A : AH) (d : D) (B : AH) : noE (gc A d B) = gc A d B := by
  unfold gc
  split
  · rfl
  · cases refO A B d with
    | none => rfl
    | some o =>
      unfold gcO
      dsimp only
      split <;> rfl
theorem gcX_noE (A : AH) (x : Exn) (B : AH) : noE (gcX A x B) = .bad := by
  unfold gcX
  split <;> rfl
section
variable {P : Program} {w : World} {K : PySem.W.Frag} {mg : Str → Option Value} {base : Heap} {x qual : Str} {params : Arguments} {body : List Stmt} {scope : Scope} {dvs : List V} {kws : List (Str × V)} {f : Addr} {fd : FuncData}
theorem pa_never {X : Cx} : ∀ σ, PassesAt (L2N.CX X.prog X.w) X σ (fun _ _ _ => False) := fun σ pins H s e s' I h => by
  obtain ⟨_, _, _, _, _, _, _, _, _, _, _, _, z⟩ := h
  exact z.elim
theorem def_okHF {N ps : List Str} {k : Nat} {b : Sx} (F : FunD K x qual params body scope dvs kws f fd) (S : FnScope N ps scope) (hB : Binds K fd ps [])
    (hb : ∀ (cdv : Value) (A : Around) (outer : List PySem.Env) (s : Shared) (H : Hp) (E : XK) (p : Addr × Obj), CtxS (cxHD P w K mg base N qual scope f cdv A outer s H E p) k → RSs (cxHD P w K mg base N qual scope f cdv A outer s H E p) WF body b) :
    HotOk P w K mg base (k + 1) f ps ps.length (fun ds A => noE (runDef ps.length N.length b ds A)) := by
  refine ⟨⟨fd, ?_, hB⟩, F.kp⟩
  obtain ⟨oc, od, dV, kV, doc, pm, an, cdv, ct, osl, rfl, lk, hcd, _, _⟩ := F.ex
  refine L2H.fn_ofH lk hcd S (fun vs H Q E h => h.1) fun A outer s H vs Q E p hot hr h => ?_
  have cs : CtxS (cxHD P w K mg base N qual scope f cdv A outer s H E p) k := ⟨S.nd, hr.un, ⟨p, hot, List.mem_cons_self⟩, hr, pa_never⟩
  refine ⟨_, hb cdv A outer s H E p cs, ?_⟩
  obtain ⟨hl, ρ, xs, C, hv, hA, hp⟩ := h
  refine ⟨ρ, startE N.length xs, C, startE_rep hv, hA, ?_⟩
  have hx : xs.length = ps.length := by rw [hv.len]; exact hl
  unfold runDef at hp
  dsimp only at hp
  rw [if_pos hx] at hp
  cases e : b (startE N.length xs) C with
  | nx E1 B =>
    have e2 : noE (endF C (b (startE N.length xs) C)) = gc C .non B := by rw [e]; exact gc_noE _ _ _
    rw [e2] at hp
    exact fun ρ' σ H' n r => gc_post hA hp n .non
  | rt d B =>
    have e2 : noE (endF C (b (startE N.length xs) C)) = gc C d B := by rw [e]; exact gc_noE _ _ _
    rw [e2] at hp
    exact fun ρ' v H' n r => gc_post hA hp n r
  | bk E1 B => rw [e] at hp; exact hp.elim
  | ct E1 B => rw [e] at hp; exact hp.elim
  | exc y E1 B =>
    have e2 : noE (endF C (b (startE N.length xs) C)) = .bad := by rw [e]; exact gcX_noE _ _ _
    rw [e2] at hp
    exact hp.elim
  | bad => rw [e] at hp; exact hp.elim
end
section
variable {X : Cx} {k : Nat} {f : Addr} {ps : List Str} {n : Nat} {F : Fn} {x m : Str} {q pos apos : Pos} {e o : Expr} {es : List Expr} {mr : Ax} {mo : Ex}
/-- f(e, ..) within a suite, or a hot def -/
theorem re_callH {j : Nat} (G : HotOk X.prog X.w X.K X.mg X.base j f ps n F) (c : CtxS X k) (hj : j ≤ k) (hn : Asks n F) (hg : Gl X x) (hm : X.mg x = some (.ref f)) (ha : RA X WF (e :: es) mr)
    (hdb : (x == ("__debug__" : Str)) = false := by decide) (he : starEach (e :: es) X.env = (false, eval e X.env) :: starEach es X.env := by rfl) (hpl : (backTo pos (starEach es X.env)).any (·.1) = false := by rfl) :
    RE X WF (.Call (.Name x q) (e :: es) [] pos) (eF (fun xs A => F (xs ++ []) A) mr) := by
  obtain ⟨fd, G1, hb⟩ := G.ex
  refine ⟨fun pins s σ H Q I ⟨ρ, E, A, hE, hA, h⟩ => ?_⟩
  refine wpAny_Call_Name_kw (ld_glob I hg hm ?_ hdb)
  have q0 := ha.run pos pins s σ H _ I ⟨ρ, E, A, hE, hA, Post.bind h fun ρ1 xs B vs H1 n1 r1 h1 => (⟨ρ1, xs, B, n1.rep, r1, h1⟩ : ∃ ρ1 xs B, RepA X.K ρ1 H1 B ∧ RepVs ρ1 B.length H1 xs vs ∧ Post X.K WF RepV ρ1 B σ H1 (F (xs ++ []) B) Q)⟩
  refine PySem.W.callWith_K (h₀ := X.base) I.ok.mod.kin G.kp (thn q0 fun us s1 ⟨vs, H1, I1, rv, ρ1, xs, B, hB, r1, h1⟩ => ⟨I1.kIn, ?_⟩) he hpl
  have hl : vs.length = n := by
    have := lenD (dd := []) (dv := []) hn (.nil : RepVs ρ1 B.length H1 [] []) r1 (Post.ne h1)
    simpa using this
  rw [List.append_nil] at h1
  exact L2H.run_fnH (E := fun _ _ _ _ => False) G1 (c.rm.mono hj) c.hot hb (c.pa σ) I1 rv ⟨hl, ρ1, xs, B, r1, hB, Post.wish h1 fun _ _ _ z => z⟩
/-- o.m(e, ..) within a suite, or a hot def -/
theorem re_methH {pl : Sem Bool} {C j : Nat} (G : HotOk X.prog X.w X.K X.mg X.base j f ps n F) (c : CtxS X k) (hj : j ≤ k) (hn : Asks n F) (cl : Cls X.K (clsA X.K C)) (hm : Meth X.K (clsA X.K C) m f) (hout : m ∉ fldN) (ho : RE X WF o mo) (ha : RA X WF (e :: es) mr)
    (hst : starEach (e :: es) X.env = (false, eval e X.env) :: starEach es X.env := by rfl) (hpl : (backTo pos (starEach es X.env)).any (·.1) = false := by rfl)
    (ht : eval (.Call (.Attribute o m apos) (e :: es) [] pos) X.env = (do
      let ov ← eval o X.env
      standAt apos.atName
      let (f, first) ← holding [ov] (getMethod ov m pl)
      callWith pos f first (backTo pos (starEach (e :: es) X.env)) (backToKw pos (keywordEach [] X.env))) := by rfl) :
    RE X WF (.Call (.Attribute o m apos) (e :: es) [] pos) (eM C (fun xs A => F (xs ++ []) A) mo mr) := by
  obtain ⟨fd, G1, hb⟩ := G.ex
  refine ⟨fun pins s σ H Q I ⟨ρ, E, A, hE, hA, h⟩ => ?_⟩
  have q0 := ho.run pins s σ H _ I ⟨ρ, E, A, hE, hA, Post.bind h fun ρ1 d B v H1 n1 r1 h1 => (⟨ρ1, d, B, n1, r1, h1⟩ : ∃ ρ1 d B, Nxt X.K ρ A H ρ1 B H1 ∧ RepV ρ1 B.length H1 d v ∧ Post X.K WF RepV ρ1 B σ H1 (kM C (fun xs A => F (xs ++ []) A) mr E d B) Q)⟩
  refine PySem.W.methodCall_KW (pl := pl) (thn q0 fun u s1 ⟨v, H1, I1, rx, ρ1, d, B, n1, r1, h1⟩ => ?_) ht
  have hi : isIns C B d = true := by
    cases z : isIns C B d with
    | true => rfl
    | false =>
      unfold kM at h1
      rw [z] at h1
      exact h1.elim
  have h2 : Post X.K WF RepV ρ1 B σ H1 ((mr E B).bind (kM2 (fun xs A => F (xs ++ []) A) d)) Q := by
    unfold kM at h1
    rw [if_pos hi] at h1
    exact h1
  obtain ⟨a, dx, gs, fs, rfl, ea, rf, _⟩ := ins_of n1.rep r1 hi
  obtain rfl : u = Value.ref a := rx
  refine getmeth_ok I1 ea cl hm (rf.out hout) ?_
  have q2 := ha.run pos pins s1 σ H1 _ I1 ⟨ρ1, E, B, hE.ext n1.ext, n1.rep, Post.bind h2 fun ρ2 xs B2 vs H2 n2 r2 h3 => (⟨ρ2, xs, B2, n2.rep, r2, r1.ext n2.ext, h3⟩ : ∃ ρ2 xs B2, RepA X.K ρ2 H2 B2 ∧ RepVs ρ2 B2.length H2 xs vs ∧ RepV ρ2 B2.length H2 d (.ref a) ∧ Post X.K WF RepV ρ2 B2 σ H2 (F ((d :: xs) ++ []) B2) Q)⟩
  refine PySem.W.callWith_K (first := [.ref a]) (h₀ := X.base) I1.ok.mod.kin hm.kp (thn q2 fun us s2 ⟨vs, H2, I2, rv, ρ2, xs, B2, hB, r2, rd, h3⟩ => ⟨I2.kIn, ?_⟩) hst hpl
  have hl : (V.ref a :: vs).length = n := by
    have := lenD (dd := []) (dv := []) hn (.nil : RepVs ρ2 B2.length H2 [] []) (.cons rd r2 : RepVs ρ2 B2.length H2 (d :: xs) (.ref a :: vs)) (Post.ne h3)
    simpa using this
  rw [List.append_nil] at h3
  exact L2H.run_fnH (E := fun _ _ _ _ => False) (us := .ref a :: us) (vs := .ref a :: vs) G1 (c.rm.mono hj) c.hot hb (c.pa σ) I2 (.cons rfl rv) ⟨hl, ρ2, d :: xs, B2, .cons rd r2, hB, Post.wish h3 fun _ _ _ z => z⟩
end
/-! ### the comprehension -/
def RIH (X : Cx) (tg e : Expr) (m : Ix) : Prop := L2H.PIH X tg e (tI X.K WF m)
theorem pih_imp {X : Cx} {tg e : Expr} {t t' : TI} (h : L2H.PIH X tg e t) (hh : ∀ σ H R, t' σ H R → t σ H R) : L2H.PIH X tg e t' := ⟨fun pins s σ H R I q => h.run pins s σ H R I (hh σ H R q)⟩
section
variable {X : Cx} {k : Nat} {pos p : Pos} {tg elt a iter : Expr} {ifs : List Expr} {scope : Scope} {own : List (Str × Nat)} {mi : Ix} {g : Gx} {mt : Tx} {me : Ex} {mr : Ax}
theorem ri_rng1H (hg : Gl X "range") (hm : X.mg "range" = none) (ha : RA X WF [a] mr) (hs : starEach [a] X.env = [(false, eval a X.env)] := by rfl) : RIH X tg (.Call (.Name "range" p) [a] [] pos) (iRng1 mr) := by
  refine pih_imp (L2H.pi_range1H hg hm ha hs) fun σ H R ⟨ρ, E, A, hE, hA, h⟩ => ⟨ρ, E, A, hE, hA, PostI.bind h fun ρ1 ds B vs H1 n1 r1 h1 => ?_⟩
  cases r1 with
  | nil => exact h1.elim
  | cons r1 r2 => cases r2 with
    | cons _ _ => cases r1 <;> exact h1.elim
    | nil => cases r1 with
      | int j =>
        have h2 : PostI X.K WF ρ1 B σ H1 (if small62 j = true then .ok (.seq (upto 0 j.toNat)) B else .bad) R := h1
        by_cases z : small62 j = true
        · rw [if_pos z] at h2
          obtain ⟨s1, s2⟩ := small62_ok z
          exact ⟨j, rfl, s1, s2, h2 ρ1 _ H1 (.refl n1.rep) it_rng⟩
        · rw [if_neg z] at h2
          exact h2.elim
      | _ => exact h1.elim
abbrev blkH (X : Cx) (scope : Scope) (u : Shared) (G : Hp) (fp : List Addr) : Cx := HLC.bCx X u G scope (HLC.bEn X u scope) fp
theorem CtxS.blkH (c : CtxS X k) (u : Shared) (G : Hp) (fp : List Addr) : CtxS (DL.blkH X scope u G fp) k := ⟨c.nd, c.un, c.hot, c.rm, pa_never⟩
theorem re_lcH (c : CtxS X k) (hi : RIH X tg iter mi) (ok : BlkOk X.N X.env.scope scope own)
    (hg : ∀ u G fp, RGo (DL.blkH X scope u G fp) WF (own.map (·.2)) tg g) (ht : ∀ u G fp, RTs (DL.blkH X scope u G fp) WF ifs mt) (he : ∀ u G fp, RE (DL.blkH X scope u G fp) WF elt me)
    (hs : ∀ x, foldedSetIterable iter X.env x = pure x := by intro _; rfl) : RE X WF (.ListComp elt [⟨tg, iter, ifs, 0⟩] scope pos) (eLc mi g mt me (own.map (·.2))) :=
  PE.imp (HLC.pe_lcH (g := fun v σ H Q => tG X.K WF g v σ H fun σ2 H2 => L2.wipe σ2 (own.map (·.2)) = L2.wipe σ (own.map (·.2)) → Q σ2 H2) (tt := tT X.K WF mt) (te := tE X.K WF me) c.hot c.nd hi ok ⟨hg, ht, he⟩ hs) fun σ H Q h => lc_of h
end
end DL
set_option Elab.async false
set_option linter.all false
set_option maxRecDepth 100000
set_option maxHeartbeats 4000000
/-! x != y of a class that has its own == alone (own work). -/
namespace NEX
open PySem PySem.Spec PySem.W PyProof.Rows L2
/-- the class asks object for != -/
structure NeC (K : PySem.W.Frag) (C f : Addr) : Prop where
  ne : findIn K (.ref C) "__ne__" = some (some (.builtin "object.__ne__"))
  top : mroIn K C (.type "object") = some true
  eq : findIn K (.ref C) "__eq__" = some (some (.ref f))
  fn : isFn K (.ref f) = true
  cl : findIn K (.ref C) "__class__" = some (some (.builtin "object.__class__"))
  cg : specialIn K (.builtin "object.__class__") "__get__" = some (some (.builtin "getset_descriptor.__get__"))
  ct : takesIn K (.builtin "object.__class__") = some true
section
variable {prog : Program} {w : World} {A : Around} {E : Value → Shared → Prop} {s : Shared} {K : Frag} {x C f : Addr} {ox : Obj} {od : Option Obj} {b : Value}
theorem call_ne {Q : Value → Shared → Prop} (hu : A.units + 1 < cLine) (X : K.In s.heap) (I : InstAt s.heap x ox C od) (c : NeC K C f)
    (h : wpAny (model prog w) A.in1 (call (.ref f) [.ref x, b]) (fun v s' => ∃ r : Bool, v = .bool r ∧ Q (.bool (!r)) s') E s) : wpAny (model prog w) A (call (.builtin "object.__ne__") [.ref x, b]) Q E s := by
  have iv : Looks (model prog w) s.heap (isInstance (.ref x) (.type "object")) true := (I.type (M := model prog w)).andThen (looks_mroIn X c.top)
  refine wpAny_call (codeAny_call_builtin (by decide +kernel) F.cmpEntry_ne (@check_slot (model prog w) _ _ _ "object.__ne__" "object" "__ne__" (.ref x) [b] [] _ F.cmpKind_ne F.cmpSplit_ne iv (F.cmpArgs_ne _ _) ?_))
  unfold Builtin.«object.__ne__»
  refine wpAny_bind (wpAny_pure ?_)
  refine wpAny_bind (wpAny_cRoomFor (by show A.units + 1 < cLine; omega) ?_)
  refine wpAny_bind ?_
  refine ifBound_K (M := model prog w) (args := [b]) X I c.eq c.fn (wpAny_mono h (fun v s' z => ?_) fun _ _ z => z)
  obtain ⟨r, rfl, q⟩ := z
  refine wpAny_bind (wpAny_truthy_bool ?_)
  exact wpAny_pure q
theorem ne_K {h₀ : Heap} {L : Addr} {m : Str → Option Value} {Q : Value → Shared → Prop} (hu : A.units + 1 < cLine) (F : Fr h₀ L s.heap m) (X₀ : K.In h₀) (I : InstAt s.heap x ox C od) (hb : Looks (model prog w) s.heap (typeOf b) (.ref C)) (c : NeC K C f)
    (h : wpAny (model prog w) A.in1 (call (.ref f) [.ref x, b]) (fun v s' => ∃ r : Bool, v = .bool r ∧ Q (.bool (!r)) s') E s) : wpAny (model prog w) A (richCompare .NotEq (.ref x) b) Q E s := by
  have X := X₀.keeps F.keep
  have sp : Looks (model prog w) s.heap (specialOf (.ref x) "__ne__") (some (.builtin "object.__ne__")) := (I.type (M := model prog w)).andThen (looks_findIn X c.ne)
  have FB : Slot "object" "__ne__" "object.__ne__" := .of (owner := "object") (n := "__ne__") (by rw [typeLookup_type, builtinLookup_eq_fast]; kernel_rfl) (by decide +kernel) (by decide +kernel) (by decide +kernel) (.inl (by decide +kernel)) (by rw [isSubtype_type]; kernel_rfl)
  have one : wpAny (model prog w) A (tryCompare (.ref x) "__ne__" b) (fun r s' => ∃ c : Bool, r = some (.bool c) ∧ Q (.bool c) s') E s := by
    unfold tryCompare
    refine wpAny_bind (NtL.csib (args := [b]) sp (FB.bind _) (call_ne hu X I c (wpAny_mono h (fun v s' z => ?_) fun _ _ e => e)))
    obtain ⟨r, rfl, q⟩ := z
    exact ⟨r, rfl, wpAny_pure ⟨!r, rfl, q⟩⟩
  unfold richCompare
  simp only [oneThing_ref]
  refine wpAny_holding (wpAny_bind (wpAny_cRoomFor (by omega) ?_))
  refine wpAny_bind (I.type.here (wpAny_bind (hb.here ?_)))
  rw [if_neg (by simp)]
  refine wpAny_bind (wpAny_pure ?_)
  simp only [Bool.false_eq_true, if_false]
  refine wpAny_bind (wpAny_mono one (fun r s' z => ?_) fun _ _ e => e)
  obtain ⟨v, rfl, hq⟩ := z
  exact wpAny_pure hq
end
end NEX
set_option Elab.async false
set_option linter.all false
set_option maxRecDepth 100000
set_option maxHeartbeats 4000000
/-! x != y of a class that has its own == alone: the D-layer's rule (own work). -/
namespace DL
open PySem PySem.Spec PyProof.Rows L2
def negR : Res D → Res D
  | .ok (.bl b) A => .ok (.bl (!b)) A
  | _ => .bad
/-- x != y, F the own == -/
def opNeOwn (C : Nat) (F : Fn) : Fn
  | [d, e], A => if (isIns C A d && isIns C A e) = true then negR (F [d, e] A) else .bad
  | _, _ => .bad
theorem ev_neOwn {C : Nat} {F : Fn} {d e : D} {A B : AH} {b : Bool} (h1 : isIns C A d = true) (h2 : isIns C A e = true) (h : F [d, e] A = .ok (.bl b) B) : opNeOwn C F [d, e] A = .ok (.bl (!b)) B := by
  show (if (isIns C A d && isIns C A e) = true then negR (F [d, e] A) else .bad) = _
  rw [h1, h2, h]
  rfl
def rNeOwn (K : PySem.W.Frag) (C : Nat) (F : Fn) : R2 := fun x y H Q => ∃ a b dx dy fs gs, x = V.ref a ∧ y = V.ref b ∧ H a = some (.ins (clsA K C) dx fs) ∧ H b = some (.ins (clsA K C) dy gs) ∧
  spD K 2 F [x, y] H (fun v H' => ∃ r, v = V.bl r ∧ Q (.bl (!r)) H') (fun _ _ _ => False)
section
variable {X : Cx} {W : WX} {j k : Nat} {f : Addr} {ps : List Str} {ds : List Value} {C : Nat} {F : Fn}
theorem op_neOwn (G : DefOk X.prog X.w X.K X.mg X.base j f ps ds 2 F) (c : Ctx X W k) (hj : j + 1 ≤ k) (hd : Vals ([] : List V) ds) (nc : NEX.NeC X.K (clsA X.K C) f) : OpR X (compareOp .NotEq) (rNeOwn X.K C F) := by
  intro pins s σ H x y v u Q I rx ry h
  obtain ⟨a, b, dx, dy, fs, gs, rfl, rfl, ha, hb', sp⟩ := h
  obtain rfl : v = Value.ref a := rx
  obtain rfl : u = Value.ref b := ry
  cases hd
  obtain ⟨fd, G1, hb⟩ := G.ex
  obtain ⟨mA, J, _⟩ := ins_get I.hok ha
  obtain ⟨mB, J', _⟩ := ins_get I.hok hb'
  obtain ⟨od, J, _⟩ := J.look
  obtain ⟨od', J', _⟩ := J'.look
  obtain ⟨m, hF⟩ := I.fr
  have room : Room j X.A.in1 := (c.room.mono hj).in1
  show wpAny (model X.prog X.w) X.A (richCompare .NotEq (.ref a) (.ref b)) (EP X pins σ Q) X.xe s
  refine NEX.ne_K (by have := c.room.un; omega) hF I.ok.mod.kin J J'.type nc ?_
  have r2 : Vals [V.ref a, V.ref b] [Value.ref a, Value.ref b] := .cons rfl (.cons rfl .nil)
  have hl := G1.len _ _ _ _ sp
  refine wpAny_call (codeAny_mono (G1.run X.A.in1 X.stack s H ⟨[.ref a, .ref b], []⟩ [.ref a, .ref b] [.ref a, .ref b] _ (fun _ _ _ => False) room I.env0.in1 (by
    have := hb s [.ref a, .ref b] I.kIn (by simpa using hl)
    simpa using this) r2 sp) fun r s' hq => ?_)
  cases r with
  | error e => exact pa_never σ pins H s e s' I hq
  | ok fl =>
    cases fl with
    | ret w =>
      obtain ⟨z, H', I', rz, r, rfl, q⟩ := I.after hq
      obtain rfl : w = Value.bool r := rz
      exact ⟨r, rfl, .bl (!r), H', I', rfl, q⟩
    | next => exact False.elim hq
    | brk => exact False.elim hq
    | cont => exact False.elim hq
theorem ok_neOwn : Ok2 X.K (rNeOwn X.K C F) (opNeOwn C F) := fun W ρ A σ H d e v u Q hA rd re h => by
  have h1 : Post X.K W RepV ρ A σ H (if (isIns C A d && isIns C A e) = true then negR (F [d, e] A) else .bad) Q := h
  by_cases z : (isIns C A d && isIns C A e) = true
  · rw [if_pos z] at h1
    rw [Bool.and_eq_true] at z
    obtain ⟨a, dx, fs, gs, rfl, ea, _⟩ := ins_of hA rd z.1
    obtain ⟨b, dy, fs', gs', rfl, eb, _⟩ := ins_of hA re z.2
    refine ⟨a, b, dx, dy, _, _, rfl, rfl, ea, eb, rfl, ρ, [d, e], A, .cons rd (.cons re .nil), hA, ?_⟩
    cases q : F [d, e] A with
    | bad => rw [q] at h1; exact h1.elim
    | exc x B => rw [q] at h1; exact h1.elim
    | ok w B =>
      rw [q] at h1
      cases w with
      | bl r =>
        intro ρ' v' H' n rv
        cases rv
        exact ⟨r, rfl, h1 ρ' (.bl (!r)) H' n (.bl _)⟩
      | _ => exact h1.elim
  · rw [if_neg z] at h1
    exact h1.elim
end
theorem SaysE.nc {K : PySem.W.Frag} {nes : List Str} {x : Str} {f : Addr} (c : SaysE nes K) (hx : x ∈ nes) (m : Meth K (He.ga K x) "__eq__" f) : NEX.NeC K (He.ga K x) f := by
  have := List.all_eq_true.mp c x hx
  obtain ⟨c1, c⟩ := He.ba this
  obtain ⟨c2, c⟩ := He.ba c
  obtain ⟨c3, c⟩ := He.ba c
  obtain ⟨c4, c5⟩ := He.ba c
  exact ⟨He.eqO_ok c1, of_decide_eq_true c2, m.at_, m.fn, He.eqO_ok c3, He.eqO_ok c4, of_decide_eq_true c5⟩
/-! ### isinstance(x, C), C an own class, x one of its own -/
def biIsO (C : Nat) : Fn
  | [d], A => if isIns C A d = true then .ok (.bl true) A else .bad
  | _, _ => .bad
theorem ev_isO {C : Nat} {d : D} {A : AH} (h : isIns C A d = true) : biIsO C [d] A = .ok (.bl true) A := if_pos h
section
variable {X : Cx} {W : WX} {C : Nat} {f : Addr} {e : Expr} {me : Ex} {pos : Pos}
theorem re_isO {T : Str} {p p2 : Pos} (hg : Gl X "isinstance") (hm : X.mg "isinstance" = none) (hg2 : Gl X T) (hm2 : X.mg T = some (.ref (clsA X.K C))) (cl : Cls X.K (clsA X.K C)) (nc : NEX.NeC X.K (clsA X.K C) f) (he : RE X W e me) (hdb : (T == ("__debug__" : Str)) = false := by decide)
    (hs : starEach (e :: [.Name T p2]) X.env = (false, eval e X.env) :: starEach [.Name T p2] X.env := by rfl) (hs2 : starEach [.Name T p2] X.env = (false, eval (.Name T p2) X.env) :: starEach [] X.env := by rfl) (hpl : (backTo pos (starEach [.Name T p2] X.env)).any (·.1) = false := by rfl) :
    RE X W (.Call (.Name "isinstance" p) [e, .Name T p2] [] pos) (eF (biIsO C) (aCons me aNil)) := by
  refine PE.imp (pe_callB (call_isi) hg hm (by decide +kernel) (pa_cons he (pa_cons (pe_glob (v := .ref (clsA X.K C)) hg2 hm2 rfl hdb) pa_nil hs2) hs) (by decide) (by decide) hs hpl) fun σ H Q ⟨ρ, E, A, hE, hA, h⟩ => ?_
  rw [eF1] at h
  refine ⟨ρ, E, A, hE, hA, Post.bind h fun ρ1 d B v H1 n1 r1 h1 => ?_⟩
  have h2 : Post X.K W RepV ρ1 B σ H1 (if isIns C B d = true then .ok (.bl true) B else .bad) Q := h1
  by_cases z : isIns C B d = true
  · rw [if_pos z] at h2
    obtain ⟨a, dx, gs, fs, rfl, ea, _⟩ := ins_of n1.rep r1 z
    refine ⟨V.ref a, .ref (clsA X.K C), .ref (clsA X.K C), .ref (clsA X.K C), true, rfl, .own _, .base (.ins ea cl nc.cl nc.cg nc.ct nc.top), ?_, h2 ρ1 _ H1 (.refl n1.rep) (.bl _)⟩
    unfold PySem.W.kitOne
    rw [if_pos (by simp)]
  · rw [if_neg z] at h2
    exact h2.elim
end
end DL
set_option Elab.async false
set_option linter.all false
set_option maxRecDepth 100000
set_option maxHeartbeats 4000000
/-! sorted of a list of flat tuples of numbers and texts, and of a dict whose keys are such (own work). -/
namespace STX
open PySem PyProof.Rows Srt SrtO L2
/-! ### the order -/
def ltA : Key → Key → Bool
  | .inl i, .inl j => decide (i < j)
  | .inr a, .inr b => decide (a.cps.toList < b.cps.toList)
  | .inl _, .inr _ => true
  | .inr _, .inl _ => false
theorem str_same {a b : Str} (h : a.cps.toList = b.cps.toList) : a = b := by
  cases a; cases b
  congr 1
  exact Array.toList_inj.mp h
theorem ltA_asym : ∀ x y, ltA x y = true → ltA y x = false
  | .inl i, .inl j, h => by
    simp only [ltA, decide_eq_true_eq, decide_eq_false_iff_not] at h ⊢
    omega
  | .inr a, .inr b, h => by
    simp only [ltA, decide_eq_true_eq, decide_eq_false_iff_not] at h ⊢
    exact List.lt_asymm h
  | .inl _, .inr _, _ => rfl
  | .inr _, .inl _, h => by cases h
theorem ltA_irr (x : Key) : ltA x x = false := by
  cases h : ltA x x with
  | false => rfl
  | true => exact (ltA_asym x x h).symm.trans h |>.symm ▸ rfl
theorem ltA_tr : ∀ x y z, ltA y x = false → ltA z y = false → ltA z x = false
  | .inl i, .inl j, .inl k, h1, h2 => by
    simp only [ltA, decide_eq_false_iff_not] at h1 h2 ⊢
    omega
  | .inr a, .inr b, .inr c, h1, h2 => by
    simp only [ltA, decide_eq_false_iff_not] at h1 h2 ⊢
    have h3 : a.cps.toList ≤ b.cps.toList := List.not_lt.mp h1
    have h4 : b.cps.toList ≤ c.cps.toList := List.not_lt.mp h2
    exact List.not_lt.mpr (List.le_trans h3 h4)
  | .inl _, .inl _, .inr _, _, _ => rfl
  | .inl _, .inr _, .inr _, _, _ => rfl
  | .inr _, .inl _, _, h1, _ => by cases h1
  | .inl _, .inr _, .inl _, _, h2 => by cases h2
  | .inr _, .inr _, .inl _, _, h2 => by cases h2
theorem ltA_eq : ∀ x y, ltA x y = false → ltA y x = false → x = y
  | .inl i, .inl j, h1, h2 => by
    simp only [ltA, decide_eq_false_iff_not] at h1 h2
    congr 1
    omega
  | .inr a, .inr b, h1, h2 => by
    simp only [ltA, decide_eq_false_iff_not] at h1 h2
    congr 1
    exact str_same (List.le_antisymm (List.not_lt.mp h2) (List.not_lt.mp h1))
  | .inl _, .inr _, h, _ => by cases h
  | .inr _, .inl _, _, h => by cases h
def lexA : List Key → List Key → Bool
  | [], [] => false
  | [], _ :: _ => true
  | _ :: _, [] => false
  | x :: xs, y :: ys => if x = y then lexA xs ys else ltA x y
theorem lexA_asym : ∀ x y, lexA x y = true → lexA y x = false
  | [], [], h => by cases h
  | [], _ :: _, _ => rfl
  | _ :: _, [], h => by cases h
  | x :: xs, y :: ys, h => by
    unfold lexA at h ⊢
    by_cases e : x = y
    · rw [if_pos e] at h
      rw [if_pos e.symm]
      exact lexA_asym xs ys h
    · rw [if_neg e] at h
      rw [if_neg (fun z => e z.symm)]
      exact ltA_asym x y h
theorem lexA_tr : ∀ x y z, lexA y x = false → lexA z y = false → lexA z x = false
  | [], _, [], _, _ => rfl
  | [], _, _ :: _, _, _ => rfl
  | _ :: _, [], _, h1, _ => by cases h1
  | _ :: _, _ :: _, [], _, h2 => by cases h2
  | x :: xs, y :: ys, z :: zs, h1, h2 => by
    unfold lexA at h1 h2 ⊢
    by_cases e1 : y = x
    · subst e1
      rw [if_pos rfl] at h1
      by_cases e2 : z = y
      · rw [if_pos e2] at h2 ⊢
        exact lexA_tr xs ys zs h1 h2
      · rw [if_neg e2] at h2 ⊢
        exact h2
    · rw [if_neg e1] at h1
      by_cases e2 : z = y
      · subst e2
        rw [if_pos rfl] at h2
        rw [if_neg e1]
        exact h1
      · rw [if_neg e2] at h2
        by_cases e3 : z = x
        · subst e3
          exact absurd (ltA_eq _ _ h2 h1) e2
        · rw [if_neg e3]
          exact ltA_tr x y z h1 h2
theorem lexA_eq : ∀ x y, lexA x y = false → lexA y x = false → x = y
  | [], [], _, _ => rfl
  | [], _ :: _, h, _ => by cases h
  | _ :: _, [], _, h => by cases h
  | x :: xs, y :: ys, h1, h2 => by
    unfold lexA at h1 h2
    by_cases e : x = y
    · subst e
      rw [if_pos rfl] at h1 h2
      rw [lexA_eq xs ys h1 h2]
    · rw [if_neg e] at h1
      rw [if_neg (fun z => e z.symm)] at h2
      exact absurd (ltA_eq x y h1 h2) e
theorem swo_lexA {α : Type} (k : α → List Key) : Swo fun v u => lexA (k v) (k u) := ⟨fun x y => lexA_asym (k x) (k y), fun x y z => lexA_tr (k x) (k y) (k z)⟩
/-! ### alike places -/
def kdA : Key → Bool
  | .inl _ => true
  | .inr _ => false
def alike : List Key → List Key → Bool
  | x :: xs, y :: ys => kdA x == kdA y && alike xs ys
  | _, _ => true
/-- no empty one, and all of them alike -/
def fitA (kss : List (List Key)) : Bool := kss.all fun a => !a.isEmpty && kss.all fun b => alike a b
theorem fitA_ne {kss : List (List Key)} (h : fitA kss = true) {a : List Key} (ha : a ∈ kss) : a ≠ [] := fun e => by
  have := List.all_eq_true.mp h a ha
  rw [e] at this
  simp at this
theorem fitA_al {kss : List (List Key)} (h : fitA kss = true) {a b : List Key} (ha : a ∈ kss) (hb : b ∈ kss) : alike a b = true := by
  have := List.all_eq_true.mp h a ha
  rw [Bool.and_eq_true] at this
  exact List.all_eq_true.mp this.2 b hb
/-! ### one look at two tuples -/
section
variable {prog : Program} {w : World} {A : Around} {E : Value → Shared → Prop} {s : Shared}
theorem oneLtA {c : Bool} {x y : Key} {u v : Value} {Q : Bool → Shared → Prop} (hx : RelV (kV x) u) (hy : RelV (kV y) v) (hk : kdA x = kdA y) (h : Q (ltA x y) s) : wpAny (model prog w) A (oneLt' c u v) Q E s := by
  cases x with
  | inl i =>
    cases y with
    | inl j =>
      obtain ⟨t, rfl⟩ := hx
      obtain ⟨t', rfl⟩ := hy
      cases c with
      | true => exact oneLt_int h
      | false => exact PySem.W.kat_one _ _ (PyProof.Rows.lt_int (Q := PySem.W.BoolBack Q) h)
    | inr _ => cases hk
  | inr a =>
    cases y with
    | inl _ => cases hk
    | inr b =>
      obtain ⟨t, rfl⟩ := hx
      obtain ⟨t', rfl⟩ := hy
      cases c with
      | true => exact oneLt_str h
      | false => exact PySem.W.kat_one _ _ (PySem.P.lt_str (Q := PySem.W.BoolBack Q) h)
theorem eqA {x y : Key} {u v : Value} {Q : Bool → Shared → Prop} (hx : RelV (kV x) u) (hy : RelV (kV y) v) (hk : kdA x = kdA y) (h : Q (decide (x = y)) s) : wpAny (model prog w) A (eqBool u v) Q E s := by
  cases x with
  | inl i =>
    cases y with
    | inl j =>
      obtain ⟨t, rfl⟩ := hx
      obtain ⟨t', rfl⟩ := hy
      refine SeqAt.EqAt.int_int i t j t' prog w _ _ ?_
      have e : (i == j) = decide ((Sum.inl i : Key) = .inl j) := by
        by_cases z : i = j
        · subst z; simp
        · simp [z]
      rw [e]
      exact h
    | inr _ => cases hk
  | inr a =>
    cases y with
    | inl _ => cases hk
    | inr b =>
      obtain ⟨t, rfl⟩ := hx
      obtain ⟨t', rfl⟩ := hy
      refine SeqAt.EqAt.str_str a t b t' prog w _ _ ?_
      have e : (a == b) = decide ((Sum.inr a : Key) = .inr b) := by
        by_cases z : a = b
        · subst z; simp
        · simp [z]
      rw [e]
      exact h
theorem katA {fin : Bool} : ∀ (xs ys : List Key) {us vs : List Value} {i : Nat}, Vals (xs.map kV) us → Vals (ys.map kV) vs → alike xs ys = true → (∀ n : Nat, fin = decide (n + xs.length < n + ys.length)) →
    PySem.W.KatLex prog w A true fin (fun r s' => s' = s ∧ r = lexA xs ys) (us.zip vs) i s
  | [], [], _, _, _, .nil, .nil, _, hf => ⟨rfl, by rw [hf 0]; rfl⟩
  | [], y :: ys, _, _, _, .nil, .cons _ _, _, hf => ⟨rfl, by rw [hf 0]; simp [lexA]⟩
  | x :: xs, [], _, _, _, .cons _ _, .nil, _, hf => by
    refine (show s = s ∧ _ from ⟨rfl, ?_⟩)
    rw [hf 0]
    simp [lexA]
  | x :: xs, y :: ys, _, _, i, .cons hx rx, .cons hy ry, al, hf => by
    have al' : kdA x = kdA y ∧ alike xs ys = true := by
      have := al
      unfold alike at this
      rw [Bool.and_eq_true] at this
      exact ⟨by simpa using this.1, this.2⟩
    rw [List.zip_cons_cons]
    refine PySem.W.kat_cons (eqA hx hy al'.1 ?_)
    refine PySem.W.kat_go (fun e => ?_) (fun e => ?_)
    · have ez : x = y := by simpa using e
      have el : lexA (x :: xs) (y :: ys) = lexA xs ys := by
        show (if x = y then lexA xs ys else ltA x y) = _
        rw [if_pos ez]
      rw [el]
      refine PySem.W.kat_yes (katA xs ys rx ry al'.2 fun n => ?_)
      have := hf n
      rw [this]
      congr 1
      simp only [List.length_cons, eq_iff_iff]
      omega
    · have ez : ¬ x = y := by simpa using e
      have el : lexA (x :: xs) (y :: ys) = ltA x y := by
        show (if x = y then lexA xs ys else ltA x y) = _
        rw [if_neg ez]
      rw [el]
      exact PySem.W.kat_no (oneLtA hx hy al'.1 ⟨rfl, rfl⟩)
/-- v is a tuple of these -/
def IsTupK (h : Heap) (v : Value) (ks : List Key) : Prop := ∃ a o its n, v = .ref a ∧ h.get? a = some o ∧ o.cls = .type "tuple" ∧ o.data = .seq (List.toArray its) n ∧ Vals (ks.map kV) its
theorem IsTupK.keeps {h h' : Heap} {v : Value} {ks : List Key} (p : IsTupK h v ks) (k : ∀ b o, h.get? b = some o → o.cls = .type "tuple" → h'.get? b = some o) : IsTupK h' v ks := by
  obtain ⟨a, o, its, n, e, ho, hc, hd, r⟩ := p
  exact ⟨a, o, its, n, e, k _ _ ho hc, hc, hd, r⟩
theorem firstsA {h : Heap} {kd : Bool} : ∀ {vs : List Value}, (∀ v ∈ vs, ∃ x ks, IsTupK h v (x :: ks) ∧ kdA x = kd) → ∃ fs : List Value, PySem.W.KatTups h vs fs ∧ fs.length = vs.length ∧ ∀ f ∈ fs, ∃ x, RelV (kV x) f ∧ kdA x = kd
  | [], _ => ⟨[], PySem.W.KatTups.nil, rfl, fun _ hm => by simp at hm⟩
  | v :: vs, hp => by
    obtain ⟨fs, h1, h2, h3⟩ := firstsA (vs := vs) fun v' hm => hp v' (List.mem_cons_of_mem _ hm)
    obtain ⟨x, ks, ⟨a, o, its, n, e, ho, hc, hd, r⟩, hk⟩ := hp v (List.mem_cons_self ..)
    cases r with
    | @cons _ f _ its' hx rx =>
      subst e
      refine ⟨f :: fs, PySem.W.KatTups.cons ho hc hd (by simp) h1, by rw [List.length_cons, List.length_cons, h2], fun g hm => ?_⟩
      rcases List.mem_cons.mp hm with rfl | hm
      · exact ⟨x, hx, hk⟩
      · exact h3 g hm
theorem cmpA {vs : List Value} {k : Value → List Key} (hp : ∀ v ∈ vs, IsTupK s.heap v (k v)) (hf : ∀ v ∈ vs, ∀ u ∈ vs, alike (k v) (k u) = true) : Cmp prog w A s (tuples' true) (fun p => p.1 ∈ vs) (lt2 fun v u => lexA (k v) (k u)) := by
  intro p q hm hm'
  have h1 := hp _ hm
  have h2 := hp _ hm'
  have al := hf _ hm _ hm'
  show wpAny (model prog w) A (keyLt' (tuples' true) p.1 q.1) (fun r s' => s' = s ∧ r = lexA (k p.1) (k q.1)) (fun _ _ => False) s
  generalize k p.1 = xs at h1 al ⊢
  generalize k q.1 = ys at h2 al ⊢
  obtain ⟨a, o, its, n, e, ho, hc, hd, r⟩ := h1
  obtain ⟨a', o', its', n', e', ho', hc', hd', r'⟩ := h2
  rw [e, e']
  refine PySem.W.kat_lt ho hd ho' hd' ?_
  refine katA xs ys r r' al fun m => ?_
  have l1 := r.length
  have l2 := r'.length
  rw [List.length_map] at l1 l2
  rw [List.size_toArray, List.size_toArray, ← l1, ← l2]
  congr 1
  simp
theorem sortableA {a : Addr} {vs : List Value} {k : Value → List Key} (h0 : 0 < vs.length) (hp : ∀ v ∈ vs, IsTupK s.heap v (k v)) (hne : ∀ v ∈ vs, k v ≠ []) (hf : ∀ v ∈ vs, ∀ u ∈ vs, alike (k v) (k u) = true) (ha : ∀ o, s.heap.get? a = some o → o.cls ≠ .type "tuple") :
    SortableO prog w A s a vs fun v u => lexA (k v) (k u) := by
  intro h' keep
  have hp' : ∀ v ∈ vs, IsTupK h' v (k v) := fun v hm => (hp v hm).keeps fun b o e c => keep b o (fun z => by subst z; exact ha o e c) e
  obtain ⟨v0, hv0⟩ : ∃ v0, v0 ∈ vs := by
    cases vs with
    | nil => simp at h0
    | cons v vs => exact ⟨v, List.mem_cons_self⟩
  obtain ⟨x0, ks0, e0⟩ : ∃ x0 ks0, k v0 = x0 :: ks0 := by
    cases e : k v0 with
    | nil => exact absurd e (hne v0 hv0)
    | cons x ks => exact ⟨x, ks, rfl⟩
  obtain ⟨fs, h1, h2, h3⟩ := firstsA (h := h') (kd := kdA x0) (vs := vs) fun v hm => by
    have al := hf v hm v0 hv0
    have p := hp' v hm
    cases e : k v with
    | nil => exact absurd e (hne v hm)
    | cons x ks =>
      rw [e] at p
      rw [e, e0] at al
      refine ⟨x, ks, p, ?_⟩
      unfold alike at al
      rw [Bool.and_eq_true] at al
      simpa using al.1
  refine ⟨tuples' true, fun Q E hq => ?_, cmpA hp' hf⟩
  cases x0 with
  | inl i =>
    refine PySem.W.kat_kind (T := .type "int") h1 (by omega) (fun f hm => ?_) (by rfl) ?_
    · obtain ⟨x, hx, hk⟩ := h3 f hm
      cases x with
      | inl j =>
        obtain ⟨t, rfl⟩ := hx
        exact PySem.W.Looks.now
      | inr _ => cases hk
    · have e : (Value.type "int" != Value.type "tuple") = true := by first | decide +kernel | rfl | decide
      rw [e]
      exact hq
  | inr a =>
    refine PySem.W.kat_kind (T := .type "str") h1 (by omega) (fun f hm => ?_) (by rfl) ?_
    · obtain ⟨x, hx, hk⟩ := h3 f hm
      cases x with
      | inl j => cases hk
      | inr b =>
        obtain ⟨t, rfl⟩ := hx
        exact PySem.W.Looks.now
    · have e : (Value.type "str" != Value.type "tuple") = true := by first | decide +kernel | rfl | decide
      rw [e]
      exact hq
/-- sorted(l) -/
theorem sortedA {l : Addr} {vs : List Value} {k : Value → List Key} {Q : Value → Shared → Prop} (hl : s.heap.IsList l vs.toArray) (hz : vs.length ≤ sizeLine) (hp : ∀ v ∈ vs, IsTupK s.heap v (k v)) (hne : ∀ v ∈ vs, k v ≠ []) (hf : ∀ v ∈ vs, ∀ u ∈ vs, alike (k v) (k u) = true)
    (h : ∀ (h' : Heap) (d : Addr) (out : List Value), Srtd (fun v u => lexA (k v) (k u)) out → Stb (fun v u => lexA (k v) (k u)) out vs → (∀ b o, s.heap.get? b = some o → h'.get? b = some o) → s.heap.objs.size ≤ d → (∃ n, h'.get? d = some (seqObj "list" out.toArray n)) → Q (.ref d) { s with heap := h' }) :
    wpAny (model prog w) A (call (.builtin "sorted") [.ref l]) Q E s := by
  refine sorted_ord (swo_lexA k) hl hz (fun h2 h₁ a ha kk => ?_) fun out hs hb => ?_
  · refine sortableA (s := { s with heap := h₁ }) (by omega) (fun v hm => (hp v hm).keeps fun b o e _ => (kk b o e).2) hne hf fun o e => ?_
    have e' : some o = some (seqObj "list" vs.toArray 0) := e.symm.trans ha
    cases e'
    intro c
    exact absurd (Value.type.inj c) (by decide)
  · exact h _ _ out hs hb (fun b o e => sortedAll_old e) (Nat.le_succ _) (sortedAll_at s.heap vs out.toArray)
end
end STX
namespace L2
open PySem PySem.Spec PyProof.Rows STX SrtO
def unK : V → Key
  | .int i => .inl i
  | .str x => .inr x
  | _ => .inl 0
theorem unK_map : ∀ ks : List Key, (ks.map kV).map unK = ks
  | [] => rfl
  | .inl i :: ks => by rw [List.map_cons, List.map_cons, unK_map ks]; rfl
  | .inr x :: ks => by rw [List.map_cons, List.map_cons, unK_map ks]; rfl
/-- the numbers and texts of a tuple -/
def kOf (H : Hp) : V → List Key
  | .ref t => (match H t with
    | some (.tup xs) => xs.map unK
    | _ => [])
  | _ => []
theorem kOf_of {H : Hp} {t : Addr} {ks : List Key} (h : H t = some (.tup (ks.map kV))) : kOf H (.ref t) = ks := by
  show (match H t with
    | some (.tup xs) => xs.map unK
    | _ => []) = ks
  rw [h]
  exact unK_map ks
def TupR (H : Hp) (x : V) : Prop := ∃ t, x = V.ref t ∧ H t = some (.tup ((kOf H x).map kV))
def SrcK (K : PySem.W.Frag) (H : Hp) (a : Addr) (kss : List (List Key)) : Prop :=
  (∃ xs, SqL K H a xs ∧ xs.map (kOf H) = kss ∧ ∀ x ∈ xs, TupR H x) ∨ ∃ kvs : List (List Key × V), Rd H a (.dT kvs) ∧ kvs.map (·.1) = kss
/-- sorted(xs), of tuples of numbers and texts; sorted(d), of a dict with such keys -/
def rSortK (K : PySem.W.Frag) : List V → Hp → VK → Prop := fun vs H Q => ∃ (a : Addr) (kss : List (List Key)), vs = [V.ref a] ∧ SrcK K H a kss ∧ fitA kss = true ∧
  ∀ ys p, (∀ y ∈ ys, TupR H y) → (ys.map (kOf H)).Perm kss → ys.Pairwise (fun x y => lexA (kOf H y) (kOf H x) = false) → H p = none → Q (.ref p) (upd H p (.lst ys))
section
variable {X : Cx}
theorem tup_is {pins : List (Addr × Obj)} {σ : St} {H : Hp} {s : Shared} {x : V} {u : Value} (I : Inv X pins σ H s) (h : TupR H x) (r : RelV x u) : IsTupK s.heap u (kOf H x) := by
  obtain ⟨t, rfl, ht⟩ := h
  obtain rfl : u = Value.ref t := r
  obtain ⟨_, its, r2, o, ho, hc, n, hd⟩ := I.hok _ _ ht
  exact ⟨t, o, its, n, rfl, ho, hc, hd, r2⟩
theorem cr_sortedK (hc : X.calm = true) : CallR X (.builtin "sorted") (rSortK X.K) := by
  intro pins s σ H vs us Q I r h
  obtain ⟨a, kss, rfl, src, fit, q⟩ := h
  obtain ⟨u, rfl, ru⟩ := vals1 r
  obtain rfl : u = Value.ref a := ru
  rcases src with ⟨xs, hs, hk, hx⟩ | ⟨kvs, hd, hk⟩
  · obtain ⟨its, rv, hl, hz⟩ := I.list hs
    obtain ⟨e1, e2⟩ := refs_back rv fun x m => by
      obtain ⟨t, e, _⟩ := hx x m
      exact ⟨t, e⟩
    have mem : ∀ v ∈ its, backV v ∈ xs := fun v hv => by rw [e1]; exact List.mem_map.mpr ⟨v, hv, rfl⟩
    have memk : ∀ v ∈ its, kOf H (backV v) ∈ kss := fun v hv => by rw [← hk]; exact List.mem_map.mpr ⟨_, mem v hv, rfl⟩
    refine sortedA (k := fun u => kOf H (backV u)) hl.isList (by rw [← rv.length]; exact hz) (fun v hv => ?_) (fun v hv => fitA_ne fit (memk v hv)) (fun v hv u hu => fitA_al fit (memk v hv) (memk u hu)) fun h' d out h1 h2 kp hd hn => ?_
    · obtain ⟨t, rfl⟩ := e2 v hv
      exact tup_is I (hx _ (mem _ hv)) rfl
    · have h3 : ∀ u ∈ out, ∃ a, u = Value.ref a := fun u hu => e2 u (h2.perm.mem_iff.mp hu)
      obtain ⟨n, hn⟩ := hn
      have hp : (out.map backV).Perm xs := by
        rw [e1]
        exact h2.perm.map _
      refine ⟨.ref d, upd H d (.lst (out.map backV)), I.laid (t' := s.toks) kp hd ⟨?_, out, n, vals_back h3, hn⟩, rfl, q _ d (fun y hy => hx y (hp.mem_iff.mp hy)) (by rw [← hk]; exact hp.map _) (List.pairwise_map.mpr (h1.imp fun {a b} h => h)) (I.hok.fresh hd)⟩
      rw [hp.length_eq]
      exact hz
  · obtain ⟨z, hs, ks, pr, o, es, ep, ho, hx, hdt, he, hn⟩ := (show ObjOk X.prog X.w H s.heap a (.dT kvs) from hd.ok I.hok)
    have l1 : es.size = ks.length := size_of_entries he
    have l2 : kvs.length = ks.length := Paired.length pr
    refine Calls.call_function_entry PyProof.Rows.kind_sorted PyProof.Rows.plain_sorted PyProof.Rows.entry_sorted (PyProof.Rows.args_sorted1 _) ?_
    unfold Builtin.«sorted»
    refine wpAny_bind (m := checkCount "sorted" 1 1 _) (wpAny_pure ?_)
    refine wpAny_bind (PySem.W.kdu_collect (A := X.A.in1) (kdl_raw hs hx hdt) (I.ok.hd hc) ho (by omega) fun h' tk acc kp it => ?_)
    have eb : acc.toList = (ks.map fun x => x.2.1).map Value.ref := by
      rw [List.map_map]
      have hl : acc.toList.length = ks.length := by rw [Array.length_toList, it.1]; exact l1
      apply List.ext_getElem?
      intro j
      rw [List.getElem?_map]
      cases hj : acc.toList[j]? with
      | none =>
        have h1 := List.getElem?_eq_none_iff.mp hj
        rw [List.getElem?_eq_none (by omega)]
        all_goals rfl
      | some v =>
        obtain ⟨en, hen, hv⟩ := it.2 j v (by rw [← Array.getElem?_toList]; exact hj)
        have qe := entry_at he j
        rw [hen] at qe
        cases hb : ks[j]? with
        | none =>
          rw [hb] at qe
          exact nomatch (show some en = none from qe)
        | some b =>
          rw [hb] at qe
          have e2 : en = entryOfKey (tupleKind (mixKind X.prog X.w)) b := Option.some.inj qe
          rw [hv, e2]
          all_goals rfl
    have ik : IsKeys H kvs (ks.map fun x => x.2.1) := isKeys_of pr
    obtain ⟨bs, hbs⟩ : ∃ bs, bs = ks.map fun x => x.2.1 := ⟨_, rfl⟩
    rw [← hbs] at eb ik
    have tr : (∀ y ∈ bs.map V.ref, TupR H y) ∧ (bs.map V.ref).map (kOf H) = kss := by
      rw [← hk]
      clear hd pr l1 l2 hk q z
      unfold IsKeys at ik
      clear eb hbs
      induction ik with
      | nil => exact ⟨fun y hy => (by cases hy), rfl⟩
      | @cons p b ps bs' hq t ih =>
        have e := kOf_of hq
        refine ⟨fun y hy => ?_, ?_⟩
        · rw [List.map_cons] at hy
          rcases List.mem_cons.mp hy with rfl | hy
          · exact ⟨b, rfl, by rw [e]; exact hq⟩
          · exact ih.1 y hy
        · rw [List.map_cons, List.map_cons, List.map_cons, e, ih.2]
    obtain ⟨tr1, tr2⟩ := tr
    have I1 : Inv X pins σ H { s with heap := h', toks := tk } := I.kept kp
    have hbl : bs.length = kvs.length := by rw [hbs, List.length_map, l2]
    refine wpAny_bind (wpAny_newList ?_ (by rw [eb, List.length_map]; omega))
    have hoL : (h'.push (seqObj "list" acc.toList.toArray 0)).get? h'.objs.size = some (seqObj "list" acc.toList.toArray 0) := Heap.get?_push_size _ rfl
    show wpAny _ _ _ _ _ { s with heap := h'.push (seqObj "list" acc.toList.toArray 0), toks := tk }
    have hmem : ∀ v ∈ acc.toList, ∃ b, b ∈ bs ∧ v = Value.ref b := fun v hv => by
      rw [eb] at hv
      obtain ⟨b, hb, rfl⟩ := List.mem_map.mp hv
      exact ⟨b, hb, rfl⟩
    have memk : ∀ v ∈ acc.toList, kOf H (backV v) ∈ kss := fun v hv => by
      obtain ⟨b, hb, rfl⟩ := hmem v hv
      rw [← tr2, List.map_map]
      exact List.mem_map.mpr ⟨b, hb, rfl⟩
    refine wpAny_bind (wpAny_holding (wpAny_call_entry PyProof.Rows.slot_list_sort ⟨_, hoL, rfl⟩ PyProof.Rows.entry_list_sort
      (list_sort_ord (s := { s with heap := h'.push (seqObj "list" acc.toList.toArray 0), toks := tk }) (swo_lexA fun u => kOf H (backV u)) hoL (by rw [eb, List.length_map]; omega) (fun h2 => ?_) fun out h1 h2 => ⟨_, rfl, ?_⟩) (PyProof.Rows.args_list_sort _)))
    · refine sortableA (by omega) (fun v hv => ?_) (fun v hv => fitA_ne fit (memk v hv)) (fun v hv u hu => fitA_al fit (memk v hv) (memk u hu)) fun o e => ?_
      · obtain ⟨b, hb, rfl⟩ := hmem v hv
        refine (tup_is I1 (tr1 _ (List.mem_map.mpr ⟨b, hb, rfl⟩)) rfl).keeps fun b o e _ => Heap.get?_push_of_some _ e
      · have e' : some o = some (seqObj "list" acc.toList.toArray 0) := e.symm.trans hoL
        cases e'
        intro c
        exact absurd (Value.type.inj c) (by decide)
    · have h3 : ∀ u ∈ out, ∃ a, u = Value.ref a := fun u hu => by
        obtain ⟨b, _, e⟩ := hmem u (h2.perm.mem_iff.mp hu)
        exact ⟨b, e⟩
      obtain ⟨e', he'⟩ := PyProof.Rows.sortedHeap_at (vs := acc.toList) (out := out.toArray) hoL
      have hp : (out.map backV).Perm (bs.map V.ref) := by
        have := h2.perm.map backV
        rw [eb, List.map_map] at this
        exact this
      have hlen : (out.map backV).length ≤ sizeLine := by
        rw [hp.length_eq, List.length_map]
        omega
      refine wpAny_pure ⟨_, rfl, .ref h'.objs.size, upd H h'.objs.size (.lst (out.map backV)), I1.laid (t' := tk) (fun b u e => ?_) (Nat.le_refl _)
        (show ObjOk X.prog X.w _ _ _ (.lst (out.map backV)) from ⟨hlen, out, e', vals_back h3, he'⟩), rfl, q _ _ (fun y hy => tr1 y (hp.mem_iff.mp hy)) (by rw [← tr2]; exact hp.map _) (List.pairwise_map.mpr (h1.imp fun {a b} h => h)) (I1.hok.fresh (Nat.le_refl _))⟩
      have hb : b < h'.objs.size := Heap.lt_size e
      rw [PyProof.Rows.sortedHeap_old (Nat.ne_of_lt hb) (by rw [size_push']; exact Nat.lt_succ_of_lt hb)]
      exact Heap.get?_push_of_some _ e
end
end L2
set_option Elab.async false
set_option linter.all false
set_option maxRecDepth 100000
set_option maxHeartbeats 4000000
/-! sorted of tuples of numbers and texts, of a dict's such keys: the D-layer's rule (own work). -/
namespace DL
open PySem PySem.Spec PyProof.Rows L2 STX
def kD : Key → D
  | .inl i => .int i
  | .inr x => .str x
def tupK (ks : List Key) : D := .tup (ks.map kD)
theorem keyD_kD (k : Key) : keyD (kD k) = some k := by cases k <;> rfl
theorem keysD_kD : ∀ ks : List Key, keysD (ks.map kD) = some ks
  | [] => rfl
  | k :: ks => by
    rw [List.map_cons]
    unfold keysD
    rw [keyD_kD, keysD_kD ks]
theorem keyT_tupK (ks : List Key) : keyT (tupK ks) = some ks := keysD_kD ks
def leK (a b : List Key) : Prop := lexA b a = false
theorem leK_refl (a : List Key) : leK a a := (swo_lexA (α := List Key) id).refl a
def sortK (kss : List (List Key)) : List (List Key) := kss.mergeSort fun a b => !lexA b a
theorem sortK_perm (kss : List (List Key)) : (sortK kss).Perm kss := List.mergeSort_perm kss _
theorem sortK_up (kss : List (List Key)) : (sortK kss).Pairwise leK := by
  have := List.pairwise_mergeSort (le := fun a b : List Key => !lexA b a) (fun a b c h1 h2 => by
    have h3 := lexA_tr a b c (by simpa using h1) (by simpa using h2)
    simpa using h3) (fun a b => by
    cases h : lexA b a with
    | false => simp
    | true => rw [lexA_asym _ _ h]; simp) kss
  exact this.imp fun {a b} h => by show lexA b a = false; simpa using h
theorem sortK_eq {kss us : List (List Key)} (p : us.Perm kss) (s : us.Pairwise leK) : us = sortK kss :=
  List.Perm.eq_of_pairwise (le := leK) (fun a b _ _ h1 h2 => lexA_eq a b h2 h1) s (sortK_up kss) (p.trans (sortK_perm kss).symm)
def sortKO (A : AH) : Option (List (List Key)) → Res D
  | some kss => if fitA kss = true then .ok (.ref A.length) (A ++ [.lst ((sortK kss).map tupK)]) else .bad
  | none => .bad
def keysT (ds : List D) : Option (List (List Key)) := allSome (ds.map keyT)
def srcKO : Option O → Option (List (List Key))
  | some (.dit kvs) => keysT (kvs.map (·.1))
  | o => (seqO o).bind keysT
/-- sorted(x): x a list of tuples, or a dict with tuples for keys -/
def biSortK : Fn
  | [.ref i], A => sortKO A (srcKO A[i]?)
  | _, _ => .bad
theorem rep_tupK {ρ : Nat → Addr} {n : Nat} {H : Hp} {v : V} (h : TupR H v) : RepV ρ n H (tupK (kOf H v)) v := by
  obtain ⟨t, rfl, ht⟩ := h
  have rs : ∀ ks : List Key, RepVs ρ n H (ks.map kD) (ks.map kV) := by
    intro ks
    induction ks with
    | nil => exact .nil
    | cons k ks ih =>
      refine .cons ?_ ih
      cases k with
      | inl i => exact .int i
      | inr x => exact .str x
  exact .tup ht (rs _)
theorem reps_tupK {ρ : Nat → Addr} {n : Nat} {H : Hp} : ∀ {ys : List V}, (∀ y ∈ ys, TupR H y) → RepVs ρ n H ((ys.map (kOf H)).map tupK) ys
  | [], _ => .nil
  | y :: ys, h => .cons (rep_tupK (h y List.mem_cons_self)) (reps_tupK fun z hz => h z (List.mem_cons_of_mem _ hz))
theorem keysT_rep {ρ : Nat → Addr} {n : Nat} {H : Hp} : ∀ {ds : List D} {vs : List V} {kss : List (List Key)}, ds.map keyT = kss.map some → RepVs ρ n H ds vs → vs.map (kOf H) = kss ∧ ∀ v ∈ vs, TupR H v
  | [], _, kss, q, .nil => by
    cases kss with
    | nil => exact ⟨rfl, fun v h => by cases h⟩
    | cons _ _ => cases q
  | d :: ds, _, kss, q, .cons a b => by
    cases kss with
    | nil => cases q
    | cons ks kss =>
      rw [List.map_cons, List.map_cons] at q
      obtain ⟨q1, q2⟩ := List.cons.inj q
      obtain ⟨r1, r2⟩ := keysT_rep q2 b
      obtain ⟨t, rfl, ht⟩ := keyT_rep q1 a
      have e := kOf_of ht
      refine ⟨by rw [List.map_cons, r1, e], fun v hv => ?_⟩
      rcases List.mem_cons.mp hv with rfl | hv
      · exact ⟨t, rfl, by rw [e]; exact ht⟩
      · exact r2 v hv
theorem repK_keysT {ρ : Nat → Addr} {n : Nat} {H : Hp} : ∀ {kvs : List (D × D)} {gs : List (List Key × V)}, RepK keyT ρ n H kvs gs → keysT (kvs.map (·.1)) = some (gs.map (·.1))
  | [], _, .nil => rfl
  | _ :: kvs, _, .cons a _ c => by
    have ih := repK_keysT c
    unfold keysT at ih ⊢
    rw [List.map_cons, List.map_cons, List.map_cons, a]
    show (allSome ((kvs.map (·.1)).map keyT)).map (_ :: ·) = _
    rw [ih]
    rfl
section
variable {X : Cx}
theorem ok_sortK : OkL X.K (rSortK X.K) biSortK := fun W ρ A σ H ds vs Q hA r h => by
  obtain ⟨d, v, e1, e2, rd⟩ := one_of (F := biSortK) (fun _ => rfl) (fun d e r A => by cases d <;> rfl) r h
  subst e1 e2
  cases rd with
  | @ref i hi =>
    have h2 : Post X.K W RepV ρ A σ H (sortKO A (srcKO A[i]?)) Q := h
    have fin : ∀ kss, SrcK X.K H (ρ i) kss → Post X.K W RepV ρ A σ H (sortKO A (some kss)) Q → rSortK X.K [.ref (ρ i)] H Q := by
      intro kss src h3
      have h4 : Post X.K W RepV ρ A σ H (if fitA kss = true then .ok (.ref A.length) (A ++ [.lst ((sortK kss).map tupK)]) else .bad) Q := h3
      by_cases f : fitA kss = true
      · rw [if_pos f] at h4
        refine ⟨ρ i, kss, rfl, src, f, fun ys p ht hp hs hq => ?_⟩
        have e := sortK_eq hp (List.pairwise_map.mpr (hs.imp fun {a b} h => h))
        have rr : RepVs ρ A.length H ((sortK kss).map tupK) ys := by
          rw [← e]
          exact reps_tupK ht
        exact post_lst hA h4 rr hq
      · rw [if_neg f] at h4
        exact h4.elim
    cases z : A[i]? with
    | none => rw [z] at h2; exact h2.elim
    | some o =>
      rw [z] at h2
      by_cases hd : ∃ kvs, o = .dit kvs
      · obtain ⟨kvs, rfl⟩ := hd
        have h3 : Post X.K W RepV ρ A σ H (sortKO A (keysT (kvs.map (·.1)))) Q := h2
        obtain ⟨gs, q1, q2⟩ := hA.objs i _ z
        rw [repK_keysT q2] at h3
        exact fin _ (.inr ⟨gs, .inl q1, rfl⟩) h3
      · have h3 : Post X.K W RepV ρ A σ H (sortKO A ((seqO (some o)).bind keysT)) Q := by
          cases o with
          | dit kvs => exact absurd ⟨kvs, rfl⟩ hd
          | _ => exact h2
        cases y : seqO (some o) with
        | none => rw [y] at h3; exact h3.elim
        | some xs =>
          rw [y] at h3
          have h4 : Post X.K W RepV ρ A σ H (sortKO A (keysT xs)) Q := h3
          obtain ⟨us, q1, q2⟩ := hA.seq (i := i) (ds := xs) (by show seqO A[i]? = _; rw [z, y])
          cases yy : keysT xs with
          | none => rw [yy] at h4; exact h4.elim
          | some kss =>
            rw [yy] at h4
            obtain ⟨k1, k2⟩ := keysT_rep (allSome_get yy) q2
            exact fin _ (.inl ⟨us, q1, k1, k2⟩) h4
  | _ => exact h.elim
end
theorem keysT_of : ∀ kss : List (List Key), keysT (kss.map tupK) = some kss
  | [] => rfl
  | ks :: kss => by
    have ih := keysT_of kss
    unfold keysT at ih ⊢
    rw [List.map_cons, List.map_cons, keyT_tupK]
    show (allSome ((kss.map tupK).map keyT)).map (ks :: ·) = _
    rw [ih]
    rfl
theorem ev_sortK {A : AH} {i : Nat} {kss : List (List Key)} (h : seqO A[i]? = some (kss.map tupK)) (f : fitA kss = true) : biSortK [.ref i] A = .ok (.ref A.length) (A ++ [.lst ((sortK kss).map tupK)]) := by
  have e : srcKO A[i]? = some kss := by
    cases z : A[i]? with
    | none => rw [z] at h; cases h
    | some o =>
      rw [z] at h
      have q : srcKO (some o) = (seqO (some o)).bind keysT := by
        cases o with
        | dit kvs => cases h
        | _ => rfl
      rw [q, h]
      exact keysT_of kss
  show sortKO A (srcKO A[i]?) = _
  rw [e]
  exact if_pos f
theorem ev_sortKd {A : AH} {i : Nat} {kvs : List (D × D)} {kss : List (List Key)} (h : A[i]? = some (.dit kvs)) (hk : kvs.map (·.1) = kss.map tupK) (f : fitA kss = true) : biSortK [.ref i] A = .ok (.ref A.length) (A ++ [.lst ((sortK kss).map tupK)]) := by
  have e : srcKO A[i]? = some kss := by
    rw [h]
    show keysT (kvs.map (·.1)) = _
    rw [hk]
    exact keysT_of kss
  show sortKO A (srcKO A[i]?) = _
  rw [e]
  exact if_pos f
end DL
set_option Elab.async false
set_option linter.all false
set_option maxRecDepth 100000
set_option maxHeartbeats 4000000
/-! x in range(n) (own work). -/
namespace DL
open PySem PySem.Spec PyProof.Rows L2
def kInRg2 (d : D) : D → AH → Res D := fun e A => match d, e with
  | .int i, .int n => .ok (.bl (decide (0 ≤ i ∧ i < n))) A
  | _, _ => .bad
def kInRg (m : Ex) (E : Env) : D → AH → Res D := fun d A => (m E A).bind (kInRg2 d)
/-- e in range(m) -/
def eInRg (e m : Ex) : Ex := fun E A => (e E A).bind (kInRg m E)
theorem ev_eInRg (e m : Ex) (E : Env) (A : AH) : eInRg e m E A = (e E A).bind (kInRg m E) := rfl
theorem ev_kInRg (m : Ex) (E : Env) (d : D) (A : AH) : kInRg m E d A = (m E A).bind (kInRg2 d) := rfl
theorem ev_kInRg2 (i n : Int) (A : AH) : kInRg2 (.int i) (.int n) A = .ok (.bl (decide (0 ≤ i ∧ i < n))) A := rfl
def rRange1 : List V → Hp → VK → Prop := fun vs H Q => ∃ j, vs = [V.int j] ∧ ∀ p, H p = none → Q (.ref p) (upd H p (.rng 0 j))
def rInRng : R2 := fun x y H Q => ∃ i a lo hi, x = V.int i ∧ y = V.ref a ∧ H a = some (.rng lo hi) ∧ Q (.bl (decide (lo ≤ i ∧ i < hi))) H
section
variable {X : Cx} {W : WX} {a b : Expr} {ma mb : Ex} {p pos pos2 : Pos}
theorem cr_range1 : CallR X (.type "range") rRange1 := by
  intro pins s σ H vs us Q I r h
  obtain ⟨j, rfl, q⟩ := h
  obtain ⟨u, rfl, ru⟩ := vals1 r
  obtain ⟨t, rfl⟩ := ru
  refine call_range_1 ⟨.ref s.heap.objs.size, upd H s.heap.objs.size (.rng 0 j), I.laid (t' := s.toks + 1 + 1) (fun b o e => Heap.get?_push_of_some _ e) (Nat.le_refl _) ?_, rfl, q _ (I.hok.fresh (Nat.le_refl _))⟩
  exact ⟨s.toks, t, s.toks + 1, Heap.get?_push_size _ rfl⟩
theorem post_rng {K : PySem.W.Frag} {ρ : Nat → Addr} {A : AH} {σ : Sl} {H : Hp} {Q : VK} {c : Bool} {ho : HO} {q : Addr} (hA : RepA K ρ H A) (h : Post K W RepV ρ A σ H (.ok (.bl c) A) Q) (hq : H q = none) : Q (.bl c) (upd H q ho) := by
  exact h ρ (.bl c) _ (Nxt.same hA (same_upd hq)) (.bl c)
theorem re_inRg (hg : Gl X "range") (hm : X.mg "range" = none) (ha : RE X W a ma) (hb : RE X W b mb) (hbm : behindInMarks .In (.Call (.Name "range" p) [b] [] pos2) = false)
    (nb : starEach [b] X.env = (false, eval b X.env) :: starEach [] X.env := by rfl) :
    RE X W (.Compare a [.In] [.Call (.Name "range" p) [b] [] pos2] pos) (eInRg ma mb) := by
  have hv : bootBuiltins "range" = some (.type "range") := by decide +kernel
  have hr := pe_callTy (X := X) (p := p) (pos := pos2) (t := tCons (tE X.K W mb) tNil) (e := b) (es := []) cr_range1 hg hm hv (pa_cons hb pa_nil nb) (he := nb)
  refine PE.imp (pe_cmpR (op := .In) op_in_rng ha hr hbm) fun σ H Q ⟨ρ, E, A, hE, hA, h⟩ => ?_
  refine ⟨ρ, E, A, hE, hA, Post.bind h fun ρ1 d B v H1 n1 r1 h1 => ?_⟩
  refine ⟨ρ1, E, B, hE.ext n1.ext, n1.rep, Post.bind h1 fun ρ2 e C u H2 n2 r2 h2 => ?_⟩
  have r1' := r1.ext n2.ext
  cases r1' with
  | int i =>
    cases r2 with
    | int n => exact ⟨n, rfl, fun q hq => ⟨i, q, 0, n, rfl, rfl, upd_same, post_rng (W := W) n2.rep h2 hq⟩⟩
    | _ => exact h2.elim
  | _ => exact h2.elim
end
end DL
set_option Elab.async false
set_option linter.all false
set_option maxRecDepth 100000
set_option maxHeartbeats 4000000
/-! fault.field == e in an except suite, as a value (own work). -/
namespace DL
open PySem PySem.Spec PyProof.Rows L2
section
variable {X : Cx} {c i : Nat} {a : Addr} {cls : Value} {d : Option Addr} {pos : Pos} {e e2 : Expr} {me : Exn → Ex} {m1 : Ex}
theorem rxe_cmp {op : CmpOp} {r : R2} {F : Fn} (ho : OpR X (compareOp op) r) (hk : Ok2 X.K r F) (ha : RXE X c i a cls d e me) (hb : RE X WF e2 m1) (hm : behindInMarks op e2 = false) : RXE X c i a cls d (.Compare e [op] [e2] pos) (fun x => eF F (aCons (me x) (aCons m1 aNil))) := by
  refine PE.imp (pe_cmpR ho ha hb hm) fun σ H Q ⟨x, ρ, E, A, h0, h⟩ => ⟨x, ρ, E, A, h0, ?_⟩
  have h' : Post X.K WF RepV ρ A σ H (eF F (aCons (me x) (aCons m1 aNil)) E A) Q := h
  rw [eF2] at h'
  refine Post.bind h' fun ρ1 d1 B v H1 n1 r1 h1 => ?_
  refine ⟨ρ1, E, B, h0.e.ext n1.ext, n1.rep, Post.bind h1 fun ρ2 d2 C v2 H2 n2 r2 h4 => ?_⟩
  exact hk WF ρ2 C σ H2 d1 d2 v v2 _ n2.rep (r1.ext n2.ext) r2 h4
end
end DL
set_option Elab.async false
set_option linter.all false
set_option maxRecDepth 100000
set_option maxHeartbeats 4000000
/-! sorted(d) of a dict with whole numbers for keys (own work). -/
namespace DL
open PySem PySem.Spec PyProof.Rows L2
def keyI : D → Option Int
  | .int i => some i
  | _ => none
def keysI (kvs : List (D × D)) : Option (List Int) := allSome (kvs.map fun p => keyI p.1)
def sortDO (A : AH) : Option (List Int) → Res D
  | some ns => if ns.length < 64 then .ok (.ref A.length) (A ++ [.lst ((sortI ns).map D.int)]) else .bad
  | none => .bad
def srcDO : Option O → Option (List Int)
  | some (.dic kvs) => keysI kvs
  | _ => none
/-- sorted(d) -/
def biSortD : Fn
  | [.ref i], A => sortDO A (srcDO A[i]?)
  | _, _ => .bad
def rSortD : List V → Hp → VK → Prop := fun xs H Q => ∃ (a : Addr) (kvs : List (Key × V)) (ks : List Int), xs = [V.ref a] ∧ Rd H a (.dK kvs) ∧ kvs.map (·.1) = ks.map Sum.inl ∧ ks.length < 64 ∧
    ∀ (ys : List Int) (p : Addr), ys.Perm ks → ys.Pairwise (· ≤ ·) → H p = none → Q (.ref p) (upd H p (.lst (ys.map V.int)))
theorem keysI_rep {ρ : Nat → Addr} {n : Nat} {H : Hp} : ∀ {kvs : List (D × D)} {gs : List (Key × V)} {ks : List Int}, (kvs.map fun p => keyI p.1) = ks.map some → RepK keyD ρ n H kvs gs → gs.map (·.1) = ks.map Sum.inl
  | [], _, ks, q, .nil => by
    cases ks with
    | nil => rfl
    | cons _ _ => cases q
  | (kk, dd) :: kvs, _, ks, q, .cons a _ c => by
    cases ks with
    | nil => cases q
    | cons k ks =>
      rw [List.map_cons, List.map_cons] at q
      obtain ⟨q1, q2⟩ := List.cons.inj q
      rw [List.map_cons, List.map_cons, keysI_rep q2 c]
      congr 1
      cases kk with
      | int i =>
        cases q1
        cases a
        rfl
      | _ => cases q1
section
variable {X : Cx}
theorem ok_sortD : OkL X.K rSortD biSortD := fun W ρ A σ H ds vs Q hA r h => by
  obtain ⟨d, v, e1, e2, rd⟩ := one_of (F := biSortD) (fun _ => rfl) (fun d e r A => by cases d <;> rfl) r h
  subst e1 e2
  cases rd with
  | @ref i hi =>
    have h2 : Post X.K W RepV ρ A σ H (sortDO A (srcDO A[i]?)) Q := h
    cases z : A[i]? with
    | none => rw [z] at h2; exact h2.elim
    | some o =>
      rw [z] at h2
      cases o with
      | dic kvs =>
        have h3 : Post X.K W RepV ρ A σ H (sortDO A (keysI kvs)) Q := h2
        obtain ⟨gs, q1, q2⟩ := hA.objs i _ z
        cases y : keysI kvs with
        | none => rw [y] at h3; exact h3.elim
        | some ns =>
          rw [y] at h3
          have h4 : Post X.K W RepV ρ A σ H (if ns.length < 64 then .ok (.ref A.length) (A ++ [.lst ((sortI ns).map D.int)]) else .bad) Q := h3
          by_cases l : ns.length < 64
          · rw [if_pos l] at h4
            refine ⟨ρ i, gs, ns, rfl, .inl q1, keysI_rep (allSome_get y) q2, l, fun ns' p hp hs hq => ?_⟩
            rw [sortI_eq hp hs]
            exact post_lst hA h4 (RepVs.ints _) hq
          · rw [if_neg l] at h4
            exact h4.elim
      | _ => exact h2.elim
  | _ => exact h.elim
theorem cr_sortedDI (hc : X.calm = true) : CallR X (.builtin "sorted") rSortD := call_sortedDI hc
end
theorem keysI_of {v : Int → D} : ∀ ks : List Int, keysI (ks.map fun k => (D.int k, v k)) = some ks
  | [] => rfl
  | k :: ks => by
    have ih := keysI_of (v := v) ks
    unfold keysI at ih ⊢
    rw [List.map_cons, List.map_cons]
    show (allSome ((ks.map fun k => (D.int k, v k)).map fun p => keyI p.1)).map (k :: ·) = _
    rw [ih]
    rfl
theorem ev_sortD {A : AH} {i : Nat} {ks : List Int} {v : Int → D} (h : A[i]? = some (.dic (ks.map fun k => (D.int k, v k)))) (l : ks.length < 64) : biSortD [.ref i] A = .ok (.ref A.length) (A ++ [.lst ((sortI ks).map D.int)]) := by
  show sortDO A (srcDO A[i]?) = _
  rw [h]
  show sortDO A (keysI _) = _
  rw [keysI_of]
  exact if_pos l
end DL
set_option Elab.async false
set_option linter.all false
set_option maxRecDepth 100000
set_option maxHeartbeats 2000000
/-! list(zip(a, b)) of two tuples, at the library's level (own work, along the kit's loops of list). -/
namespace ZL
open PySem RZ
open PySem.Sem (wp)
section
variable {prog : Program} {w : World} {A : Around} {E : Value → Shared → Prop} {s : Shared}
theorem next_item_held {z TI TO T i1 i2 l1 l2 : Addr} {f : Bool} {oT : Obj} {k1 k2 : Nat} {xs ys : Array Value} {x y : Value} {Q : Value → Shared → Prop} (D : ZipApart z TI TO i1 i2 l1 l2)
    (hz : IsZipHeld s.heap z TI TO T f) (hT : s.heap.get? T = some oT) (hTI : IsPair s.heap TI (.ref i1) (.ref i2))
    (h1 : s.heap.IsTupleIter i1 l1 k1) (h2 : s.heap.IsTupleIter i2 l2 k2) (hl1 : s.heap.IsTuple l1 xs) (hl2 : s.heap.IsTuple l2 ys) (hx : xs[k1]? = some x) (hy : ys[k2]? = some y)
    (hQ : ∀ h', IsZipHeld h' z TI TO T true → h'.IsTupleIter i1 l1 (k1 + 1) → h'.IsTupleIter i2 l2 (k2 + 1) → IsPair h' s.heap.objs.size x y → h'.objs.size = s.heap.objs.size + 1 →
      (∀ c o, c ≠ z → c ≠ i1 → c ≠ i2 → s.heap.get? c = some o → h'.get? c = some o) → Q (.ref s.heap.objs.size) { s with heap := h' }) :
    wpAny (model prog w) A (Builtin.«zip.__next__» ⟨[.ref z], []⟩) (fun fin s' => ∃ v, fin = .done (.ret v) ∧ Q v s') E s := by
  show wpAny _ _ (field (.ref z) 2 >>= _) _ _ _
  refine wpAny_bind (wpAny_field hz rfl (x := .bool false) rfl ?_)
  show wpAny _ _ (field (.ref z) 3 >>= _) _ _ _
  refine wpAny_bind (wpAny_field hz rfl (x := .ref TI) rfl ?_)
  refine wpAny_bind (wpAny_seqItems hTI rfl ?_)
  show wpAny _ _ (Builtin.SmallTypes.ownedTupleIsFree (.ref z) >>= _) _ _ _
  refine wpAny_bind (wpAny_tupleHeld_zip hz hT fun h₁ hz₁ hs₁ => ?_)
  simp only [Bool.false_eq_true, if_false]
  refine wpAny_bind ?_
  rw [← Array.forIn_toList]
  simp only [List.forIn_cons, List.forIn_nil]
  refine wpAny_bind (wpAny_bind (wpAny_holding ?_))
  show wpAny _ _ (Builtin.SmallTypes.nextOf (.ref i1) >>= _) _ _ _
  refine wpAny_bind (nextOf_tuple_item (s := { s with heap := h₁ }) (h1.extBut hs₁.extBut D.i1z) (hl1.extBut hs₁.extBut D.l1z) hx fun h₂ h1₂ hs₂ => wpAny_pure ?_)
  refine wpAny_pure ?_
  refine wpAny_bind (wpAny_bind (wpAny_holding ?_))
  show wpAny _ _ (Builtin.SmallTypes.nextOf (.ref i2) >>= _) _ _ _
  refine wpAny_bind (nextOf_tuple_item (s := { s with heap := h₂ }) ((h2.extBut hs₁.extBut D.i2z).extBut hs₂.extBut D.i12.symm) ((hl2.extBut hs₁.extBut D.l2z).extBut hs₂.extBut D.l2i1) hy fun h₃ h2₃ hs₃ => wpAny_pure ?_)
  refine wpAny_pure (wpAny_pure ?_)
  show wpAny _ _ (newTuple [x, y] >>= _) _ _ _
  refine wpAny_bind (wpAny_newTuple ?_)
  have hsz : h₃.objs.size = s.heap.objs.size := by rw [hs₃.1, hs₂.1, hs₁.1]
  have hz₃ : IsZipHeld h₃ z TI TO T true := hs₃.extBut _ _ D.i2z.symm (hs₂.extBut _ _ D.i1z.symm hz₁)
  have hk : ∀ c o, c ≠ z → c ≠ i1 → c ≠ i2 → s.heap.get? c = some o → h₃.get? c = some o := fun c o c1 c2 c3 e => hs₃.extBut _ _ c3 (hs₂.extBut _ _ c2 (hs₁.extBut _ _ c1 e))
  have h1₃ : h₃.IsTupleIter i1 l1 (k1 + 1) := h1₂.extBut hs₃.extBut D.i12
  refine wpAny_pure ⟨_, rfl, ?_⟩
  show Q (.ref h₃.objs.size) _
  have hp : IsPair (h₃.push { cls := .type "tuple", data := .seq #[x, y] }) h₃.objs.size x y := Heap.get?_push_size _ rfl
  have hz4 : (h₃.push { cls := .type "tuple", data := .seq #[x, y] }).objs.size = h₃.objs.size + 1 := Heap.size_push ..
  rw [hsz] at hp hz4 ⊢
  exact hQ _ (Heap.get?_push_of_some _ hz₃) (h1₃.at fun o e => Heap.get?_push_of_some _ e) (h2₃.at fun o e => Heap.get?_push_of_some _ e) hp hz4 fun c o c1 c2 c3 e => Heap.get?_push_of_some _ (hk c o c1 c2 c3 e)

theorem next_end_held {z TI TO T i1 i2 l1 l2 : Addr} {f : Bool} {oT : Obj} {k1 k2 : Nat} {xs ys : Array Value} {Q : Fin → Shared → Prop} (hh : A.handled = none) (D : ZipApart z TI TO i1 i2 l1 l2)
    (hz : IsZipHeld s.heap z TI TO T f) (hT : s.heap.get? T = some oT) (hTI : IsPair s.heap TI (.ref i1) (.ref i2))
    (h1 : s.heap.IsTupleIter i1 l1 k1) (h2 : s.heap.IsTupleIter i2 l2 k2) (hl1 : s.heap.IsTuple l1 xs) (hl2 : s.heap.IsTuple l2 ys) (hend : xs[k1]? = none ∨ ys[k2]? = none)
    (hE : ∀ h' e, (∀ c o, c ≠ z → c ≠ i1 → c ≠ i2 → s.heap.get? c = some o → h'.get? c = some o) → (∃ o, h'.get? e = some o ∧ o.cls = .type "StopIteration") → E (.ref e) { s with heap := h' }) :
    wpAny (model prog w) A (Builtin.«zip.__next__» ⟨[.ref z], []⟩) Q E s := by
  show wpAny _ _ (field (.ref z) 2 >>= _) _ _ _
  refine wpAny_bind (wpAny_field hz rfl (x := .bool false) rfl ?_)
  show wpAny _ _ (field (.ref z) 3 >>= _) _ _ _
  refine wpAny_bind (wpAny_field hz rfl (x := .ref TI) rfl ?_)
  refine wpAny_bind (wpAny_seqItems hTI rfl ?_)
  show wpAny _ _ (Builtin.SmallTypes.ownedTupleIsFree (.ref z) >>= _) _ _ _
  refine wpAny_bind (wpAny_tupleHeld_zip hz hT fun h₁ hz₁ hs₁ => ?_)
  simp only [Bool.false_eq_true, if_false]
  refine wpAny_bind ?_
  rw [← Array.forIn_toList]
  simp only [List.forIn_cons, List.forIn_nil]
  refine wpAny_bind (wpAny_bind (wpAny_holding ?_))
  show wpAny _ _ (Builtin.SmallTypes.nextOf (.ref i1) >>= _) _ _ _
  cases hx : xs[k1]? with
  | none =>
    refine wpAny_bind (nextOf_tuple_end (s := { s with heap := h₁ }) hh (h1.extBut hs₁.extBut D.i1z) (hl1.extBut hs₁.extBut D.l1z) hx fun h₂ e hs₂ he => ?_)
    exact hE h₂ e (fun c o c1 c2 _ x => hs₂ _ _ c2 (hs₁.extBut _ _ c1 x)) he
  | some x =>
    have hy : ys[k2]? = none := by rcases hend with h | h; rw [hx] at h; cases h; exact h
    refine wpAny_bind (nextOf_tuple_item (s := { s with heap := h₁ }) (h1.extBut hs₁.extBut D.i1z) (hl1.extBut hs₁.extBut D.l1z) hx fun h₂ h1₂ hs₂ => wpAny_pure ?_)
    refine wpAny_pure ?_
    refine wpAny_bind (wpAny_bind (wpAny_holding ?_))
    show wpAny _ _ (Builtin.SmallTypes.nextOf (.ref i2) >>= _) _ _ _
    refine wpAny_bind (nextOf_tuple_end (s := { s with heap := h₂ }) hh ((h2.extBut hs₁.extBut D.i2z).extBut hs₂.extBut D.i12.symm) ((hl2.extBut hs₁.extBut D.l2z).extBut hs₂.extBut D.l2i1) hy fun h₃ e hs₃ he => ?_)
    exact hE h₃ e (fun c o c1 c2 c3 x => hs₃ _ _ c3 (hs₂.extBut _ _ c2 (hs₁.extBut _ _ c1 x))) he

theorem pyNext_item_held {z TI TO T i1 i2 l1 l2 : Addr} {f : Bool} {oT : Obj} {k1 k2 : Nat} {xs ys : Array Value} {x y : Value} {Q : Option Value → Shared → Prop} (D : ZipApart z TI TO i1 i2 l1 l2)
    (hz : IsZipHeld s.heap z TI TO T f) (hT : s.heap.get? T = some oT) (hTI : IsPair s.heap TI (.ref i1) (.ref i2))
    (h1 : s.heap.IsTupleIter i1 l1 k1) (h2 : s.heap.IsTupleIter i2 l2 k2) (hl1 : s.heap.IsTuple l1 xs) (hl2 : s.heap.IsTuple l2 ys) (hx : xs[k1]? = some x) (hy : ys[k2]? = some y)
    (hQ : ∀ h', IsZipHeld h' z TI TO T true → h'.IsTupleIter i1 l1 (k1 + 1) → h'.IsTupleIter i2 l2 (k2 + 1) → IsPair h' s.heap.objs.size x y → h'.objs.size = s.heap.objs.size + 1 →
      (∀ c o, c ≠ z → c ≠ i1 → c ≠ i2 → s.heap.get? c = some o → h'.get? c = some o) → Q (some (.ref s.heap.objs.size)) { s with heap := h' }) :
    wpAny (model prog w) A (pyNext (.ref z)) Q E s := by
  have hTy : s.TypeIs (.ref z) "zip" := ⟨_, hz, rfl⟩
  unfold pyNext
  exact wpAny_bind (wpAny_attempt (wpAny_callSpecial?_slot (name := Str.ofString "__next__") hTy F.slot_zip_next
    (wpAny_call_entry F.slot_zip_next hTy F.entry_zip_next
      (next_item_held D hz hT hTI h1 h2 hl1 hl2 hx hy fun h' a1 a3 a4 a5 a6 a7 => wpAny_pure (hQ h' a1 a3 a4 a5 a6 a7)) (F.args_zip_next_1 _))))
theorem pyNext_end_held {z TI TO T i1 i2 l1 l2 : Addr} {f : Bool} {oT : Obj} {k1 k2 : Nat} {xs ys : Array Value} {Q : Option Value → Shared → Prop} (hh : A.handled = none) (D : ZipApart z TI TO i1 i2 l1 l2)
    (hz : IsZipHeld s.heap z TI TO T f) (hT : s.heap.get? T = some oT) (hTI : IsPair s.heap TI (.ref i1) (.ref i2))
    (h1 : s.heap.IsTupleIter i1 l1 k1) (h2 : s.heap.IsTupleIter i2 l2 k2) (hl1 : s.heap.IsTuple l1 xs) (hl2 : s.heap.IsTuple l2 ys) (hend : xs[k1]? = none ∨ ys[k2]? = none)
    (hQ : ∀ h', (∀ c o, c ≠ z → c ≠ i1 → c ≠ i2 → s.heap.get? c = some o → h'.get? c = some o) → Q none { s with heap := h' }) : wpAny (model prog w) A (pyNext (.ref z)) Q E s := by
  have hTy : s.TypeIs (.ref z) "zip" := ⟨_, hz, rfl⟩
  unfold pyNext
  refine wpAny_bind (wpAny_attempt (wpAny_callSpecial?_slot (name := Str.ofString "__next__") hTy F.slot_zip_next
    (wpAny_call_entry F.slot_zip_next hTy F.entry_zip_next (next_end_held hh D hz hT hTI h1 h2 hl1 hl2 hend fun h' e hk he => ?_) (F.args_zip_next_1 _))))
  obtain ⟨o, ho, hc⟩ := he
  refine wpAny_bind (wpAny_isInstance (T := "StopIteration") (b := true) ⟨o, ho, hc⟩ isSubtype_stop ?_)
  exact wpAny_pure (hQ _ hk)
end

/-! ### the zip as it goes -/
/-- zip of a and b behind k turns, while the list S is being filled -/
structure ZSt (h : Heap) (z TI TO i1 i2 a b S : Addr) (k : Nat) : Prop where
  ti : IsPair h TI (.ref i1) (.ref i2)
  it1 : h.IsTupleIter i1 a k
  it2 : h.IsTupleIter i2 b k
  st : (IsZip h z TI TO .none ∧ ∃ x y, IsPair h TO x y) ∨ ∃ T f oT, IsZipHeld h z TI TO T f ∧ h.get? T = some oT ∧ S < T
theorem ZSt.keep {h h' : Heap} {z TI TO i1 i2 a b S : Addr} {k : Nat} (Z : ZSt h z TI TO i1 i2 a b S k) (hS : z < S ∧ TI < S ∧ TO < S ∧ i1 < S ∧ i2 < S) (up : ∀ c o, c ≠ S → h.get? c = some o → h'.get? c = some o) : ZSt h' z TI TO i1 i2 a b S k := by
  obtain ⟨q1, q2, q3, q4, q5⟩ := hS
  refine ⟨up _ _ (Nat.ne_of_lt q2) Z.ti, Z.it1.at fun o e => up _ o (Nat.ne_of_lt q4) e, Z.it2.at fun o e => up _ o (Nat.ne_of_lt q5) e, ?_⟩
  rcases Z.st with ⟨e, x, y, e2⟩ | ⟨T, f, oT, e, e2, l⟩
  · exact .inl ⟨up _ _ (Nat.ne_of_lt q1) e, x, y, up _ _ (Nat.ne_of_lt q3) e2⟩
  · exact .inr ⟨T, f, oT, up _ _ (Nat.ne_of_lt q1) e, up _ _ (Nat.ne_of_gt l) e2, l⟩
theorem ZSt.zip {h : Heap} {z TI TO i1 i2 a b S : Addr} {k : Nat} (Z : ZSt h z TI TO i1 i2 a b S k) : ∃ (f0 : Value) (f1 : Bool), h.get? z = some { cls := .type "zip", dict := none, data := .fields #[f0, .bool f1, .bool false, .ref TI, .ref TO], slots := #[] } := by
  rcases Z.st with ⟨e, _⟩ | ⟨T, f, oT, e, _⟩
  · exact ⟨.none, false, e⟩
  · exact ⟨rawInt T, f, e⟩
section
variable {prog : Program} {w : World} {A : Around} {E : Value → Shared → Prop} {s : Shared}
theorem zil_item {z TI TO i1 i2 a b S : Addr} {k : Nat} {xs ys : Array Value} {x y : Value} {Q : Option Value → Shared → Prop} (D : ZipApart z TI TO i1 i2 a b) (hS : z < S ∧ TI < S ∧ TO < S ∧ i1 < S ∧ i2 < S) (hSs : S < s.heap.objs.size)
    (Z : ZSt s.heap z TI TO i1 i2 a b S k) (ha : s.heap.IsTuple a xs) (hb : s.heap.IsTuple b ys) (hx : xs[k]? = some x) (hy : ys[k]? = some y)
    (hQ : ∀ h', ZSt h' z TI TO i1 i2 a b S (k + 1) → IsPair h' s.heap.objs.size x y → h'.objs.size = s.heap.objs.size + 1 →
      (∀ c o, c ≠ z → c ≠ TO → c ≠ i1 → c ≠ i2 → s.heap.get? c = some o → h'.get? c = some o) → Q (some (.ref s.heap.objs.size)) { s with heap := h' }) :
    wpAny (model prog w) A (pyNext (.ref z)) Q E s := by
  obtain ⟨q1, q2, q3, q4, q5⟩ := hS
  rcases Z.st with ⟨hz, x0, y0, hTO⟩ | ⟨T, f, oT, hz, hT, hl⟩
  · refine pyNext_zipT_item D hz Z.ti hTO Z.it1 Z.it2 ha hb hx hy fun h' a1 a2 a3 a4 a5 a6 a7 => hQ h' ⟨a7 _ _ D.TIz D.TITO D.TIi1 D.TIi2 Z.ti, a3, a4, .inr ⟨_, false, _, a1, a5, hSs⟩⟩ a5 a6 a7
  · refine pyNext_item_held D hz hT Z.ti Z.it1 Z.it2 ha hb hx hy fun h' a1 a3 a4 a5 a6 a7 => hQ h' ⟨a7 _ _ D.TIz D.TIi1 D.TIi2 Z.ti, a3, a4, .inr ⟨T, true, oT, a1, a7 _ _ ?_ ?_ ?_ hT, hl⟩⟩ a5 a6 (fun c o c1 _ c3 c4 e => a7 c o c1 c3 c4 e)
    · exact Nat.ne_of_gt (Nat.lt_trans q1 hl)
    · exact Nat.ne_of_gt (Nat.lt_trans q4 hl)
    · exact Nat.ne_of_gt (Nat.lt_trans q5 hl)
theorem zil_done {z TI TO i1 i2 a b S : Addr} {k : Nat} {xs ys : Array Value} {Q : Option Value → Shared → Prop} (hh : A.handled = none) (D : ZipApart z TI TO i1 i2 a b)
    (Z : ZSt s.heap z TI TO i1 i2 a b S k) (ha : s.heap.IsTuple a xs) (hb : s.heap.IsTuple b ys) (hend : xs[k]? = none ∨ ys[k]? = none)
    (hQ : ∀ h', (∀ c o, c ≠ z → c ≠ TO → c ≠ i1 → c ≠ i2 → s.heap.get? c = some o → h'.get? c = some o) → Q none { s with heap := h' }) :
    wpAny (model prog w) A (pyNext (.ref z)) Q E s := by
  rcases Z.st with ⟨hz, x0, y0, hTO⟩ | ⟨T, f, oT, hz, hT, hl⟩
  · exact pyNext_zipT_end hh D hz Z.ti hTO Z.it1 Z.it2 ha hb hend fun h' k => hQ h' k
  · exact pyNext_end_held hh D hz hT Z.ti Z.it1 Z.it2 ha hb hend fun h' k => hQ h' fun c o c1 _ c3 c4 e => k c o c1 c3 c4 e
end
/-- as hold the pairs of xs and ys, above S, rising -/
structure ZG (xs ys : Array Value) (S : Addr) (h : Heap) (as : List Addr) : Prop where
  rise : as.Pairwise (· < ·)
  above : ∀ a ∈ as, S < a
  pairs : ∀ (j : Nat) (a : Addr), as[j]? = some a → ∃ x y, xs[j]? = some x ∧ ys[j]? = some y ∧ IsPair h a x y
theorem ZG.there {xs ys : Array Value} {S : Addr} {h : Heap} {as : List Addr} (g : ZG xs ys S h as) {a : Addr} (ha : a ∈ as) : a < h.objs.size := by
  obtain ⟨j, hj⟩ := List.mem_iff_getElem?.mp ha
  obtain ⟨_, _, _, _, e⟩ := g.pairs j a hj
  exact Heap.lt_size e
section
variable {prog : Program} {w : World} {A : Around} {s : Shared} {R : Result → Shared → Prop} {xs ys : Array Value}
theorem zil_loop {z TI TO i1 i2 a b S : Addr} {n : Nat} (hh : A.handled = none) (D : ZipApart z TI TO i1 i2 a b) (hS5 : z < S ∧ TI < S ∧ TO < S ∧ i1 < S ∧ i2 < S) (haS : a ≠ S) (hbS : b ≠ S) (haT : a ≠ TO) (hbT : b ≠ TO)
    (hx : ∀ i, i < n → ∃ x y, xs[i]? = some x ∧ ys[i]? = some y) (hend : xs[n]? = none ∨ ys[n]? = none) (hn : n ≤ sizeLine) (res : Value) {h₁ : Heap}
    (hR : ∀ h' tk acc c as, (∀ d o, d ≠ S → d ≠ z → d ≠ TO → d ≠ i1 → d ≠ i2 → h₁.get? d = some o → h'.get? d = some o) → h'.get? S = some { cls := .type "list", dict := none, data := .seq acc c, slots := #[] } → as.length = n → ZG xs ys S h' as →
      acc.toList = as.map Value.ref → R (.ok (.ret res)) { s with heap := h', toks := tk }) :
    ∀ (k i : Nat) (h : Heap) (tk c : Nat) (acc : Array Value) (as : List Addr), n - i = k → i ≤ n → ZSt h z TI TO i1 i2 a b S i → h.IsTuple a xs → h.IsTuple b ys → (∀ d o, d ≠ S → d ≠ z → d ≠ TO → d ≠ i1 → d ≠ i2 → h₁.get? d = some o → h.get? d = some o) →
      h.get? S = some { cls := .type "list", dict := none, data := .seq acc c, slots := #[] } → acc.toList = as.map Value.ref → as.length = i → ZG xs ys S h as →
      codeAny (model prog w) A (.builtin "list.extend.loop" ⟨[.ref S, .ref z, res], []⟩) R { s with heap := h, toks := tk } := by
  obtain ⟨q1, q2, q3, q4, q5⟩ := id hS5
  intro k
  induction k with
  | zero =>
    intro i h tk c acc as hk hi hst ha hb hkeep hS hacc hal hG
    have hin : i = n := by omega
    subst hin
    refine codeAny_builtin PySem.F.entry_extend_loop ?_
    rw [Around.under_plainId PySem.F.plain_extend_loop _]
    show wpAny _ A.in1 (pyNext (.ref z) >>= _) _ _ _
    refine wpAny_bind (zil_done (s := { s with heap := h, toks := tk }) (A := A.in1) hh D hst ha hb hend fun h' he => ?_)
    refine wpAny_pure (hR h' tk acc c as (fun b o h1 h2 h3 h4 h5 e => he b o h2 h3 h4 h5 (hkeep b o h1 h2 h3 h4 h5 e)) (he S _ (Nat.ne_of_gt q1) (Nat.ne_of_gt q3) (Nat.ne_of_gt q4) (Nat.ne_of_gt q5) hS) hal ⟨hG.rise, hG.above, fun j a hj => ?_⟩ hacc)
    obtain ⟨x, y, e1, e2, e3⟩ := hG.pairs j a hj
    have hl := hG.above a (List.mem_of_getElem? hj)
    exact ⟨x, y, e1, e2, he a _ (Nat.ne_of_gt (Nat.lt_trans q1 hl)) (Nat.ne_of_gt (Nat.lt_trans q3 hl)) (Nat.ne_of_gt (Nat.lt_trans q4 hl)) (Nat.ne_of_gt (Nat.lt_trans q5 hl)) e3⟩
  | succ k ih =>
    intro i h tk c acc as hk hi hst ha hb hkeep hS hacc hal hG
    have hlt : i < n := by omega
    have hsz : acc.size = i := by rw [← Array.length_toList, hacc, List.length_map, hal]
    obtain ⟨x, y, ex, ey⟩ := hx i hlt
    refine codeAny_builtin PySem.F.entry_extend_loop ?_
    rw [Around.under_plainId PySem.F.plain_extend_loop _]
    show wpAny _ A.in1 (pyNext (.ref z) >>= _) _ _ _
    refine wpAny_bind (zil_item (s := { s with heap := h, toks := tk }) D hS5 (Heap.lt_size hS) hst ha hb ex ey fun h' hst' ht hz hkp => ?_)
    dsimp only at ht hz hkp ⊢
    have hS' := hkp S _ (Nat.ne_of_gt q1) (Nat.ne_of_gt q3) (Nat.ne_of_gt q4) (Nat.ne_of_gt q5) hS
    have up : ∀ b o, b ≠ S → h'.get? b = some o → (h'.update S (Obj.mapSeq (·.push (Value.ref h.objs.size)))).get? b = some o := fun b o hb e => (Heap.get?_update_other _ _ (Ne.symm hb)).trans e
    have hSl : S < h.objs.size := Heap.lt_size hS
    have hkT : ∀ b o, b ≠ z → b ≠ TO → b ≠ i1 → b ≠ i2 → b ≠ S → h.get? b = some o → (h'.update S (Obj.mapSeq (·.push (Value.ref h.objs.size)))).get? b = some o := fun b o c1 c2 c3 c4 c5 e => up b o c5 (hkp b o c1 c2 c3 c4 e)
    have ha' : (h'.update S (Obj.mapSeq (·.push (Value.ref h.objs.size)))).IsTuple a xs := by
      obtain ⟨o, ho, x⟩ := ha
      exact ⟨o, hkT a o D.l1z haT D.l1i1 D.l1i2 haS ho, x⟩
    have hb' : (h'.update S (Obj.mapSeq (·.push (Value.ref h.objs.size)))).IsTuple b ys := by
      obtain ⟨o, ho, x⟩ := hb
      exact ⟨o, hkT b o D.l2z hbT D.l2i1 D.l2i2 hbS ho, x⟩
    show wpAny _ A.in1 (updateSeq S (·.push (Value.ref h.objs.size)) >>= _) _ _ _
    refine wpAny_bind ?_
    refine wpAny_updateSeq hS' rfl (wpAny_pure ⟨plainId_quiet PySem.F.plain_extend_loop _, ih (i + 1) _ tk _ (acc.push (Value.ref h.objs.size)) (as ++ [h.objs.size]) (by omega) hlt (hst'.keep hS5 up) ha' hb'
      (fun b o h1 h2 h3 h4 h5 e => up b o h1 (hkp b o h2 h3 h4 h5 (hkeep b o h1 h2 h3 h4 h5 e))) (Heap.get?_update_self _ hS' rfl) (by rw [Array.toList_push, hacc, List.map_append]; rfl) (by rw [List.length_append, hal]; rfl) ⟨?_, ?_, ?_⟩⟩) (by rw [hsz]; omega) (by show (acc.push (Value.ref h.objs.size)).size ≤ sizeLine + 1; rw [Array.size_push, hsz]; omega)
    · refine List.pairwise_append.mpr ⟨hG.rise, List.pairwise_singleton _ _, fun a ha b hb => ?_⟩
      rw [List.mem_singleton.mp hb]
      exact hG.there ha
    · intro a ha
      rcases List.mem_append.mp ha with ha | ha
      · exact hG.above a ha
      · rw [List.mem_singleton.mp ha]; exact hSl
    · intro j b hj
      rcases Nat.lt_trichotomy j as.length with h1 | h1 | h1
      · rw [List.getElem?_append_left h1] at hj
        obtain ⟨x', y', g1, g2, e3⟩ := hG.pairs j b hj
        have hl := hG.above b (List.mem_of_getElem? hj)
        exact ⟨x', y', g1, g2, hkT b _ (Nat.ne_of_gt (Nat.lt_trans q1 hl)) (Nat.ne_of_gt (Nat.lt_trans q3 hl)) (Nat.ne_of_gt (Nat.lt_trans q4 hl)) (Nat.ne_of_gt (Nat.lt_trans q5 hl)) (Nat.ne_of_gt hl) e3⟩
      · subst h1
        have hb : h.objs.size = b := by simpa using hj
        subst hb
        exact ⟨x, y, by rw [hal]; exact ex, by rw [hal]; exact ey, up _ _ (Nat.ne_of_gt hSl) ht⟩
      · have hnone : (as ++ [h.objs.size])[j]? = none := List.getElem?_eq_none (by rw [List.length_append, List.length_singleton]; omega)
        rw [hnone] at hj; cases hj
theorem zip_no_len : typeLookup (.type "zip") "__len__" = pure none := am_miss_of_fast (by decide +kernel)
theorem zip_no_hint : typeLookup (.type "zip") "__length_hint__" = pure none := am_miss_of_fast (by decide +kernel)
theorem zil_extend {z TI TO i1 i2 a b S : Addr} {n : Nat} (hh : A.handled = none) (D : ZipApart z TI TO i1 i2 a b) (hS5 : z < S ∧ TI < S ∧ TO < S ∧ i1 < S ∧ i2 < S) (haS : a ≠ S) (hbS : b ≠ S) (haT : a ≠ TO) (hbT : b ≠ TO)
    (hx : ∀ i, i < n → ∃ x y, xs[i]? = some x ∧ ys[i]? = some y) (hend : xs[n]? = none ∨ ys[n]? = none) (hn : n ≤ sizeLine) (res : Value) (c₀ : Nat) (hS : s.heap.get? S = some { cls := .type "list", data := .seq #[] c₀ })
    (hst : ZSt s.heap z TI TO i1 i2 a b S 0) (ha : s.heap.IsTuple a xs) (hb : s.heap.IsTuple b ys)
    (hR : ∀ h' tk acc c as, (∀ d o, d ≠ S → d ≠ z → d ≠ TO → d ≠ i1 → d ≠ i2 → s.heap.get? d = some o → h'.get? d = some o) → h'.get? S = some { cls := .type "list", dict := none, data := .seq acc c, slots := #[] } → as.length = n → ZG xs ys S h' as →
      acc.toList = as.map Value.ref → R (.ok (.ret res)) { s with heap := h', toks := tk }) :
    wpAny (model prog w) A.in1 (Builtin.List.listExtendWith (.ref S) (.ref z) res)
      (fun fin s' => match fin with | .done f => R (.ok f) s' | .again c' => c'.quiet = true ∧ codeAny (model prog w) A c' R s') (fun e s' => R (.error e) s') s := by
  obtain ⟨q1, q2, q3, q4, q5⟩ := id hS5
  obtain ⟨f0, f1, hz⟩ := hst.zip
  have hT : s.TypeIs (.ref z) "zip" := ⟨_, hz, rfl⟩
  unfold Builtin.List.listExtendWith
  refine wpAny_bind (wpAny_typeOf hT ?_)
  have h1 : Builtin.List.listSameRef (.ref S) (.ref z) = false := by
    have : S ≠ z := Nat.ne_of_gt q1
    simp [Builtin.List.listSameRef, this]
  have h2 : (Value.type "zip" == Value.type "list") = false := by decide
  have h3 : (Value.type "zip" == Value.type "tuple") = false := by decide
  simp only [h1, h2, h3, Bool.or_false, Bool.false_eq_true, if_false]
  refine wpAny_bind (wpAny_pyIter_slot hT PySem.F.slot_zip_iter (wpAny_call_entry PySem.F.slot_zip_iter hT PySem.F.entry_zip_iter ?_ (PySem.F.args_zip_iter_1 _)))
  show wpAny _ _ (ret (.ref z)) _ _ s
  refine wpAny_pure ⟨_, rfl, "zip", _, hT, PySem.F.slot_zip_next.lookup, ?_⟩
  refine wpAny_bind (wpAny_holding ?_)
  unfold Builtin.List.listLengthHint
  refine wpAny_bind (wpAny_specialOf hT zip_no_len ?_)
  show wpAny _ A.in1 (specialOf (Value.ref z) (Str.ofString "__length_hint__") >>= _) _ _ _
  refine wpAny_bind (wpAny_specialOf hT zip_no_hint ?_)
  refine wpAny_pure ?_
  show wpAny _ A.in1 (rule "list.extend.makes-room" >>= fun _ => Builtin.List.listTouch (.ref S) >>= fun _ =>
    again (.builtin "list.extend.loop" ⟨[.ref S, .ref z, res], []⟩)) _ _ _
  refine wpAny_bind (wpAny_rule ?_)
  refine wpAny_bind ?_
  show wpAny _ A.in1 (updateSeq S (·.push .none) >>= fun _ => updateSeq S (·.pop)) _ _ _
  refine wpAny_bind (wpAny_updateSeq hS rfl ?_)
  have hS₂ := Heap.get?_update_self (Obj.mapSeq (·.push Value.none)) hS rfl
  refine wpAny_updateSeq (hz := by seq_fits) hS₂ rfl ?_
  have hS₃ := Heap.get?_update_self (Obj.mapSeq (·.pop)) hS₂ rfl
  have oth : ∀ b o, b ≠ S → s.heap.get? b = some o → ((s.heap.update S (Obj.mapSeq (·.push Value.none))).update S (Obj.mapSeq (·.pop))).get? b = some o :=
    fun b o hb e => (Heap.get?_update_other _ _ (Ne.symm hb)).trans ((Heap.get?_update_other _ _ (Ne.symm hb)).trans e)
  refine wpAny_pure ⟨plainId_quiet PySem.F.plain_extend_loop _, ?_⟩
  refine zil_loop (s := s) (h₁ := s.heap) hh D hS5 haS hbS haT hbT hx hend hn res (fun h' tk' acc c as hk' hS' hl hG hacc => hR h' tk' acc c as hk' hS' hl hG hacc)
      n 0 _ s.toks _ #[] [] (Nat.sub_zero _) (Nat.zero_le _) (hst.keep hS5 oth) ?_ ?_ (fun b o h1 _ _ _ _ e => oth b o h1 e) hS₃ rfl rfl ⟨List.Pairwise.nil, (fun _ ha => nomatch ha), (fun j a hj => by simp at hj)⟩
  · obtain ⟨o, ho, x⟩ := ha
    exact ⟨o, oth a o haS ho, x⟩
  · obtain ⟨o, ho, x⟩ := hb
    exact ⟨o, oth b o hbS ho, x⟩
theorem zil_init {z TI TO i1 i2 a b S : Addr} {n : Nat} (hh : A.handled = none) (D : ZipApart z TI TO i1 i2 a b) (hS5 : z < S ∧ TI < S ∧ TO < S ∧ i1 < S ∧ i2 < S) (haS : a ≠ S) (hbS : b ≠ S) (haT : a ≠ TO) (hbT : b ≠ TO)
    (hx : ∀ i, i < n → ∃ x y, xs[i]? = some x ∧ ys[i]? = some y) (hend : xs[n]? = none ∨ ys[n]? = none) (hn : n ≤ sizeLine) (hS : s.heap.get? S = some { cls := .type "list", data := .seq #[] })
    (hst : ZSt s.heap z TI TO i1 i2 a b S 0) (ha : s.heap.IsTuple a xs) (hb : s.heap.IsTuple b ys)
    (hR : ∀ h' tk acc c as, (∀ d o, d ≠ S → d ≠ z → d ≠ TO → d ≠ i1 → d ≠ i2 → s.heap.get? d = some o → h'.get? d = some o) → h'.get? S = some { cls := .type "list", dict := none, data := .seq acc c, slots := #[] } → as.length = n → ZG xs ys S h' as →
      acc.toList = as.map Value.ref → R (.ok (.ret .none)) { s with heap := h', toks := tk }) :
    wpAny (model prog w) A.in1 (Builtin.«list.__init__» ⟨[.ref S, .ref z], []⟩)
      (fun fin s' => match fin with | .done f => R (.ok f) s' | .again c' => c'.quiet = true ∧ codeAny (model prog w) A c' R s') (fun e s' => R (.error e) s') s := by
  show wpAny _ _ (do let old ← Builtin.List.listItems (.ref S); Builtin.List.listUpdate (.ref S) (fun _ => #[]); letGo old.toList.reverse; Builtin.List.listExtendWith (.ref S) (.ref z) .none) _ _ s
  refine wpAny_bind ?_
  unfold Builtin.List.listItems
  refine wpAny_bind (wpAny_seqItems hS rfl (wpAny_pure ?_))
  show wpAny _ _ (updateSeq S (fun _ => #[]) >>= fun _ => letGo (#[] : Array Value).toList.reverse >>= fun _ => Builtin.List.listExtendWith (.ref S) (.ref z) .none) _ _ s
  refine wpAny_bind (wpAny_updateSeq hS rfl ?_)
  have hS₂ := Heap.get?_update_self (Obj.mapSeq (fun _ => (#[] : Array Value))) hS rfl
  have oth : ∀ b o, b ≠ S → s.heap.get? b = some o → (s.heap.update S (Obj.mapSeq (fun _ => (#[] : Array Value)))).get? b = some o :=
    fun b o hb e => (Heap.get?_update_other _ _ (Ne.symm hb)).trans e
  refine wpAny_bind (wpAny_letGo ?_)
  refine zil_extend hh D hS5 haS hbS haT hbT hx hend hn .none _ hS₂ (hst.keep hS5 oth) ?_ ?_ fun h' tk acc c as hk hS' hl hG hacc => ?_
  · obtain ⟨o, ho, x⟩ := ha
    exact ⟨o, oth a o haS ho, x⟩
  · obtain ⟨o, ho, x⟩ := hb
    exact ⟨o, oth b o hbS ho, x⟩
  · exact hR h' tk acc c as (fun b o c1 c2 c3 c4 c5 e => hk b o c1 c2 c3 c4 c5 (oth b o c1 e)) hS' hl hG hacc
end
section
variable {prog : Program} {w : World} {A : Around} {E : Value → Shared → Prop} {s : Shared} {xs ys : Array Value}
theorem zil_call {z TI TO i1 i2 a b : Addr} {n : Nat} {Q : Value → Shared → Prop} (hh : A.handled = none) (D : ZipApart z TI TO i1 i2 a b) (haT : a ≠ TO) (hbT : b ≠ TO)
    (hx : ∀ i, i < n → ∃ x y, xs[i]? = some x ∧ ys[i]? = some y) (hend : xs[n]? = none ∨ ys[n]? = none) (hn : n ≤ sizeLine)
    (hz : IsZip s.heap z TI TO .none) (hTI : IsPair s.heap TI (.ref i1) (.ref i2)) (hTO : IsPair s.heap TO .none .none) (h1 : s.heap.IsTupleIter i1 a 0) (h2 : s.heap.IsTupleIter i2 b 0) (ha : s.heap.IsTuple a xs) (hb : s.heap.IsTuple b ys)
    (hQ : ∀ h' tk acc c as, (∀ d o, d ≠ z → d ≠ TO → d ≠ i1 → d ≠ i2 → s.heap.get? d = some o → h'.get? d = some o) → h'.get? s.heap.objs.size = some { cls := .type "list", dict := none, data := .seq acc c, slots := #[] } → as.length = n → ZG xs ys s.heap.objs.size h' as →
      acc.toList = as.map Value.ref → Q (.ref s.heap.objs.size) { s with heap := h', toks := tk }) :
    wpAny (model prog w) A (call (.type "list") [.ref z]) Q E s := by
  refine callType_codes (Q₁ := fun obj s₁ => obj = .ref s.heap.objs.size ∧ s₁ = { s with heap := s.heap.push { cls := .type "list", data := .seq #[] } }) PySem.F.called_list (PySem.F.typeCall_list_1 _) PySem.F.entry_list_init
    (code_list_new _ ⟨rfl, rfl⟩) fun obj s₁ h₁ => ?_
  obtain ⟨rfl, rfl⟩ := h₁
  have hS : (s.heap.push { cls := .type "list", data := .seq #[] }).get? s.heap.objs.size = some { cls := .type "list", data := .seq #[] } := Heap.get?_push_size _ rfl
  have lt1 : i1 < s.heap.objs.size := by obtain ⟨_, e, _⟩ := h1; exact Heap.lt_size e
  have lt2 : i2 < s.heap.objs.size := by obtain ⟨_, e, _⟩ := h2; exact Heap.lt_size e
  have lta : a < s.heap.objs.size := by obtain ⟨_, e, _⟩ := ha; exact Heap.lt_size e
  have ltb : b < s.heap.objs.size := by obtain ⟨_, e, _⟩ := hb; exact Heap.lt_size e
  have up : ∀ c o, s.heap.get? c = some o → (s.heap.push { cls := .type "list", data := .seq #[] }).get? c = some o := fun c o e => Heap.get?_push_of_some _ e
  refine ⟨⟨_, hS, rfl⟩, PySem.F.args_list_init_2 _ _, zil_init (A := A.in1) hh D ⟨Heap.lt_size hz, Heap.lt_size hTI, Heap.lt_size hTO, lt1, lt2⟩ (Nat.ne_of_lt lta) (Nat.ne_of_lt ltb) haT hbT hx hend hn hS
    ⟨up _ _ hTI, h1.at fun o e => up _ o e, h2.at fun o e => up _ o e, .inl ⟨up _ _ hz, _, _, up _ _ hTO⟩⟩ ?_ ?_ fun h' tk acc c as hk hS' hl hG hacc => ?_⟩
  · obtain ⟨o, ho, x⟩ := ha
    exact ⟨o, up a o ho, x⟩
  · obtain ⟨o, ho, x⟩ := hb
    exact ⟨o, up b o ho, x⟩
  · exact ⟨rfl, hQ h' tk acc c as (fun b o c2 c3 c4 c5 e => hk b o (Nat.ne_of_lt (Heap.lt_size e)) c2 c3 c4 c5 (up b o e)) hS' hl hG hacc⟩
end
end ZL
set_option Elab.async false
set_option linter.all false
set_option maxRecDepth 100000
set_option maxHeartbeats 4000000
/-! list(zip(a, b)) of two tuples (own work, along the kit's rule of list(d.items())). -/
namespace DL
open PySem PySem.Spec PyProof.Rows L2 RZ
/-- pairs tracked at their addresses -/
def putP : Hp → List Addr → List (V × V) → Hp
  | H, a :: as, p :: ps => putP (upd H a (.tup [p.1, p.2])) as ps
  | H, _, _ => H
theorem putP_off {b : Addr} : ∀ (as : List Addr) (ps : List (V × V)) (H : Hp), b ∉ as → putP H as ps b = H b
  | [], _, _, _ => rfl
  | _ :: _, [], _, _ => rfl
  | a :: as, p :: ps, H, h => by
    show putP (upd H a (.tup [p.1, p.2])) as ps b = H b
    rw [putP_off as ps _ (fun z => h (List.mem_cons_of_mem _ z)), upd_ne (fun z => h (by rw [z]; exact List.mem_cons_self))]
theorem putP_at : ∀ (as : List Addr) (ps : List (V × V)) (H : Hp), as.length = ps.length → as.Nodup → Paired (fun (t : Addr) (p : V × V) => putP H as ps t = some (.tup [p.1, p.2])) as ps
  | [], [], _, _, _ => .nil
  | [], _ :: _, _, h, _ => by cases h
  | _ :: _, [], _, h, _ => by cases h
  | a :: as, p :: ps, H, h, hn => by
    have hn' := List.nodup_cons.mp hn
    have ih := putP_at as ps (upd H a (.tup [p.1, p.2])) (Nat.succ.inj h) hn'.2
    refine .cons ?_ ih
    show putP (upd H a (.tup [p.1, p.2])) as ps a = some (.tup [p.1, p.2])
    rw [putP_off as ps _ hn'.1, upd_same]
def tListZip (K : PySem.W.Frag) (ta : TA) : TE := fun σ H Q => ta σ H fun vs H1 => ∃ (a b : Addr) (xs ys : List V), vs = [.ref a, .ref b] ∧ SqT K H1 a xs ∧ SqT K H1 b ys ∧
  ∀ (H' : Hp) (p : Addr) (ts : List Addr), Same H1 H' → H' p = none → Paired (fun (t : Addr) (q : V × V) => H' t = some (.tup [q.1, q.2])) ts (xs.zip ys) → Q (.ref p) (upd H' p (.lst (ts.map V.ref)))
section
variable {X : Cx} {e e2 : Expr} {ta : TA} {p p2 pos pos2 : Pos}
theorem zip_laid {pins : List (Addr × Obj)} {σ : L2.St} {H : Hp} {s : Shared} {h' : Heap} {tk : Nat} {xs ys : List V} {its its2 : List Value} {acc : Array Value} {c : Nat} {as : List Addr} {S : Addr} (I : Inv X pins σ H s) (hS0 : s.heap.objs.size ≤ S) (hz : (xs.zip ys).length ≤ sizeLine) (rx : Vals xs its) (ry : Vals ys its2)
    (hk : ∀ b o, s.heap.get? b = some o → h'.get? b = some o) (hS : h'.get? S = some { cls := .type "list", dict := none, data := .seq acc c, slots := #[] }) (hl : as.length = (xs.zip ys).length) (hG : ZL.ZG its.toArray its2.toArray S h' as) (hacc : acc.toList = as.map Value.ref) :
    ∃ H' : Hp, Same H H' ∧ H' S = none ∧ Paired (fun (t : Addr) (q : V × V) => H' t = some (.tup [q.1, q.2])) as (xs.zip ys) ∧ Inv X pins σ (upd H' S (.lst (as.map V.ref))) { s with heap := h', toks := tk } := by
  have hSn : S ∉ as := fun z => Nat.lt_irrefl _ (hG.above _ z)
  have nd : as.Nodup := List.Pairwise.imp (fun {a b} (h : a < b) => Nat.ne_of_lt h) hG.rise
  have new : ∀ t ∈ as, H t = none := fun t ht => I.hok.fresh (Nat.le_trans hS0 (Nat.le_of_lt (hG.above t ht)))
  have newS : H S = none := I.hok.fresh hS0
  have atP := putP_at as (xs.zip ys) H hl nd
  have off : ∀ b, b ∉ as → putP H as (xs.zip ys) b = H b := fun b h1 => putP_off as _ H h1
  have low : ∀ b o, s.heap.get? b = some o → b ∉ as ∧ b ≠ S := fun b o e =>
    ⟨fun z => absurd (Heap.lt_size e) (Nat.not_lt.mpr (Nat.le_trans hS0 (Nat.le_of_lt (hG.above b z)))), Nat.ne_of_lt (Nat.lt_of_lt_of_le (Heap.lt_size e) hS0)⟩
  have kp0 : Same H (putP H as (xs.zip ys)) := fun b u e => by
    rw [off b (fun z => by rw [new b z] at e; cases e)]
    exact e
  have eS0 : putP H as (xs.zip ys) S = none := (off S hSn).trans newS
  have kp : ∀ b u, H b = some u → (upd (putP H as (xs.zip ys)) S (.lst (as.map V.ref))) b = some u := fun b u e => by
    rw [upd_ne (fun z => by rw [z, newS] at e; cases e)]
    exact kp0 b u e
  refine ⟨putP H as (xs.zip ys), kp0, eS0, atP, ?_⟩
  refine I.call' (ch := []) rfl ⟨fun b o q _ _ _ => hk b o q, fun b o q _ _ _ => ⟨o.slots, hk b o q⟩, fun b o q n _ => ?_, fun b o q _ => ⟨o, hk b o q⟩, fun b xs q => kp b _ q, fun b o u q => kp b _ q, fun b ps q => ⟨#[], by rw [kp b _ q]; simp⟩⟩ (fun b u q => ?_) I.bare fun b z => by simp at z
  · obtain ⟨z1, z2⟩ := low b o q
    rw [upd_ne z2, off b z1]
    exact n
  · by_cases hb2 : b = S
    · rw [hb2] at q ⊢
      rw [upd_same] at q
      cases q
      refine ⟨by rw [List.length_map]; omega, acc.toList, c, by rw [hacc]; exact LiI.vals_refs as, ?_⟩
      rw [Array.toArray_toList]
      exact hS
    · rw [upd_ne hb2] at q
      by_cases hb : b ∈ as
      · obtain ⟨j, pk, e1, e2, e3⟩ := LiI.paired_ix atP hb
        rw [e3] at q
        cases q
        obtain ⟨x, y, g1, g2, g3⟩ := hG.pairs j b e1
        obtain ⟨w1, w2⟩ := List.getElem?_zip_eq_some.mp e2
        obtain ⟨u1, u2, u3⟩ := rx.get w1
        obtain ⟨v1, v2, v3⟩ := ry.get w2
        have k1 : its[j]? = some x := by simpa using g1
        have k2 : its2[j]? = some y := by simpa using g2
        rw [u2] at k1
        rw [v2] at k2
        cases k1
        cases k2
        exact ⟨by show 2 ≤ sizeLine; decide, [x, y], .cons u3 (.cons v3 .nil), ⟨_, g3, rfl, _, rfl⟩⟩
      · rw [off b hb] at q
        exact (I.hok b u q).stay (fun d v _ y => hk d v y) (fun d y => kp d _ y) fun d xs y => kp d _ y
theorem pe_listZip (hc : X.calm = true) (hgl : Gl X "list") (hml : X.mg "list" = none) (hv : bootBuiltins "list" = some (.type "list")) (hgz : Gl X "zip") (hmz : X.mg "zip" = none) (ha : PA X [e, e2] ta)
    (hs1 : starEach [.Call (.Name "zip" p2) [e, e2] [] pos2] X.env = (false, eval (.Call (.Name "zip" p2) [e, e2] [] pos2) X.env) :: starEach [] X.env := by rfl)
    (hs : starEach [e, e2] X.env = (false, eval e X.env) :: starEach [e2] X.env := by rfl) (hpl : (backTo pos2 (starEach [e2] X.env)).any (·.1) = false := by rfl) :
    PE X (.Call (.Name "list" p) [.Call (.Name "zip" p2) [e, e2] [] pos2] [] pos) (tListZip X.K ta) := by
  refine ⟨fun pins s σ H Q I hq => ?_⟩
  refine wpAny_Call_Name_kw (ld_blt I hgl hml hv ?_)
  refine PyProof.Rows.callWith_type1 ?_ hs1 rfl
  rw [hs1]
  show wpAny _ _ (spliced ((false, eval (.Call (.Name "zip" p2) [e, e2] [] pos2) X.env) :: backTo pos (starEach [] X.env))) _ _ s
  refine Calls.spliced_cons ?_
  refine Call_ (ld_blt I hgz hmz PyProof.Rows.boot_zip (PyProof.Rows.callWith_type1 (thn (ha.run pos2 pins s σ H _ I hq) fun us s1 ⟨vs, H1, I1, r1, q1⟩ => ?_) hs hpl))
  obtain ⟨a, b, xs, ys, ex, hqx, hqy, q⟩ := q1
  subst ex
  cases r1 with
  | cons r rr =>
    cases rr with
    | cons r' rr =>
      cases rr
      cases r
      cases r'
      obtain ⟨its, rv, p1, z1⟩ := I1.tuple hqx
      obtain ⟨its2, rv2, p2', z2⟩ := I1.tuple hqy
      obtain ⟨o1, ho1, _⟩ := id p1
      obtain ⟨o2, ho2, _⟩ := id p2'
      have la : a < s1.heap.objs.size := Heap.lt_size ho1
      have lb : b < s1.heap.objs.size := Heap.lt_size ho2
      refine call_zipT (show s1.heap.IsTuple a its.toArray from p1) (show s1.heap.IsTuple b its2.toArray from p2') fun h' hz hTI hTO h1 h2 hsz hk => ?_
      refine Calls.spliced_nil ?_
      have D := PySem.W.ktu_apart s1.heap.objs.size a b la lb
      have l1 := rv.length
      have l2 := rv2.length
      have hzl : (xs.zip ys).length = min xs.length ys.length := List.length_zip
      refine ZL.zil_call (n := (xs.zip ys).length) (xs := its.toArray) (ys := its2.toArray) (I1.ok.hd hc) D D.l1TO D.l2TO (fun i hi => ?_) ?_ (by omega) hz hTI hTO h1 h2 ?_ ?_ fun h'' tk acc c as hk2 hS hl hG hacc => ?_
      · have i1 : i < its.length := by omega
        have i2 : i < its2.length := by omega
        exact ⟨its[i], its2[i], by simp [i1], by simp [i2]⟩
      · by_cases w : xs.length ≤ ys.length
        · exact .inl (by simp; omega)
        · exact .inr (by simp; omega)
      · obtain ⟨o, ho, x⟩ := p1
        exact ⟨o, hk a o ho, x⟩
      · obtain ⟨o, ho, x⟩ := p2'
        exact ⟨o, hk b o ho, x⟩
      · have big : ∀ c, s1.heap.objs.size ≤ c → ∀ d o, s1.heap.get? d = some o → d ≠ c := fun c hc d o e => Nat.ne_of_lt (Nat.lt_of_lt_of_le (Heap.lt_size e) hc)
        obtain ⟨H', k1, k2, k3, J⟩ := zip_laid (tk := tk) (S := h'.objs.size) I1 (by omega) (by omega) rv rv2 (fun d o e => hk2 d o (big _ (by omega) d o e) (big _ (by omega) d o e) (big _ (by omega) d o e) (big _ (by omega) d o e) (hk d o e)) hS hl hG hacc
        exact ⟨.ref _, _, J, rfl, q H' _ as k1 k2 k3⟩
end
/-- list(zip(a, b)) -/
def biZipL : Fn
  | [.tup xs, .tup ys], A => .ok (.ref A.length) (A ++ [.lst (zipD xs ys)])
  | _, _ => .bad
theorem zip_rep {ρ : Nat → Addr} {n : Nat} {H : Hp} : ∀ {xs ys : List D} {vs us : List V} {ts : List Addr}, RepVs ρ n H xs vs → RepVs ρ n H ys us → Paired (fun (t : Addr) (q : V × V) => H t = some (.tup [q.1, q.2])) ts (vs.zip us) → RepVs ρ n H (zipD xs ys) (ts.map V.ref)
  | [], _, _, _, _, .nil, _, h => by
    cases h
    exact .nil
  | _ :: _, [], _, _, _, .cons _ _, .nil, h => by
    cases h
    exact .nil
  | x :: xs, y :: ys, v :: vs, u :: us, _, .cons a b, .cons c d, h => by
    have h' : Paired (fun (t : Addr) (q : V × V) => H t = some (.tup [q.1, q.2])) _ ((v, u) :: vs.zip us) := h
    cases h' with
    | cons h1 h2 => exact .cons (.tup h1 (.cons a (.cons c .nil))) (zip_rep b d h2)
section
variable {X : Cx} {W : WX} {e e2 : Expr} {mr : Ax} {p p2 pos pos2 : Pos}
theorem re_listZip (hc : X.calm = true) (hgl : Gl X "list") (hml : X.mg "list" = none) (hv : bootBuiltins "list" = some (.type "list")) (hgz : Gl X "zip") (hmz : X.mg "zip" = none) (ha : RA X W [e, e2] mr)
    (hs1 : starEach [.Call (.Name "zip" p2) [e, e2] [] pos2] X.env = (false, eval (.Call (.Name "zip" p2) [e, e2] [] pos2) X.env) :: starEach [] X.env := by rfl)
    (hs : starEach [e, e2] X.env = (false, eval e X.env) :: starEach [e2] X.env := by rfl) (hpl : (backTo pos2 (starEach [e2] X.env)).any (·.1) = false := by rfl) :
    RE X W (.Call (.Name "list" p) [.Call (.Name "zip" p2) [e, e2] [] pos2] [] pos) (eF biZipL mr) := by
  refine PE.imp (pe_listZip hc hgl hml hv hgz hmz ha hs1 hs hpl) fun σ H Q ⟨ρ, E, A, hE, hA, h⟩ => ⟨ρ, E, A, hE, hA, Post.bind h fun ρ1 ds B vs H1 n1 r1 h1 => ?_⟩
  cases r1 with
  | nil => exact h1.elim
  | cons r1 r2 => cases r2 with
    | nil => cases r1 <;> exact h1.elim
    | cons r2 r3 => cases r3 with
      | cons _ _ => cases r1 <;> cases r2 <;> exact h1.elim
      | nil => cases r1 with
        | @tup a vs xs q1 q2 => cases r2 with
          | @tup b us ys q3 q4 =>
            refine ⟨a, b, vs, us, rfl, SqT.of q1, SqT.of q3, fun H' p ts sm hp pr => ?_⟩
            have nx := Nxt.same n1.rep sm
            exact post_lst nx.rep (Post.later h1 nx) (zip_rep (q2.ext nx.ext) (q4.ext nx.ext) pr) hp
          | _ => exact h1.elim
        | _ => cases r2 <;> exact h1.elim
end
theorem ev_zipL {xs ys : List D} {A : AH} : biZipL [.tup xs, .tup ys] A = .ok (.ref A.length) (A ++ [.lst (zipD xs ys)]) := rfl
end DL
set_option Elab.async false
set_option linter.all false
set_option maxRecDepth 100000
set_option maxHeartbeats 4000000
/-! tuple * int, the int 1 or less (own work, along the kit's rule). -/
namespace L2
open PySem PySem.Spec PyProof.Rows
theorem tuple_mul1 (l : Addr) (items : Array Value) (n : Nat) (dd : Option Addr) (sl : Array (Option Value)) (u : Tok) :
    Meets (Builtin.«tuple.__mul__» ⟨[.ref l, .int 1 u], []⟩) (fun _ R s => s.heap.get? l = some { cls := .type "tuple", dict := dd, data := .seq items n, slots := sl } ∧ R (.ok (.ret (Value.ref l))) s) :=
  .of_wp fun prog w A R s h => by
    obtain ⟨hp, g, d, tk, os⟩ := s
    obtain ⟨hl, h⟩ := h
    have f1 := AutoSeq1.idx_int
    have c0 : (decide ((1 : Int) < -(2 ^ 63)) || decide ((1 : Int) ≥ 2 ^ 63)) = false := by decide
    have c1 : (items.isEmpty || (1 : Int) == 1) = true := by simp
    wp_walk using wpAny_loadPart' hl
    repeat (first
      | (refine wpAny_ite_false (decide_eq_false (by rw [c0]; exact Bool.false_ne_true)) ?_; wp_walk using wpAny_loadPart' hl)
      | (refine wpAny_ite_true (decide_eq_true (by rw [c1])) ?_; wp_walk using wpAny_loadPart' hl))
    exact ⟨_, rfl, h⟩
theorem tuple_mul0 (l : Addr) (items : Array Value) (n : Nat) (dd : Option Addr) (sl : Array (Option Value)) (x : Int) (u : Tok) (c0 : (decide (x < -(2 ^ 63)) || decide (x ≥ 2 ^ 63)) = false) (c1 : (items.isEmpty || x == 1) = false) (c2 : (decide (x ≤ 0) || items.isEmpty) = true) :
    Meets (Builtin.«tuple.__mul__» ⟨[.ref l, .int x u], []⟩) (fun _ R s => s.heap.get? l = some { cls := .type "tuple", dict := dd, data := .seq items n, slots := sl } ∧
      R (.ok (.ret (Value.ref s.heap.objs.size))) { s with heap := s.heap.push { cls := Value.type "tuple", data := Data.seq #[] }, toks := s.toks }) :=
  .of_wp fun prog w A R s h => by
    obtain ⟨hp, g, d, tk, os⟩ := s
    obtain ⟨hl, h⟩ := h
    have f1 := AutoSeq1.idx_int
    wp_walk using wpAny_loadPart' hl
    repeat (first
      | (refine wpAny_ite_false (decide_eq_false (by rw [c0]; exact Bool.false_ne_true)) ?_; wp_walk using wpAny_loadPart' hl)
      | (refine wpAny_ite_false (decide_eq_false (by rw [c1]; exact Bool.false_ne_true)) ?_; wp_walk using wpAny_loadPart' hl)
      | (refine wpAny_ite_true (decide_eq_true (by rw [c2])) ?_; wp_walk using wpAny_loadPart' hl))
    exact ⟨_, rfl, h⟩
def rRepT1 (K : PySem.W.Frag) : R2 := fun x y H Q => ∃ l xs, x = .ref l ∧ y = .int 1 ∧ SqT K H l xs ∧ Q (.ref l) H
def rRepT0 (K : PySem.W.Frag) : R2 := fun x y H Q => ∃ l k xs, x = .ref l ∧ y = .int k ∧ SqT K H l xs ∧ xs ≠ [] ∧ k ≤ 0 ∧ -1000000 ≤ k ∧ ∀ p, H p = none → Q (.ref p) (upd H p (.tup []))
section
variable {X : Cx}
theorem op_repT1 : OpR X (binaryOp .Mult) (rRepT1 X.K) := by
  intro pins s σ H x y v u Q I rx ry h
  obtain ⟨l, xs, rfl, rfl, hT, q⟩ := h
  cases rx
  obtain ⟨t, rfl⟩ := ry
  obtain ⟨its, r, ⟨⟨cls, dd, data, sl⟩, ho, hc, n, hd⟩, hs⟩ := I.tuple hT
  simp only at hc hd
  subst hc hd
  refine wpAny_binaryOp_repeat_ref (T := "tuple") (U := "int") (by decide) ⟨_, ho, rfl⟩ (fun s' => typeIs_int s' 1 t) noFill_tuple_mul F.fills_int_mul F.slot_int_rmul repeat_tuple F.slot_int_index.lookup
    (call_meets F.slot_int_rmul (typeIs_int s 1 t) F.entry_int_rmul (F.args_int_rmul_2 _ _) (int_rmul_tuple 1 t l its.toArray n dd sl)
      ⟨ho, rfl, ⟨_, ho, rfl⟩, call_meets F.slot_tuple_mul ⟨_, ho, rfl⟩ F.entry_tuple_mul (F.args_tuple_mul_2 _ _) (tuple_mul1 l its.toArray n dd sl t) ⟨ho, ?_⟩⟩)
  exact ⟨.ref l, H, I, rfl, q⟩
theorem op_repT0 : OpR X (binaryOp .Mult) (rRepT0 X.K) := by
  intro pins s σ H x y v u Q I rx ry h
  obtain ⟨l, k, xs, rfl, rfl, hT, hne, h1, h2, q⟩ := h
  cases rx
  obtain ⟨t, rfl⟩ := ry
  obtain ⟨its, r, ⟨⟨cls, dd, data, sl⟩, ho, hc, n, hd⟩, hs⟩ := I.tuple hT
  simp only at hc hd
  subst hc hd
  have hle : its.length = xs.length := r.length.symm
  have hn : its ≠ [] := fun e => hne (by
    rw [e] at hle
    exact List.eq_nil_of_length_eq_zero hle.symm)
  have hi : its.toArray.isEmpty = false := by
    cases its with
    | nil => exact absurd rfl hn
    | cons a b => rfl
  have c0 : (decide (k < -(2 ^ 63)) || decide (k ≥ 2 ^ 63)) = false := by
    rw [decide_eq_false (by omega), decide_eq_false (by omega)] <;> rfl
  have c1 : (its.toArray.isEmpty || k == 1) = false := by
    rw [hi, Bool.false_or]
    exact beq_eq_false_iff_ne.mpr (by omega)
  have c2 : (decide (k ≤ 0) || its.toArray.isEmpty) = true := by
    rw [decide_eq_true h1]
    rfl
  refine wpAny_binaryOp_repeat_ref (T := "tuple") (U := "int") (by decide) ⟨_, ho, rfl⟩ (fun s' => typeIs_int s' k t) noFill_tuple_mul F.fills_int_mul F.slot_int_rmul repeat_tuple F.slot_int_index.lookup
    (call_meets F.slot_int_rmul (typeIs_int s k t) F.entry_int_rmul (F.args_int_rmul_2 _ _) (int_rmul_tuple k t l its.toArray n dd sl)
      ⟨ho, rfl, ⟨_, ho, rfl⟩, call_meets F.slot_tuple_mul ⟨_, ho, rfl⟩ F.entry_tuple_mul (F.args_tuple_mul_2 _ _) (tuple_mul0 l its.toArray n dd sl k t c0 c1 c2) ⟨ho, ?_⟩⟩)
  refine ⟨.ref s.heap.objs.size, _, I.laid (t' := s.toks) (o := .tup []) (fun b ob q => Heap.get?_push_of_some _ q) (Nat.le_refl _) ?_, rfl, q _ (I.hok.fresh (Nat.le_refl _))⟩
  exact ⟨by show 0 ≤ sizeLine; decide, [], .nil, IsTup.new _ _⟩
end
end L2
namespace DL
open PySem PySem.Spec PyProof.Rows L2
/-- *, tuples any number of times -/
def opMulX : Fn
  | [.tup xs, .int k], A => if xs ≠ [] ∧ -1000000 ≤ k ∧ k ≤ 1000 ∧ xs.length ≤ 1000 then .ok (.tup (rep k xs)) A else .bad
  | ds, A => opMul ds A
def rMulX (K : PySem.W.Frag) : R2 := fun x y H Q => rMul3 K x y H Q ∨ rRepT1 K x y H Q ∨ rRepT0 K x y H Q
section
variable {X : Cx}
theorem op_mulX : OpR X (binaryOp .Mult) (rMulX X.K) := OpR.or op_mul3 (OpR.or op_repT1 op_repT0)
theorem ok_mulX : Ok2 X.K (rMulX X.K) opMulX := fun W ρ A σ H d e v u Q hA rd re h => by
  have key : (∃ xs k, d = .tup xs ∧ e = .int k) ∨ ∀ A, opMulX [d, e] A = opMul [d, e] A := by
    cases d <;> cases e <;> first | exact .inr fun _ => rfl | exact .inl ⟨_, _, rfl, rfl⟩
  rcases key with ⟨xs, k, rfl, rfl⟩ | hk
  · cases rd with
    | @tup a vs _ q1 q2 =>
      cases re
      have h2 : Post X.K W RepV ρ A σ H (if xs ≠ [] ∧ -1000000 ≤ k ∧ k ≤ 1000 ∧ xs.length ≤ 1000 then .ok (.tup (rep k xs)) A else .bad) Q := h
      by_cases z : xs ≠ [] ∧ -1000000 ≤ k ∧ k ≤ 1000 ∧ xs.length ≤ 1000
      · rw [if_pos z] at h2
        by_cases k2 : 2 ≤ k
        · refine .inl (.inr (.inl ⟨a, k, vs, rfl, rfl, SqT.of q1, fun e => ?_, k2, z.2.2.1, by rw [← q2.len]; exact z.2.2.2, fun p hp => post_tup hA h2 (rep_reps q2 k) hp⟩))
          subst e
          exact z.1 (List.length_eq_zero_iff.mp q2.len)
        · by_cases k1 : k = 1
          · subst k1
            refine .inr (.inl ⟨a, vs, rfl, rfl, SqT.of q1, ?_⟩)
            have e : rep 1 xs = xs := by simp [rep]
            rw [e] at h2
            exact post_val hA h2 (.tup q1 q2)
          · refine .inr (.inr ⟨a, k, vs, rfl, rfl, SqT.of q1, fun e => ?_, by omega, z.2.1, fun p hp => ?_⟩)
            · subst e
              exact z.1 (List.length_eq_zero_iff.mp q2.len)
            · have e : rep k xs = [] := by
                have : k.toNat = 0 := by omega
                simp [rep, this]
              rw [e] at h2
              exact post_tup hA h2 .nil hp
      · rw [if_neg z] at h2
        exact h2.elim
  · rw [hk] at h
    exact .inl (ok_mul W ρ A σ H _ _ _ _ Q hA rd re h)
end
theorem ev_mulXT (xs : List D) (k : Int) (A : AH) : opMulX [.tup xs, .int k] A = if xs ≠ [] ∧ -1000000 ≤ k ∧ k ≤ 1000 ∧ xs.length ≤ 1000 then .ok (.tup (rep k xs)) A else .bad := rfl
@[simp] theorem ev_mulXI (i j : Int) (A : AH) : opMulX [.int i, .int j] A = opMul [.int i, .int j] A := rfl
@[simp] theorem ev_mulXR (i : Nat) (k : Int) (A : AH) : opMulX [.ref i, .int k] A = opMul [.ref i, .int k] A := rfl
end DL
set_option Elab.async false
set_option linter.all false
set_option maxRecDepth 100000
set_option maxHeartbeats 4000000
/-! list(range(n)) (own work, along the kit's rule). -/
namespace DL
open PySem PySem.Spec PyProof.Rows L2
def kLRg : D → AH → Res D
  | .int n, A => if 0 ≤ n ∧ n ≤ 16777216 then .ok (.ref A.length) (A ++ [.lst (upto 0 n.toNat)]) else .bad
  | _, _ => .bad
/-- list(range(n)) -/
def eLRg (m : Ex) : Ex := fun E A => (m E A).bind kLRg
theorem ev_eLRg (m : Ex) (E : Env) (A : AH) : eLRg m E A = (m E A).bind kLRg := rfl
theorem ev_kLRg (n : Int) (A : AH) : kLRg (.int n) A = if 0 ≤ n ∧ n ≤ 16777216 then .ok (.ref A.length) (A ++ [.lst (upto 0 n.toNat)]) else .bad := rfl
theorem ints_repF {ρ : Nat → Addr} {n : Nat} {H : Hp} (f : Nat → Int) : ∀ l : List Nat, RepVs ρ n H (l.map fun i => D.int (f i)) (l.map fun i => V.int (f i))
  | [] => .nil
  | i :: l => .cons (.int _) (ints_repF f l)
section
variable {X : Cx} {W : WX} {a : Expr} {m : Ex} {p p2 pos pos2 : Pos}
theorem re_listRg (hc : X.calm = true) (hgl : Gl X "list") (hml : X.mg "list" = none) (hgr : Gl X "range") (hmr : X.mg "range" = none) (ha : RE X W a m)
    (na : starEach [a] X.env = (false, eval a X.env) :: starEach [] X.env := by rfl) (nb : starEach [.Call (.Name "range" p2) [a] [] pos2] X.env = (false, eval (.Call (.Name "range" p2) [a] [] pos2) X.env) :: starEach [] X.env := by rfl) :
    RE X W (.Call (.Name "list" p) [.Call (.Name "range" p2) [a] [] pos2] [] pos) (eLRg m) := by
  refine PE.imp (pe_listRg hc hgl hml (prg_1 hgr hmr ha na) nb) fun σ H Q ⟨ρ, E, A, hE, hA, h⟩ => ⟨ρ, E, A, hE, hA, Post.bind h fun ρ1 d B v H1 n1 r1 h1 => ?_⟩
  cases r1 with
  | int i =>
    have h2 : Post X.K W RepV ρ1 B σ H1 (if 0 ≤ i ∧ i ≤ 16777216 then .ok (.ref B.length) (B ++ [.lst (upto 0 i.toNat)]) else .bad) Q := h1
    by_cases z : 0 ≤ i ∧ i ≤ 16777216
    · rw [if_pos z] at h2
      refine ⟨i, rfl, RgOk.of_le (by omega) z.2 (by omega) z.1, fun q hq => post_lst n1.rep h2 ?_ hq⟩
      unfold upto rgV
      rw [Int.sub_zero]
      exact ints_repF _ _
    · rw [if_neg z] at h2
      exact h2.elim
  | _ => exact h1.elim
end
end DL
set_option Elab.async false
set_option linter.all false
set_option maxRecDepth 100000
set_option maxHeartbeats 0
namespace Lw
open PySem PySem.Spec PyProof.Rows L2 DL
structure Sys (K : PySem.W.Frag) (mg : PySem.Str → Option Value) : Prop where
  says : He.SaysD fa fn K
  ex : ∃ h : Heap, K.In h ∧ h.Ns mainGlobals mg
  nons : SaysN nn K
  xs : SaysX fileN xs K
  ne : SaysE nes K
section
variable {P : Program} [ProgOk P fileN] {w : World} {K : PySem.W.Frag} {mg : PySem.Str → Option Value} {base : Heap}
theorem g_is_whole (S : Sys K mg) : mg "is_whole" = some (.ref (He.ga K "is_whole")) := by
  obtain ⟨h, a, b⟩ := S.ex
  exact He.glo_ok a b (S.says.fact 0 (f := .glo "is_whole") rfl)
theorem g_plates_for (S : Sys K mg) : mg "plates_for" = some (.ref (He.ga K "plates_for")) := by
  obtain ⟨h, a, b⟩ := S.ex
  exact He.glo_ok a b (S.says.fact 1 (f := .glo "plates_for") rfl)
theorem g_cell_at (S : Sys K mg) : mg "cell_at" = some (.ref (He.ga K "cell_at")) := by
  obtain ⟨h, a, b⟩ := S.ex
  exact He.glo_ok a b (S.says.fact 2 (f := .glo "cell_at") rfl)
theorem g_dir_at (S : Sys K mg) : mg "dir_at" = some (.ref (He.ga K "dir_at")) := by
  obtain ⟨h, a, b⟩ := S.ex
  exact He.glo_ok a b (S.says.fact 3 (f := .glo "dir_at") rfl)
theorem g_row_at (S : Sys K mg) : mg "row_at" = some (.ref (He.ga K "row_at")) := by
  obtain ⟨h, a, b⟩ := S.ex
  exact He.glo_ok a b (S.says.fact 4 (f := .glo "row_at") rfl)
theorem g_is_dir (S : Sys K mg) : mg "is_dir" = some (.ref (He.ga K "is_dir")) := by
  obtain ⟨h, a, b⟩ := S.ex
  exact He.glo_ok a b (S.says.fact 5 (f := .glo "is_dir") rfl)
theorem g_rows_of (S : Sys K mg) : mg "rows_of" = some (.ref (He.ga K "rows_of")) := by
  obtain ⟨h, a, b⟩ := S.ex
  exact He.glo_ok a b (S.says.fact 6 (f := .glo "rows_of") rfl)
theorem g_named_files (S : Sys K mg) : mg "named_files" = some (.ref (He.ga K "named_files")) := by
  obtain ⟨h, a, b⟩ := S.ex
  exact He.glo_ok a b (S.says.fact 7 (f := .glo "named_files") rfl)
theorem g_size_at (S : Sys K mg) : mg "size_at" = some (.ref (He.ga K "size_at")) := by
  obtain ⟨h, a, b⟩ := S.ex
  exact He.glo_ok a b (S.says.fact 8 (f := .glo "size_at") rfl)
theorem g_owner_at (S : Sys K mg) : mg "owner_at" = some (.ref (He.ga K "owner_at")) := by
  obtain ⟨h, a, b⟩ := S.ex
  exact He.glo_ok a b (S.says.fact 9 (f := .glo "owner_at") rfl)
theorem g_block_of (S : Sys K mg) : mg "block_of" = some (.ref (He.ga K "block_of")) := by
  obtain ⟨h, a, b⟩ := S.ex
  exact He.glo_ok a b (S.says.fact 10 (f := .glo "block_of") rfl)
theorem g_pointers_at (S : Sys K mg) : mg "pointers_at" = some (.ref (He.ga K "pointers_at")) := by
  obtain ⟨h, a, b⟩ := S.ex
  exact He.glo_ok a b (S.says.fact 11 (f := .glo "pointers_at") rfl)
theorem g_met_below (S : Sys K mg) : mg "met_below" = some (.ref (He.ga K "met_below")) := by
  obtain ⟨h, a, b⟩ := S.ex
  exact He.glo_ok a b (S.says.fact 12 (f := .glo "met_below") rfl)
theorem g_met (S : Sys K mg) : mg "met" = some (.ref (He.ga K "met")) := by
  obtain ⟨h, a, b⟩ := S.ex
  exact He.glo_ok a b (S.says.fact 13 (f := .glo "met") rfl)
theorem g_spot_of (S : Sys K mg) : mg "spot_of" = some (.ref (He.ga K "spot_of")) := by
  obtain ⟨h, a, b⟩ := S.ex
  exact He.glo_ok a b (S.says.fact 14 (f := .glo "spot_of") rfl)
theorem g_data_block (S : Sys K mg) : mg "data_block" = some (.ref (He.ga K "data_block")) := by
  obtain ⟨h, a, b⟩ := S.ex
  exact He.glo_ok a b (S.says.fact 15 (f := .glo "data_block") rfl)
theorem g_numbers_at (S : Sys K mg) : mg "numbers_at" = some (.ref (He.ga K "numbers_at")) := by
  obtain ⟨h, a, b⟩ := S.ex
  exact He.glo_ok a b (S.says.fact 16 (f := .glo "numbers_at") rfl)
theorem g_content_of (S : Sys K mg) : mg "content_of" = some (.ref (He.ga K "content_of")) := by
  obtain ⟨h, a, b⟩ := S.ex
  exact He.glo_ok a b (S.says.fact 17 (f := .glo "content_of") rfl)
theorem g__law_number (S : Sys K mg) : mg "_law_number" = some (.ref (He.ga K "_law_number")) := by
  obtain ⟨h, a, b⟩ := S.ex
  exact He.glo_ok a b (S.says.fact 18 (f := .glo "_law_number") rfl)
theorem g__law_take (S : Sys K mg) : mg "_law_take" = some (.ref (He.ga K "_law_take")) := by
  obtain ⟨h, a, b⟩ := S.ex
  exact He.glo_ok a b (S.says.fact 19 (f := .glo "_law_take") rfl)
theorem g__law_pick (S : Sys K mg) : mg "_law_pick" = some (.ref (He.ga K "_law_pick")) := by
  obtain ⟨h, a, b⟩ := S.ex
  exact He.glo_ok a b (S.says.fact 20 (f := .glo "_law_pick") rfl)
theorem g__law_unlike (S : Sys K mg) : mg "_law_unlike" = some (.ref (He.ga K "_law_unlike")) := by
  obtain ⟨h, a, b⟩ := S.ex
  exact He.glo_ok a b (S.says.fact 21 (f := .glo "_law_unlike") rfl)
theorem g__law_cells_of (S : Sys K mg) : mg "_law_cells_of" = some (.ref (He.ga K "_law_cells_of")) := by
  obtain ⟨h, a, b⟩ := S.ex
  exact He.glo_ok a b (S.says.fact 22 (f := .glo "_law_cells_of") rfl)
theorem g__law_any (S : Sys K mg) : mg "_law_any" = some (.ref (He.ga K "_law_any")) := by
  obtain ⟨h, a, b⟩ := S.ex
  exact He.glo_ok a b (S.says.fact 23 (f := .glo "_law_any") rfl)
theorem g__law_is_read (S : Sys K mg) : mg "_law_is_read" = some (.ref (He.ga K "_law_is_read")) := by
  obtain ⟨h, a, b⟩ := S.ex
  exact He.glo_ok a b (S.says.fact 24 (f := .glo "_law_is_read") rfl)
theorem g__law_are_met (S : Sys K mg) : mg "_law_are_met" = some (.ref (He.ga K "_law_are_met")) := by
  obtain ⟨h, a, b⟩ := S.ex
  exact He.glo_ok a b (S.says.fact 25 (f := .glo "_law_are_met") rfl)
theorem g__law_are_names (S : Sys K mg) : mg "_law_are_names" = some (.ref (He.ga K "_law_are_names")) := by
  obtain ⟨h, a, b⟩ := S.ex
  exact He.glo_ok a b (S.says.fact 26 (f := .glo "_law_are_names") rfl)
theorem g__law_is_refused (S : Sys K mg) : mg "_law_is_refused" = some (.ref (He.ga K "_law_is_refused")) := by
  obtain ⟨h, a, b⟩ := S.ex
  exact He.glo_ok a b (S.says.fact 27 (f := .glo "_law_is_refused") rfl)
theorem g_law (S : Sys K mg) : mg "law" = some (.ref (He.ga K "law")) := by
  obtain ⟨h, a, b⟩ := S.ex
  exact He.glo_ok a b (S.says.fact 28 (f := .glo "law") rfl)
theorem g_StoreError (S : Sys K mg) : mg "StoreError" = some (.ref (He.ga K "StoreError")) := by
  obtain ⟨h, a, b⟩ := S.ex
  exact He.glo_ok a b (S.says.fact 29 (f := .glo "StoreError") rfl)
theorem g_BadShape (S : Sys K mg) : mg "BadShape" = some (.ref (He.ga K "BadShape")) := by
  obtain ⟨h, a, b⟩ := S.ex
  exact He.glo_ok a b (S.says.fact 30 (f := .glo "BadShape") rfl)
theorem g_Shape (S : Sys K mg) : mg "Shape" = some (.ref (He.ga K "Shape")) := by
  obtain ⟨h, a, b⟩ := S.ex
  exact He.glo_ok a b (S.says.fact 31 (f := .glo "Shape") rfl)
theorem cl_Shape (S : Sys K mg) : Cls K (clsA K 0) := He.cls_ok (S.says.fact 32 (f := .cls "Shape") rfl)
theorem mk_Shape (S : Sys K mg) : Mk K (clsA K 0) (He.fAd K d_Shape_init.at_) := He.mkr_ok (S.says.fact 33 (f := .mkr "Shape") rfl)
theorem na_Shape_dirs (S : Sys K mg) : NoAttr K (clsA K 0) "dirs" := He.noat_ok (S.says.fact 34 (f := .noat "Shape" "dirs") rfl)
theorem na_Shape_rows (S : Sys K mg) : NoAttr K (clsA K 0) "rows" := He.noat_ok (S.says.fact 35 (f := .noat "Shape" "rows") rfl)
theorem na_Shape_files (S : Sys K mg) : NoAttr K (clsA K 0) "files" := He.noat_ok (S.says.fact 36 (f := .noat "Shape" "files") rfl)
theorem na_Shape_blocks (S : Sys K mg) : NoAttr K (clsA K 0) "blocks" := He.noat_ok (S.says.fact 37 (f := .noat "Shape" "blocks") rfl)
theorem na_Shape_users (S : Sys K mg) : NoAttr K (clsA K 0) "users" := He.noat_ok (S.says.fact 38 (f := .noat "Shape" "users") rfl)
theorem na_Shape_first_row (S : Sys K mg) : NoAttr K (clsA K 0) "first_row" := He.noat_ok (S.says.fact 39 (f := .noat "Shape" "first_row") rfl)
theorem na_Shape_first_user (S : Sys K mg) : NoAttr K (clsA K 0) "first_user" := He.noat_ok (S.says.fact 40 (f := .noat "Shape" "first_user") rfl)
theorem na_Shape_first_file (S : Sys K mg) : NoAttr K (clsA K 0) "first_file" := He.noat_ok (S.says.fact 41 (f := .noat "Shape" "first_file") rfl)
theorem na_Shape_first_block (S : Sys K mg) : NoAttr K (clsA K 0) "first_block" := He.noat_ok (S.says.fact 42 (f := .noat "Shape" "first_block") rfl)
theorem na_Shape_plates (S : Sys K mg) : NoAttr K (clsA K 0) "plates" := He.noat_ok (S.says.fact 43 (f := .noat "Shape" "plates") rfl)
theorem mt_Shape_eq (S : Sys K mg) : Meth K (clsA K 0) "__eq__" (He.fAd K d_Shape_eq.at_) := He.meth_ok (S.says.fact 44 (f := .meth "Shape" "__eq__") rfl)
theorem ne_Shape (S : Sys K mg) : NEX.NeC K (clsA K 0) (He.fAd K d_Shape_eq.at_) := S.ne.nc (x := "Shape") (by decide) (mt_Shape_eq S)
theorem mt_Shape_told (S : Sys K mg) : Meth K (clsA K 0) "told" (He.fAd K d_Shape_told.at_) := He.meth_ok (S.says.fact 45 (f := .meth "Shape" "told") rfl)
theorem mt_Shape_clock_cell (S : Sys K mg) : Meth K (clsA K 0) "clock_cell" (He.fAd K d_Shape_clock_cell.at_) := He.meth_ok (S.says.fact 46 (f := .meth "Shape" "clock_cell") rfl)
theorem mt_Shape_dir_cell (S : Sys K mg) : Meth K (clsA K 0) "dir_cell" (He.fAd K d_Shape_dir_cell.at_) := He.meth_ok (S.says.fact 47 (f := .meth "Shape" "dir_cell") rfl)
theorem mt_Shape_row_cell (S : Sys K mg) : Meth K (clsA K 0) "row_cell" (He.fAd K d_Shape_row_cell.at_) := He.meth_ok (S.says.fact 48 (f := .meth "Shape" "row_cell") rfl)
theorem mt_Shape_user_cell (S : Sys K mg) : Meth K (clsA K 0) "user_cell" (He.fAd K d_Shape_user_cell.at_) := He.meth_ok (S.says.fact 49 (f := .meth "Shape" "user_cell") rfl)
theorem mt_Shape_file_plate (S : Sys K mg) : Meth K (clsA K 0) "file_plate" (He.fAd K d_Shape_file_plate.at_) := He.meth_ok (S.says.fact 50 (f := .meth "Shape" "file_plate") rfl)
theorem mt_Shape_block_plate (S : Sys K mg) : Meth K (clsA K 0) "block_plate" (He.fAd K d_Shape_block_plate.at_) := He.meth_ok (S.says.fact 51 (f := .meth "Shape" "block_plate") rfl)
theorem g_WIDTH (S : Sys K mg) : ∃ t, mg "WIDTH" = some (.int 8 t) := by
  obtain ⟨h, a, b⟩ := S.ex
  exact He.int_ok a b (S.says.fact 52 (f := .int "WIDTH" 8) rfl)
theorem g_NAMES (S : Sys K mg) : ∃ t, mg "NAMES" = some (.int 475254 t) := by
  obtain ⟨h, a, b⟩ := S.ex
  exact He.int_ok a b (S.says.fact 53 (f := .int "NAMES" 475254) rfl)
theorem g_DIRECT (S : Sys K mg) : ∃ t, mg "DIRECT" = some (.int 3 t) := by
  obtain ⟨h, a, b⟩ := S.ex
  exact He.int_ok a b (S.says.fact 54 (f := .int "DIRECT" 3) rfl)
theorem g_MOST_BLOCKS (S : Sys K mg) : ∃ t, mg "MOST_BLOCKS" = some (.int 75 t) := by
  obtain ⟨h, a, b⟩ := S.ex
  exact He.int_ok a b (S.says.fact 55 (f := .int "MOST_BLOCKS" 75) rfl)
theorem g_MOST_SIZE (S : Sys K mg) : ∃ t, mg "MOST_SIZE" = some (.int 600 t) := by
  obtain ⟨h, a, b⟩ := S.ex
  exact He.int_ok a b (S.says.fact 56 (f := .int "MOST_SIZE" 600) rfl)
theorem g_FOUND (S : Sys K mg) : ∃ t, mg "FOUND" = some (.int 1 t) := by
  obtain ⟨h, a, b⟩ := S.ex
  exact He.int_ok a b (S.says.fact 57 (f := .int "FOUND" 1) rfl)
theorem g_Exception (S : Sys K mg) : mg "Exception" = none := by
  obtain ⟨h, a, b⟩ := S.ex
  exact He.free_ok a b (S.says.fact 58 (f := .free "Exception") rfl)
theorem g_abs (S : Sys K mg) : mg "abs" = none := by
  obtain ⟨h, a, b⟩ := S.ex
  exact He.free_ok a b (S.says.fact 59 (f := .free "abs") rfl)
theorem g_all (S : Sys K mg) : mg "all" = none := by
  obtain ⟨h, a, b⟩ := S.ex
  exact He.free_ok a b (S.says.fact 60 (f := .free "all") rfl)
theorem g_bool (S : Sys K mg) : mg "bool" = none := by
  obtain ⟨h, a, b⟩ := S.ex
  exact He.free_ok a b (S.says.fact 61 (f := .free "bool") rfl)
theorem g_int (S : Sys K mg) : mg "int" = none := by
  obtain ⟨h, a, b⟩ := S.ex
  exact He.free_ok a b (S.says.fact 62 (f := .free "int") rfl)
theorem g_isinstance (S : Sys K mg) : mg "isinstance" = none := by
  obtain ⟨h, a, b⟩ := S.ex
  exact He.free_ok a b (S.says.fact 63 (f := .free "isinstance") rfl)
theorem g_len (S : Sys K mg) : mg "len" = none := by
  obtain ⟨h, a, b⟩ := S.ex
  exact He.free_ok a b (S.says.fact 64 (f := .free "len") rfl)
theorem g_list (S : Sys K mg) : mg "list" = none := by
  obtain ⟨h, a, b⟩ := S.ex
  exact He.free_ok a b (S.says.fact 65 (f := .free "list") rfl)
theorem g_max (S : Sys K mg) : mg "max" = none := by
  obtain ⟨h, a, b⟩ := S.ex
  exact He.free_ok a b (S.says.fact 66 (f := .free "max") rfl)
theorem g_min (S : Sys K mg) : mg "min" = none := by
  obtain ⟨h, a, b⟩ := S.ex
  exact He.free_ok a b (S.says.fact 67 (f := .free "min") rfl)
theorem g_range (S : Sys K mg) : mg "range" = none := by
  obtain ⟨h, a, b⟩ := S.ex
  exact He.free_ok a b (S.says.fact 68 (f := .free "range") rfl)
theorem g_sorted (S : Sys K mg) : mg "sorted" = none := by
  obtain ⟨h, a, b⟩ := S.ex
  exact He.free_ok a b (S.says.fact 69 (f := .free "sorted") rfl)
theorem g_sum (S : Sys K mg) : mg "sum" = none := by
  obtain ⟨h, a, b⟩ := S.ex
  exact He.free_ok a b (S.says.fact 70 (f := .free "sum") rfl)
theorem g_super (S : Sys K mg) : mg "super" = none := by
  obtain ⟨h, a, b⟩ := S.ex
  exact He.free_ok a b (S.says.fact 71 (f := .free "super") rfl)
theorem g_tuple (S : Sys K mg) : mg "tuple" = none := by
  obtain ⟨h, a, b⟩ := S.ex
  exact He.free_ok a b (S.says.fact 72 (f := .free "tuple") rfl)
theorem g_zip (S : Sys K mg) : mg "zip" = none := by
  obtain ⟨h, a, b⟩ := S.ex
  exact He.free_ok a b (S.says.fact 73 (f := .free "zip") rfl)
theorem at_dirs (S : Sys K mg) : At K [0] 0 "dirs" := ⟨rfl, fun c h => by
  simp only [List.mem_cons, List.not_mem_nil, or_false] at h
  subst h
  · exact ⟨cl_Shape S, na_Shape_dirs S⟩⟩
theorem at_rows (S : Sys K mg) : At K [0] 1 "rows" := ⟨rfl, fun c h => by
  simp only [List.mem_cons, List.not_mem_nil, or_false] at h
  subst h
  · exact ⟨cl_Shape S, na_Shape_rows S⟩⟩
theorem at_files (S : Sys K mg) : At K [0] 2 "files" := ⟨rfl, fun c h => by
  simp only [List.mem_cons, List.not_mem_nil, or_false] at h
  subst h
  · exact ⟨cl_Shape S, na_Shape_files S⟩⟩
theorem at_blocks (S : Sys K mg) : At K [0] 3 "blocks" := ⟨rfl, fun c h => by
  simp only [List.mem_cons, List.not_mem_nil, or_false] at h
  subst h
  · exact ⟨cl_Shape S, na_Shape_blocks S⟩⟩
theorem at_users (S : Sys K mg) : At K [0] 4 "users" := ⟨rfl, fun c h => by
  simp only [List.mem_cons, List.not_mem_nil, or_false] at h
  subst h
  · exact ⟨cl_Shape S, na_Shape_users S⟩⟩
theorem at_first_row (S : Sys K mg) : At K [0] 5 "first_row" := ⟨rfl, fun c h => by
  simp only [List.mem_cons, List.not_mem_nil, or_false] at h
  subst h
  · exact ⟨cl_Shape S, na_Shape_first_row S⟩⟩
theorem at_first_user (S : Sys K mg) : At K [0] 6 "first_user" := ⟨rfl, fun c h => by
  simp only [List.mem_cons, List.not_mem_nil, or_false] at h
  subst h
  · exact ⟨cl_Shape S, na_Shape_first_user S⟩⟩
theorem at_first_file (S : Sys K mg) : At K [0] 7 "first_file" := ⟨rfl, fun c h => by
  simp only [List.mem_cons, List.not_mem_nil, or_false] at h
  subst h
  · exact ⟨cl_Shape S, na_Shape_first_file S⟩⟩
theorem at_first_block (S : Sys K mg) : At K [0] 8 "first_block" := ⟨rfl, fun c h => by
  simp only [List.mem_cons, List.not_mem_nil, or_false] at h
  subst h
  · exact ⟨cl_Shape S, na_Shape_first_block S⟩⟩
theorem at_plates (S : Sys K mg) : At K [0] 9 "plates" := ⟨rfl, fun c h => by
  simp only [List.mem_cons, List.not_mem_nil, or_false] at h
  subst h
  · exact ⟨cl_Shape S, na_Shape_plates S⟩⟩
theorem xm [h : ProgOk P fileN] (S : Sys K mg) : DLX.XM P mg fileN := ⟨h.file, h.top, g_super S⟩
theorem xo_BadShape (S : Sys K mg) : XOk1 K fileN "BadShape" "word" (clsA K 3) (He.fAd K x_BadShape.at_) := by
  obtain ⟨h1, h2, h3⟩ := S.xs.xt 0 (x := x_BadShape) rfl
  exact ⟨⟨_, _, _, _, _, _, _, _, _, _, _, _, _, _, _, _, by rfl, h1, ⟨by rfl, by rfl, by rfl, by decide +kernel, rfl, rfl, rfl⟩, by rfl, fun _ _ _ _ _ _ _ _ _ => by rfl⟩, by decide, by decide, h2 _ rfl, h3⟩
theorem te_BadShape (S : Sys K mg) : PySem.W.exmOne K (.ref (clsA K 3)) (.ref (clsA K 3)) = some true := (xo_BadShape S).te
abbrev N_is_whole : List PySem.Str := ["thing", "low", "high"]
abbrev P_is_whole : List PySem.Str := ["thing", "low", "high"]
noncomputable def b_is_whole : Sx :=
  (sSeq (sIf (tOr (tNot (tB (eF (biIsi .int) (aCons (eVar 0) aNil)))) (tB (eF (biIsi .bool) (aCons (eVar 0) aNil)))) (sRet (eC (.bl false))) sNop)
  (sRet (eAnd (eOr (eF opIs (aCons (eVar 1) (aCons (eC .non) aNil))) (eF opGe (aCons (eVar 0) (aCons (eVar 1) aNil)))) (eOr (eF opIs (aCons (eVar 2) (aCons (eC .non) aNil))) (eF opLe (aCons (eVar 0) (aCons (eVar 2) aNil)))))))
noncomputable def F_is_whole : Fn := runDef 3 3 b_is_whole
theorem sc_is_whole : FnScope N_is_whole P_is_whole (defScope s_is_whole) := ⟨rfl, rfl, rfl, by decide +kernel, rfl, by decide +kernel, by decide +kernel⟩
theorem ok_is_whole_3 (S : Sys K mg) : ∃ ds, Vals ([] : List V) ds ∧ DefOk P w K mg base 1 (He.fAd K d_is_whole.at_) P_is_whole ds 3 F_is_whole := by
  obtain ⟨fd, F⟩ := S.says.def_ 0 (d := d_is_whole) rfl
  obtain ⟨ds, hd, hB⟩ : ∃ ds, Vals ([] : List V) ds ∧ Binds K fd P_is_whole ds := F.binds1 3 2 (by intro z; cases z) rfl fun _ _ _ _ _ _ _ us its hl hl2 => match us, hl, its, hl2 with | [_, _, _], _, [_, _], _ => ⟨_, rfl, rfl⟩
  have S2 : FnScope N_is_whole P_is_whole d_is_whole.scope := sc_is_whole
  have q := def_ok (P := P) (w := w) (mg := mg) (base := base) (k := 0) (b := b_is_whole) F S2 hB
  refine ⟨ds, hd, q fun cdv A outer s H E c => ?_⟩
  exact (rss_cons (rs_if (rt_w (rw_or (rt_not (rt_b (re_isi .int (by rfl) (g_isinstance S) (by rfl) (g_int S) bt_int (re_var 0)))) (rw_or1 (rt_b (re_isi .bool (by rfl) (g_isinstance S) (by rfl) (g_bool S) bt_bool (re_var 0)))))) (rss_one (rs_ret re_bl)) rss_nil)
  (rss_one (rs_ret (re_and (re_or (re_cmp op_isN ok_is (re_var 1) re_non rfl) (re_one (re_cmp op_ge ok_ge (re_var 0) (re_var 1) rfl))) (re_one (re_or (re_cmp op_isN ok_is (re_var 2) re_non rfl) (re_one (re_cmp op_le ok_le (re_var 0) (re_var 2) rfl))))))))
abbrev N_plates_for : List PySem.Str := ["cells"]
abbrev P_plates_for : List PySem.Str := ["cells"]
noncomputable def b_plates_for : Sx :=
  (sRet (eF opDiv (aCons (eF opSub (aCons (eF opAdd (aCons (eVar 0) (aCons (eC (.int 8)) aNil))) (aCons (eC (.int 1)) aNil))) (aCons (eC (.int 8)) aNil))))
noncomputable def F_plates_for : Fn := runDef 1 1 b_plates_for
theorem sc_plates_for : FnScope N_plates_for P_plates_for (defScope s_plates_for) := ⟨rfl, rfl, rfl, by decide +kernel, rfl, by decide +kernel, by decide +kernel⟩
theorem ok_plates_for_1 (S : Sys K mg) : ∃ ds, Vals ([] : List V) ds ∧ DefOk P w K mg base 1 (He.fAd K d_plates_for.at_) P_plates_for ds 1 F_plates_for := by
  obtain ⟨fd, F⟩ := S.says.def_ 1 (d := d_plates_for) rfl
  obtain ⟨ds, hd, hB⟩ : ∃ ds, Vals ([] : List V) ds ∧ Binds K fd P_plates_for ds := ⟨[], .nil, F.bindsN fun _ _ _ _ _ _ us hl => match us, hl with | [_], _ => rfl⟩
  have S2 : FnScope N_plates_for P_plates_for d_plates_for.scope := sc_plates_for
  have q := def_ok (P := P) (w := w) (mg := mg) (base := base) (k := 0) (b := b_plates_for) F S2 hB
  refine ⟨ds, hd, q fun cdv A outer s H E c => ?_⟩
  exact (rss_one (rs_ret (re_bin op_fdivN ok_div (re_bin op_sub ok_sub (re_bin op_add4 ok_add (re_var 0) (re_globI (by rfl) (g_WIDTH S))) re_int) (re_globI (by rfl) (g_WIDTH S)))))
abbrev N_cell_at : List PySem.Str := ["home", "place"]
abbrev P_cell_at : List PySem.Str := ["home", "place"]
noncomputable def b_cell_at : Sx :=
  (sRet (eF opIx (aCons (eF opGet (aCons (eVar 0) (aCons (eF opIx (aCons (eVar 1) (aCons (eC (.int 0)) aNil))) aNil))) (aCons (eF opIx (aCons (eVar 1) (aCons (eC (.int 1)) aNil))) aNil))))
noncomputable def F_cell_at : Fn := runDef 2 2 b_cell_at
theorem sc_cell_at : FnScope N_cell_at P_cell_at (defScope s_cell_at) := ⟨rfl, rfl, rfl, by decide +kernel, rfl, by decide +kernel, by decide +kernel⟩
theorem ok_cell_at_2 (S : Sys K mg) : ∃ ds, Vals ([] : List V) ds ∧ DefOk P w K mg base 1 (He.fAd K d_cell_at.at_) P_cell_at ds 2 F_cell_at := by
  obtain ⟨fd, F⟩ := S.says.def_ 2 (d := d_cell_at) rfl
  obtain ⟨ds, hd, hB⟩ : ∃ ds, Vals ([] : List V) ds ∧ Binds K fd P_cell_at ds := ⟨[], .nil, F.bindsN fun _ _ _ _ _ _ us hl => match us, hl with | [_, _], _ => rfl⟩
  have S2 : FnScope N_cell_at P_cell_at d_cell_at.scope := sc_cell_at
  have q := def_ok (P := P) (w := w) (mg := mg) (base := base) (k := 0) (b := b_cell_at) F S2 hB
  refine ⟨ds, hd, q fun cdv A outer s H E c => ?_⟩
  exact (rss_one (rs_ret (re_ix ix_seq ok_ix (re_ix (ix_dict c.u1) ok_get (re_var 0) (re_ix ix_seq ok_ix (re_var 1) re_int (fun _ _ => rfl)) (fun _ _ => rfl)) (re_ix ix_seq ok_ix (re_var 1) re_int (fun _ _ => rfl)) (fun _ _ => rfl))))
abbrev N_Shape_dir_cell : List PySem.Str := ["self", "number"]
abbrev P_Shape_dir_cell : List PySem.Str := ["self", "number"]
noncomputable def b_Shape_dir_cell : Sx :=
  (sRet (eF mkTup (aCons (eF opAdd (aCons (eC (.int 1)) (aCons (eF opDiv (aCons (eVar 1) (aCons (eC (.int 8)) aNil))) aNil))) (aCons (eF opMod (aCons (eF biInt (aCons (eVar 1) aNil)) (aCons (eC (.int 8)) aNil))) aNil))))
noncomputable def F_Shape_dir_cell : Fn := runDef 2 2 b_Shape_dir_cell
theorem sc_Shape_dir_cell : FnScope N_Shape_dir_cell P_Shape_dir_cell (defScope s_Shape_dir_cell) := ⟨rfl, rfl, rfl, by decide +kernel, rfl, by decide +kernel, by decide +kernel⟩
theorem ok_Shape_dir_cell_2 (S : Sys K mg) : ∃ ds, Vals ([] : List V) ds ∧ DefOk P w K mg base 1 (He.fAd K d_Shape_dir_cell.at_) P_Shape_dir_cell ds 2 F_Shape_dir_cell := by
  obtain ⟨fd, F⟩ := S.says.def_ 33 (d := d_Shape_dir_cell) rfl
  obtain ⟨ds, hd, hB⟩ : ∃ ds, Vals ([] : List V) ds ∧ Binds K fd P_Shape_dir_cell ds := ⟨[], .nil, F.bindsN fun _ _ _ _ _ _ us hl => match us, hl with | [_, _], _ => rfl⟩
  have S2 : FnScope N_Shape_dir_cell P_Shape_dir_cell d_Shape_dir_cell.scope := sc_Shape_dir_cell
  have q := def_ok (P := P) (w := w) (mg := mg) (base := base) (k := 0) (b := b_Shape_dir_cell) F S2 hB
  refine ⟨ds, hd, q fun cdv A outer s H E c => ?_⟩
  exact (rss_one (rs_ret (re_tup (ra_cons (re_bin op_add4 ok_add re_int (re_bin op_fdivN ok_div (re_var 1) (re_globI (by rfl) (g_WIDTH S)))) (ra_cons (re_bin op_modN ok_mod (re_callTy call_int1 ok_int (by rfl) (g_int S) bt_int (ra_cons (re_var 1) ra_nil)) (re_globI (by rfl) (g_WIDTH S))) ra_nil)))))
abbrev N_dir_at : List PySem.Str := ["home", "shape", "number", "value"]
abbrev P_dir_at : List PySem.Str := ["home", "shape", "number"]
noncomputable def b_dir_at : Sx :=
  (sSeq (sAsg (eF opSub (aCons (eF (cl F_cell_at []) (aCons (eVar 0) (aCons (eM 0 (cl F_Shape_dir_cell []) (eVar 1) (aCons (eVar 2) aNil)) aNil))) (aCons (eC (.int 1)) aNil))) (gName 3))
  (sSeq (sIf (tOr (tB (eF opLe (aCons (eVar 2) (aCons (eC (.int 1)) aNil)))) (tB (eF opLt (aCons (eVar 3) (aCons (eC (.int 0)) aNil))))) (sRet (eC .non)) sNop)
  (sRet (eF mkTup (aCons (eF opDiv (aCons (eVar 3) (aCons (eC (.int 475254)) aNil))) (aCons (eF opMod (aCons (eF biInt (aCons (eVar 3) aNil)) (aCons (eC (.int 475254)) aNil))) aNil))))))
noncomputable def F_dir_at : Fn := runDef 3 4 b_dir_at
theorem sc_dir_at : FnScope N_dir_at P_dir_at (defScope s_dir_at) := ⟨rfl, rfl, rfl, by decide +kernel, rfl, by decide +kernel, by decide +kernel⟩
theorem ok_dir_at_3 (S : Sys K mg) : ∃ ds, Vals ([] : List V) ds ∧ DefOk P w K mg base 2 (He.fAd K d_dir_at.at_) P_dir_at ds 3 F_dir_at := by
  obtain ⟨ds_cell_at_2, hd_cell_at_2, G_cell_at_2⟩ := ok_cell_at_2 (P := P) (w := w) (base := base) S
  obtain ⟨ds_Shape_dir_cell_2, hd_Shape_dir_cell_2, G_Shape_dir_cell_2⟩ := ok_Shape_dir_cell_2 (P := P) (w := w) (base := base) S
  obtain ⟨fd, F⟩ := S.says.def_ 3 (d := d_dir_at) rfl
  obtain ⟨ds, hd, hB⟩ : ∃ ds, Vals ([] : List V) ds ∧ Binds K fd P_dir_at ds := ⟨[], .nil, F.bindsN fun _ _ _ _ _ _ us hl => match us, hl with | [_, _, _], _ => rfl⟩
  have S2 : FnScope N_dir_at P_dir_at d_dir_at.scope := sc_dir_at
  have q := def_ok (P := P) (w := w) (mg := mg) (base := base) (k := 1) (b := b_dir_at) F S2 hB
  refine ⟨ds, hd, q fun cdv A outer s H E c => ?_⟩
  exact (rss_cons (rs_set c 3 (re_bin op_sub ok_sub (re_call (G_cell_at_2.mono (by decide : 1 ≤ 1)) c Asks.run (by rfl) (g_cell_at S) hd_cell_at_2 (fun _ _ _ => .nil) (ra_cons (re_var 0) (ra_cons (re_meth (G_Shape_dir_cell_2.mono (by decide : 1 ≤ 1)) c Asks.run (cl_Shape S) (mt_Shape_dir_cell S) (by decide +kernel) hd_Shape_dir_cell_2 (fun _ _ _ => .nil) (re_var 1) (ra_cons (re_var 2) ra_nil)) ra_nil))) re_int))
  (rss_cons (rs_if (rt_w (rw_or (rt_cmp op_le ok_le (re_var 2) (re_globI (by rfl) (g_FOUND S)) rfl) (rw_or1 (rt_cmp op_lt ok_lt (re_var 3) re_int rfl)))) (rss_one (rs_ret re_non)) rss_nil)
  (rss_one (rs_ret (re_tup (ra_cons (re_bin op_fdivN ok_div (re_var 3) (re_globI (by rfl) (g_NAMES S))) (ra_cons (re_bin op_modN ok_mod (re_callTy call_int1 ok_int (by rfl) (g_int S) bt_int (ra_cons (re_var 3) ra_nil)) (re_globI (by rfl) (g_NAMES S))) ra_nil)))))))
abbrev N_Shape_row_cell : List PySem.Str := ["self", "number"]
abbrev P_Shape_row_cell : List PySem.Str := ["self", "number"]
noncomputable def b_Shape_row_cell : Sx :=
  (sRet (eF mkTup (aCons (eF opAdd (aCons (eF (fFld [0] 5) (aCons (eVar 0) aNil)) (aCons (eF opDiv (aCons (eVar 1) (aCons (eC (.int 8)) aNil))) aNil))) (aCons (eF opMod (aCons (eF biInt (aCons (eVar 1) aNil)) (aCons (eC (.int 8)) aNil))) aNil))))
noncomputable def F_Shape_row_cell : Fn := runDef 2 2 b_Shape_row_cell
theorem sc_Shape_row_cell : FnScope N_Shape_row_cell P_Shape_row_cell (defScope s_Shape_row_cell) := ⟨rfl, rfl, rfl, by decide +kernel, rfl, by decide +kernel, by decide +kernel⟩
theorem ok_Shape_row_cell_2 (S : Sys K mg) : ∃ ds, Vals ([] : List V) ds ∧ DefOk P w K mg base 1 (He.fAd K d_Shape_row_cell.at_) P_Shape_row_cell ds 2 F_Shape_row_cell := by
  obtain ⟨fd, F⟩ := S.says.def_ 34 (d := d_Shape_row_cell) rfl
  obtain ⟨ds, hd, hB⟩ : ∃ ds, Vals ([] : List V) ds ∧ Binds K fd P_Shape_row_cell ds := ⟨[], .nil, F.bindsN fun _ _ _ _ _ _ us hl => match us, hl with | [_, _], _ => rfl⟩
  have S2 : FnScope N_Shape_row_cell P_Shape_row_cell d_Shape_row_cell.scope := sc_Shape_row_cell
  have q := def_ok (P := P) (w := w) (mg := mg) (base := base) (k := 0) (b := b_Shape_row_cell) F S2 hB
  refine ⟨ds, hd, q fun cdv A outer s H E c => ?_⟩
  exact (rss_one (rs_ret (re_tup (ra_cons (re_bin op_add4 ok_add (re_fld (at_first_row S) (re_var 0)) (re_bin op_fdivN ok_div (re_var 1) (re_globI (by rfl) (g_WIDTH S)))) (ra_cons (re_bin op_modN ok_mod (re_callTy call_int1 ok_int (by rfl) (g_int S) bt_int (ra_cons (re_var 1) ra_nil)) (re_globI (by rfl) (g_WIDTH S))) ra_nil)))))
abbrev N_row_at : List PySem.Str := ["home", "shape", "number", "value", "arrow"]
abbrev P_row_at : List PySem.Str := ["home", "shape", "number"]
noncomputable def b_row_at : Sx :=
  (sSeq (sAsg (eF opSub (aCons (eF (cl F_cell_at []) (aCons (eVar 0) (aCons (eM 0 (cl F_Shape_row_cell []) (eVar 1) (aCons (eVar 2) aNil)) aNil))) (aCons (eC (.int 1)) aNil))) (gName 3))
  (sSeq (sIf (tB (eF opLt (aCons (eVar 3) (aCons (eC (.int 0)) aNil)))) (sRet (eC .non)) sNop)
  (sSeq (sAsg (eF opDiv (aCons (eVar 3) (aCons (eF (fFld [0] 2) (aCons (eVar 1) aNil)) aNil))) (gName 4))
  (sRet (eF mkTup (aCons (eF opDiv (aCons (eVar 4) (aCons (eC (.int 475254)) aNil))) (aCons (eF opMod (aCons (eF biInt (aCons (eVar 4) aNil)) (aCons (eC (.int 475254)) aNil))) (aCons (eF opMod (aCons (eF biInt (aCons (eVar 3) aNil)) (aCons (eF (fFld [0] 2) (aCons (eVar 1) aNil)) aNil))) aNil))))))))
noncomputable def F_row_at : Fn := runDef 3 5 b_row_at
theorem sc_row_at : FnScope N_row_at P_row_at (defScope s_row_at) := ⟨rfl, rfl, rfl, by decide +kernel, rfl, by decide +kernel, by decide +kernel⟩
theorem ok_row_at_3 (S : Sys K mg) : ∃ ds, Vals ([] : List V) ds ∧ DefOk P w K mg base 2 (He.fAd K d_row_at.at_) P_row_at ds 3 F_row_at := by
  obtain ⟨ds_cell_at_2, hd_cell_at_2, G_cell_at_2⟩ := ok_cell_at_2 (P := P) (w := w) (base := base) S
  obtain ⟨ds_Shape_row_cell_2, hd_Shape_row_cell_2, G_Shape_row_cell_2⟩ := ok_Shape_row_cell_2 (P := P) (w := w) (base := base) S
  obtain ⟨fd, F⟩ := S.says.def_ 4 (d := d_row_at) rfl
  obtain ⟨ds, hd, hB⟩ : ∃ ds, Vals ([] : List V) ds ∧ Binds K fd P_row_at ds := ⟨[], .nil, F.bindsN fun _ _ _ _ _ _ us hl => match us, hl with | [_, _, _], _ => rfl⟩
  have S2 : FnScope N_row_at P_row_at d_row_at.scope := sc_row_at
  have q := def_ok (P := P) (w := w) (mg := mg) (base := base) (k := 1) (b := b_row_at) F S2 hB
  refine ⟨ds, hd, q fun cdv A outer s H E c => ?_⟩
  exact (rss_cons (rs_set c 3 (re_bin op_sub ok_sub (re_call (G_cell_at_2.mono (by decide : 1 ≤ 1)) c Asks.run (by rfl) (g_cell_at S) hd_cell_at_2 (fun _ _ _ => .nil) (ra_cons (re_var 0) (ra_cons (re_meth (G_Shape_row_cell_2.mono (by decide : 1 ≤ 1)) c Asks.run (cl_Shape S) (mt_Shape_row_cell S) (by decide +kernel) hd_Shape_row_cell_2 (fun _ _ _ => .nil) (re_var 1) (ra_cons (re_var 2) ra_nil)) ra_nil))) re_int))
  (rss_cons (rs_if (rt_cmp op_lt ok_lt (re_var 3) re_int rfl) (rss_one (rs_ret re_non)) rss_nil)
  (rss_cons (rs_set c 4 (re_bin op_fdivN ok_div (re_var 3) (re_fld (at_files S) (re_var 1))))
  (rss_one (rs_ret (re_tup (ra_cons (re_bin op_fdivN ok_div (re_var 4) (re_globI (by rfl) (g_NAMES S))) (ra_cons (re_bin op_modN ok_mod (re_callTy call_int1 ok_int (by rfl) (g_int S) bt_int (ra_cons (re_var 4) ra_nil)) (re_globI (by rfl) (g_NAMES S))) (ra_cons (re_bin op_modN ok_mod (re_callTy call_int1 ok_int (by rfl) (g_int S) bt_int (ra_cons (re_var 3) ra_nil)) (re_fld (at_files S) (re_var 1))) ra_nil)))))))))
abbrev N_is_dir : List PySem.Str := ["home", "shape", "number"]
abbrev P_is_dir : List PySem.Str := ["home", "shape", "number"]
noncomputable def b_is_dir : Sx :=
  (sSeq (sIf (tNot (tB (eChain opLe opLt (eC (.int 0)) (eVar 2) (eF (fFld [0] 0) (aCons (eVar 1) aNil))))) (sRet (eC (.bl false))) sNop)
  (sRet (eOr (eF opLe (aCons (eVar 2) (aCons (eC (.int 1)) aNil))) (eF opNis (aCons (eF (cl F_dir_at []) (aCons (eVar 0) (aCons (eVar 1) (aCons (eVar 2) aNil)))) (aCons (eC .non) aNil))))))
noncomputable def F_is_dir : Fn := runDef 3 3 b_is_dir
theorem sc_is_dir : FnScope N_is_dir P_is_dir (defScope s_is_dir) := ⟨rfl, rfl, rfl, by decide +kernel, rfl, by decide +kernel, by decide +kernel⟩
theorem ok_is_dir_3 (S : Sys K mg) : ∃ ds, Vals ([] : List V) ds ∧ DefOk P w K mg base 3 (He.fAd K d_is_dir.at_) P_is_dir ds 3 F_is_dir := by
  obtain ⟨ds_dir_at_3, hd_dir_at_3, G_dir_at_3⟩ := ok_dir_at_3 (P := P) (w := w) (base := base) S
  obtain ⟨fd, F⟩ := S.says.def_ 5 (d := d_is_dir) rfl
  obtain ⟨ds, hd, hB⟩ : ∃ ds, Vals ([] : List V) ds ∧ Binds K fd P_is_dir ds := ⟨[], .nil, F.bindsN fun _ _ _ _ _ _ us hl => match us, hl with | [_, _, _], _ => rfl⟩
  have S2 : FnScope N_is_dir P_is_dir d_is_dir.scope := sc_is_dir
  have q := def_ok (P := P) (w := w) (mg := mg) (base := base) (k := 2) (b := b_is_dir) F S2 hB
  refine ⟨ds, hd, q fun cdv A outer s H E c => ?_⟩
  exact (rss_cons (rs_if (rt_not (rt_chain op_le ok_le op_lt ok_lt re_int (re_var 2) (re_fld (at_dirs S) (re_var 1)))) (rss_one (rs_ret re_bl)) rss_nil)
  (rss_one (rs_ret (re_or (re_cmp op_le ok_le (re_var 2) (re_globI (by rfl) (g_FOUND S)) rfl) (re_one (re_cmp op_notN ok_nis (re_call (G_dir_at_3.mono (by decide : 2 ≤ 2)) c Asks.run (by rfl) (g_dir_at S) hd_dir_at_3 (fun _ _ _ => .nil) (ra_cons (re_var 0) (ra_cons (re_var 1) (ra_cons (re_var 2) ra_nil)))) re_non rfl))))))
abbrev N_rows_of : List PySem.Str := ["home", "shape", "rows", "number", "told"]
abbrev P_rows_of : List PySem.Str := ["home", "shape"]
noncomputable def b_rows_of : Sx :=
  (sSeq (sAsg (eLc (iRng1 (aCons (eF (fFld [0] 1) (aCons (eVar 1) aNil)) aNil)) (gName 3) tYes (eF mkTup (aCons (eVar 3) (aCons (eF (cl F_row_at []) (aCons (eVar 0) (aCons (eVar 1) (aCons (eVar 3) aNil)))) aNil))) [3]) (gName 2))
  (sRet (eLc (iSeq (eVar 2)) (gTup 2 (gCons (gName 3) (gCons (gName 4) gNil))) (tB (eF opNis (aCons (eVar 4) (aCons (eC .non) aNil)))) (eF mkTup (aCons (eVar 3) (aCons (eVar 4) aNil))) [3, 4])))
noncomputable def F_rows_of : Fn := runDef 2 5 b_rows_of
theorem sc_rows_of : FnScope N_rows_of P_rows_of (defScope s_rows_of) := ⟨rfl, rfl, rfl, by decide +kernel, rfl, by decide +kernel, by decide +kernel⟩
theorem ok_rows_of_2 (S : Sys K mg) : ∃ ds, Vals ([] : List V) ds ∧ DefOk P w K mg base 3 (He.fAd K d_rows_of.at_) P_rows_of ds 2 F_rows_of := by
  obtain ⟨ds_row_at_3, hd_row_at_3, G_row_at_3⟩ := ok_row_at_3 (P := P) (w := w) (base := base) S
  obtain ⟨fd, F⟩ := S.says.def_ 6 (d := d_rows_of) rfl
  obtain ⟨ds, hd, hB⟩ : ∃ ds, Vals ([] : List V) ds ∧ Binds K fd P_rows_of ds := ⟨[], .nil, F.bindsN fun _ _ _ _ _ _ us hl => match us, hl with | [_, _], _ => rfl⟩
  have S2 : FnScope N_rows_of P_rows_of d_rows_of.scope := sc_rows_of
  have q := def_ok (P := P) (w := w) (mg := mg) (base := base) (k := 2) (b := b_rows_of) F S2 hB
  refine ⟨ds, hd, q fun cdv A outer s H E c => ?_⟩
  exact (rss_cons (rs_setLc (own := [("number", 3)]) c 2 (ri_rng1 (by rfl) (g_range S) (ra_cons (re_fld (at_rows S) (re_var 1)) ra_nil)) (blk_of rfl) (fun s0 H0 C0 cl0 fp0 => (rgo_name (c.blk s0 H0 C0 cl0 fp0).nd 3 rfl (.inl rfl) (.inr rfl) (by decide))) (fun s0 H0 C0 cl0 fp0 => rts_nil) (fun s0 H0 C0 cl0 fp0 => (re_tup (ra_cons (re_var 3) (ra_cons (re_call (G_row_at_3.mono (by decide : 2 ≤ 2)) (c.blk s0 H0 C0 cl0 fp0) Asks.run (by rfl) (g_row_at S) hd_row_at_3 (fun _ _ _ => .nil) (ra_cons (re_var 0) (ra_cons (re_var 1) (ra_cons (re_var 3) ra_nil)))) ra_nil)))) rfl rfl (sw_true rfl rfl rfl (by decide +kernel)))
  (rss_one (rs_ret (re_lc (own := [("number", 3), ("told", 4)]) c (ri_seq (re_var 2)) (blk_of rfl) (fun s0 H0 C0 cl0 fp0 => (rgo_tup (c.blk s0 H0 C0 cl0 fp0).calm (rgos_cons (rgo_name (c.blk s0 H0 C0 cl0 fp0).nd 3 rfl (.inl rfl) (.inr rfl) (by decide)) (rgos_cons (rgo_name (c.blk s0 H0 C0 cl0 fp0).nd 4 rfl (.inl rfl) (.inr rfl) (by decide)) rgos_nil rfl) rfl) rfl rfl)) (fun s0 H0 C0 cl0 fp0 => (rts_one (rt_cmp op_notN ok_nis (re_var 4) re_non rfl))) (fun s0 H0 C0 cl0 fp0 => (re_tup (ra_cons (re_var 3) (ra_cons (re_var 4) ra_nil))))))))
abbrev N_named_files : List PySem.Str := ["home", "shape", "number", "told"]
abbrev P_named_files : List PySem.Str := ["home", "shape"]
noncomputable def b_named_files : Sx :=
  (sRet (eF biSortD (aCons (eDc (iSeq (eF (cl F_rows_of []) (aCons (eVar 0) (aCons (eVar 1) aNil)))) (gTup 2 (gCons (gName 2) (gCons (gName 3) gNil))) tYes (eF opIx (aCons (eVar 3) (aCons (eC (.int 2)) aNil))) (eC (.bl true)) [2, 3]) aNil)))
noncomputable def F_named_files : Fn := runDef 2 4 b_named_files
theorem sc_named_files : FnScope N_named_files P_named_files (defScope s_named_files) := ⟨rfl, rfl, rfl, by decide +kernel, rfl, by decide +kernel, by decide +kernel⟩
theorem ok_named_files_2 (S : Sys K mg) : ∃ ds, Vals ([] : List V) ds ∧ DefOk P w K mg base 4 (He.fAd K d_named_files.at_) P_named_files ds 2 F_named_files := by
  obtain ⟨ds_rows_of_2, hd_rows_of_2, G_rows_of_2⟩ := ok_rows_of_2 (P := P) (w := w) (base := base) S
  obtain ⟨fd, F⟩ := S.says.def_ 7 (d := d_named_files) rfl
  obtain ⟨ds, hd, hB⟩ : ∃ ds, Vals ([] : List V) ds ∧ Binds K fd P_named_files ds := ⟨[], .nil, F.bindsN fun _ _ _ _ _ _ us hl => match us, hl with | [_, _], _ => rfl⟩
  have S2 : FnScope N_named_files P_named_files d_named_files.scope := sc_named_files
  have q := def_ok (P := P) (w := w) (mg := mg) (base := base) (k := 3) (b := b_named_files) F S2 hB
  refine ⟨ds, hd, q fun cdv A outer s H E c => ?_⟩
  exact (rss_one (rs_ret (re_callB (cr_sortedDI c.calm) ok_sortD (by rfl) (g_sorted S) bt_sorted (ra_cons (re_dc (own := [("number", 2), ("told", 3)]) c (ri_seq (re_call (G_rows_of_2.mono (by decide : 3 ≤ 3)) c Asks.run (by rfl) (g_rows_of S) hd_rows_of_2 (fun _ _ _ => .nil) (ra_cons (re_var 0) (ra_cons (re_var 1) ra_nil)))) (blk_of rfl) (fun s0 H0 C0 cl0 fp0 => (rgo_tup (c.blk s0 H0 C0 cl0 fp0).calm (rgos_cons (rgo_name (c.blk s0 H0 C0 cl0 fp0).nd 2 rfl (.inl rfl) (.inr rfl) (by decide)) (rgos_cons (rgo_name (c.blk s0 H0 C0 cl0 fp0).nd 3 rfl (.inl rfl) (.inr rfl) (by decide)) rgos_nil rfl) rfl) rfl rfl)) (fun s0 H0 C0 cl0 fp0 => rts_nil) (fun s0 H0 C0 cl0 fp0 => (re_ix ix_seq ok_ix (re_var 3) re_int (fun _ _ => rfl))) (fun s0 H0 C0 cl0 fp0 => re_bl)) ra_nil))))
abbrev N_Shape_file_plate : List PySem.Str := ["self", "file"]
abbrev P_Shape_file_plate : List PySem.Str := ["self", "file"]
noncomputable def b_Shape_file_plate : Sx :=
  (sRet (eF opAdd (aCons (eF (fFld [0] 7) (aCons (eVar 0) aNil)) (aCons (eVar 1) aNil))))
noncomputable def F_Shape_file_plate : Fn := runDef 2 2 b_Shape_file_plate
theorem sc_Shape_file_plate : FnScope N_Shape_file_plate P_Shape_file_plate (defScope s_Shape_file_plate) := ⟨rfl, rfl, rfl, by decide +kernel, rfl, by decide +kernel, by decide +kernel⟩
theorem ok_Shape_file_plate_2 (S : Sys K mg) : ∃ ds, Vals ([] : List V) ds ∧ DefOk P w K mg base 1 (He.fAd K d_Shape_file_plate.at_) P_Shape_file_plate ds 2 F_Shape_file_plate := by
  obtain ⟨fd, F⟩ := S.says.def_ 36 (d := d_Shape_file_plate) rfl
  obtain ⟨ds, hd, hB⟩ : ∃ ds, Vals ([] : List V) ds ∧ Binds K fd P_Shape_file_plate ds := ⟨[], .nil, F.bindsN fun _ _ _ _ _ _ us hl => match us, hl with | [_, _], _ => rfl⟩
  have S2 : FnScope N_Shape_file_plate P_Shape_file_plate d_Shape_file_plate.scope := sc_Shape_file_plate
  have q := def_ok (P := P) (w := w) (mg := mg) (base := base) (k := 0) (b := b_Shape_file_plate) F S2 hB
  refine ⟨ds, hd, q fun cdv A outer s H E c => ?_⟩
  exact (rss_one (rs_ret (re_bin op_add4 ok_add (re_fld (at_first_file S) (re_var 0)) (re_var 1))))
abbrev N_size_at : List PySem.Str := ["home", "shape", "file"]
abbrev P_size_at : List PySem.Str := ["home", "shape", "file"]
noncomputable def b_size_at : Sx :=
  (sRet (eF biMin2 (aCons (eF biMaxX (aCons (eF opIx (aCons (eF opGet (aCons (eVar 0) (aCons (eM 0 (cl F_Shape_file_plate []) (eVar 1) (aCons (eVar 2) aNil)) aNil))) (aCons (eC (.int 0)) aNil))) (aCons (eC (.int 0)) aNil))) (aCons (eC (.int 600)) aNil))))
noncomputable def F_size_at : Fn := runDef 3 3 b_size_at
theorem sc_size_at : FnScope N_size_at P_size_at (defScope s_size_at) := ⟨rfl, rfl, rfl, by decide +kernel, rfl, by decide +kernel, by decide +kernel⟩
theorem ok_size_at_3 (S : Sys K mg) : ∃ ds, Vals ([] : List V) ds ∧ DefOk P w K mg base 2 (He.fAd K d_size_at.at_) P_size_at ds 3 F_size_at := by
  obtain ⟨ds_Shape_file_plate_2, hd_Shape_file_plate_2, G_Shape_file_plate_2⟩ := ok_Shape_file_plate_2 (P := P) (w := w) (base := base) S
  obtain ⟨fd, F⟩ := S.says.def_ 8 (d := d_size_at) rfl
  obtain ⟨ds, hd, hB⟩ : ∃ ds, Vals ([] : List V) ds ∧ Binds K fd P_size_at ds := ⟨[], .nil, F.bindsN fun _ _ _ _ _ _ us hl => match us, hl with | [_, _, _], _ => rfl⟩
  have S2 : FnScope N_size_at P_size_at d_size_at.scope := sc_size_at
  have q := def_ok (P := P) (w := w) (mg := mg) (base := base) (k := 1) (b := b_size_at) F S2 hB
  refine ⟨ds, hd, q fun cdv A outer s H E c => ?_⟩
  exact (rss_one (rs_ret (re_callB (call_min2 c.calm) ok_min2 (by rfl) (g_min S) bt_min (ra_cons (re_callB (cr_maxX c.calm c.u65) ok_maxX (by rfl) (g_max S) bt_max (ra_cons (re_ix ix_seq ok_ix (re_ix (ix_dict c.u1) ok_get (re_var 0) (re_meth (G_Shape_file_plate_2.mono (by decide : 1 ≤ 1)) c Asks.run (cl_Shape S) (mt_Shape_file_plate S) (by decide +kernel) hd_Shape_file_plate_2 (fun _ _ _ => .nil) (re_var 1) (ra_cons (re_var 2) ra_nil)) (fun _ _ => rfl)) re_int (fun _ _ => rfl)) (ra_cons re_int ra_nil))) (ra_cons (re_globI (by rfl) (g_MOST_SIZE S)) ra_nil)))))
abbrev N_owner_at : List PySem.Str := ["home", "shape", "file", "owner"]
abbrev P_owner_at : List PySem.Str := ["home", "shape", "file"]
noncomputable def b_owner_at : Sx :=
  (sSeq (sAsg (eF opIx (aCons (eF opGet (aCons (eVar 0) (aCons (eM 0 (cl F_Shape_file_plate []) (eVar 1) (aCons (eVar 2) aNil)) aNil))) (aCons (eC (.int 1)) aNil))) (gName 3))
  (sRet (eIf (tB (eChain opLe opLt (eC (.int 0)) (eVar 3) (eF (fFld [0] 4) (aCons (eVar 1) aNil)))) (eVar 3) (eC (.int 0)))))
noncomputable def F_owner_at : Fn := runDef 3 4 b_owner_at
theorem sc_owner_at : FnScope N_owner_at P_owner_at (defScope s_owner_at) := ⟨rfl, rfl, rfl, by decide +kernel, rfl, by decide +kernel, by decide +kernel⟩
theorem ok_owner_at_3 (S : Sys K mg) : ∃ ds, Vals ([] : List V) ds ∧ DefOk P w K mg base 2 (He.fAd K d_owner_at.at_) P_owner_at ds 3 F_owner_at := by
  obtain ⟨ds_Shape_file_plate_2, hd_Shape_file_plate_2, G_Shape_file_plate_2⟩ := ok_Shape_file_plate_2 (P := P) (w := w) (base := base) S
  obtain ⟨fd, F⟩ := S.says.def_ 9 (d := d_owner_at) rfl
  obtain ⟨ds, hd, hB⟩ : ∃ ds, Vals ([] : List V) ds ∧ Binds K fd P_owner_at ds := ⟨[], .nil, F.bindsN fun _ _ _ _ _ _ us hl => match us, hl with | [_, _, _], _ => rfl⟩
  have S2 : FnScope N_owner_at P_owner_at d_owner_at.scope := sc_owner_at
  have q := def_ok (P := P) (w := w) (mg := mg) (base := base) (k := 1) (b := b_owner_at) F S2 hB
  refine ⟨ds, hd, q fun cdv A outer s H E c => ?_⟩
  exact (rss_cons (rs_set c 3 (re_ix ix_seq ok_ix (re_ix (ix_dict c.u1) ok_get (re_var 0) (re_meth (G_Shape_file_plate_2.mono (by decide : 1 ≤ 1)) c Asks.run (cl_Shape S) (mt_Shape_file_plate S) (by decide +kernel) hd_Shape_file_plate_2 (fun _ _ _ => .nil) (re_var 1) (ra_cons (re_var 2) ra_nil)) (fun _ _ => rfl)) re_int (fun _ _ => rfl)))
  (rss_one (rs_ret (re_ifExp (rt_chain op_le ok_le op_lt ok_lt re_int (re_var 3) (re_fld (at_users S) (re_var 1))) (re_var 3) re_int))))
abbrev N_block_of : List PySem.Str := ["shape", "pointer"]
abbrev P_block_of : List PySem.Str := ["shape", "pointer"]
noncomputable def b_block_of : Sx :=
  (sRet (eIf (tB (eChain opLe opLe (eC (.int 1)) (eVar 1) (eF (fFld [0] 3) (aCons (eVar 0) aNil)))) (eF opSub (aCons (eVar 1) (aCons (eC (.int 1)) aNil))) (eC .non)))
noncomputable def F_block_of : Fn := runDef 2 2 b_block_of
theorem sc_block_of : FnScope N_block_of P_block_of (defScope s_block_of) := ⟨rfl, rfl, rfl, by decide +kernel, rfl, by decide +kernel, by decide +kernel⟩
theorem ok_block_of_2 (S : Sys K mg) : ∃ ds, Vals ([] : List V) ds ∧ DefOk P w K mg base 1 (He.fAd K d_block_of.at_) P_block_of ds 2 F_block_of := by
  obtain ⟨fd, F⟩ := S.says.def_ 10 (d := d_block_of) rfl
  obtain ⟨ds, hd, hB⟩ : ∃ ds, Vals ([] : List V) ds ∧ Binds K fd P_block_of ds := ⟨[], .nil, F.bindsN fun _ _ _ _ _ _ us hl => match us, hl with | [_, _], _ => rfl⟩
  have S2 : FnScope N_block_of P_block_of d_block_of.scope := sc_block_of
  have q := def_ok (P := P) (w := w) (mg := mg) (base := base) (k := 0) (b := b_block_of) F S2 hB
  refine ⟨ds, hd, q fun cdv A outer s H E c => ?_⟩
  exact (rss_one (rs_ret (re_ifExp (rt_chain op_le ok_le op_le ok_le re_int (re_var 1) (re_fld (at_blocks S) (re_var 0))) (re_bin op_sub ok_sub (re_var 1) re_int) re_non)))
abbrev N_pointers_at : List PySem.Str := ["home", "shape", "file", "plate", "levels"]
abbrev P_pointers_at : List PySem.Str := ["home", "shape", "file"]
noncomputable def b_pointers_at : Sx :=
  (sSeq (sAsg (eF opGet (aCons (eVar 0) (aCons (eM 0 (cl F_Shape_file_plate []) (eVar 1) (aCons (eVar 2) aNil)) aNil))) (gName 3))
  (sSeq (sAsg (eF opAdd (aCons (eF opMulX (aCons (eF mkTup (aCons (eC (.int 0)) aNil)) (aCons (eC (.int 3)) aNil))) (aCons (eF mkTup (aCons (eC (.int 1)) (aCons (eC (.int 2)) aNil))) aNil))) (gName 4))
  (sRet (eF biZipL (aCons (eSl (eVar 3) (pSome (eF opSub (aCons (eF opSub (aCons (eC (.int 8)) (aCons (eC (.int 3)) aNil))) (aCons (eC (.int 2)) aNil)))) pNone) (aCons (eVar 4) aNil))))))
noncomputable def F_pointers_at : Fn := runDef 3 5 b_pointers_at
theorem sc_pointers_at : FnScope N_pointers_at P_pointers_at (defScope s_pointers_at) := ⟨rfl, rfl, rfl, by decide +kernel, rfl, by decide +kernel, by decide +kernel⟩
theorem ok_pointers_at_3 (S : Sys K mg) : ∃ ds, Vals ([] : List V) ds ∧ DefOk P w K mg base 2 (He.fAd K d_pointers_at.at_) P_pointers_at ds 3 F_pointers_at := by
  obtain ⟨ds_Shape_file_plate_2, hd_Shape_file_plate_2, G_Shape_file_plate_2⟩ := ok_Shape_file_plate_2 (P := P) (w := w) (base := base) S
  obtain ⟨fd, F⟩ := S.says.def_ 11 (d := d_pointers_at) rfl
  obtain ⟨ds, hd, hB⟩ : ∃ ds, Vals ([] : List V) ds ∧ Binds K fd P_pointers_at ds := ⟨[], .nil, F.bindsN fun _ _ _ _ _ _ us hl => match us, hl with | [_, _, _], _ => rfl⟩
  have S2 : FnScope N_pointers_at P_pointers_at d_pointers_at.scope := sc_pointers_at
  have q := def_ok (P := P) (w := w) (mg := mg) (base := base) (k := 1) (b := b_pointers_at) F S2 hB
  refine ⟨ds, hd, q fun cdv A outer s H E c => ?_⟩
  exact (rss_cons (rs_set c 3 (re_ix (ix_dict c.u1) ok_get (re_var 0) (re_meth (G_Shape_file_plate_2.mono (by decide : 1 ≤ 1)) c Asks.run (cl_Shape S) (mt_Shape_file_plate S) (by decide +kernel) hd_Shape_file_plate_2 (fun _ _ _ => .nil) (re_var 1) (ra_cons (re_var 2) ra_nil)) (fun _ _ => rfl)))
  (rss_cons (rs_set c 4 (re_bin op_add4 ok_add (re_bin op_mulX ok_mulX (re_tup (ra_cons re_int ra_nil)) (re_globI (by rfl) (g_DIRECT S))) (re_tup (ra_cons re_int (ra_cons re_int ra_nil)))))
  (rss_one (rs_ret (re_listZip c.calm (by rfl) (g_list S) bt_list (by rfl) (g_zip S) (ra_cons (re_sl (re_var 3) (rp_some (re_bin op_sub ok_sub (re_bin op_sub ok_sub (re_globI (by rfl) (g_WIDTH S)) (re_globI (by rfl) (g_DIRECT S))) re_int)) rp_none) (ra_cons (re_var 4) ra_nil)))))))
abbrev N_Shape_block_plate : List PySem.Str := ["self", "block"]
abbrev P_Shape_block_plate : List PySem.Str := ["self", "block"]
noncomputable def b_Shape_block_plate : Sx :=
  (sRet (eF opAdd (aCons (eF (fFld [0] 8) (aCons (eVar 0) aNil)) (aCons (eVar 1) aNil))))
noncomputable def F_Shape_block_plate : Fn := runDef 2 2 b_Shape_block_plate
theorem sc_Shape_block_plate : FnScope N_Shape_block_plate P_Shape_block_plate (defScope s_Shape_block_plate) := ⟨rfl, rfl, rfl, by decide +kernel, rfl, by decide +kernel, by decide +kernel⟩
theorem ok_Shape_block_plate_2 (S : Sys K mg) : ∃ ds, Vals ([] : List V) ds ∧ DefOk P w K mg base 1 (He.fAd K d_Shape_block_plate.at_) P_Shape_block_plate ds 2 F_Shape_block_plate := by
  obtain ⟨fd, F⟩ := S.says.def_ 37 (d := d_Shape_block_plate) rfl
  obtain ⟨ds, hd, hB⟩ : ∃ ds, Vals ([] : List V) ds ∧ Binds K fd P_Shape_block_plate ds := ⟨[], .nil, F.bindsN fun _ _ _ _ _ _ us hl => match us, hl with | [_, _], _ => rfl⟩
  have S2 : FnScope N_Shape_block_plate P_Shape_block_plate d_Shape_block_plate.scope := sc_Shape_block_plate
  have q := def_ok (P := P) (w := w) (mg := mg) (base := base) (k := 0) (b := b_Shape_block_plate) F S2 hB
  refine ⟨ds, hd, q fun cdv A outer s H E c => ?_⟩
  exact (rss_one (rs_ret (re_bin op_add4 ok_add (re_fld (at_first_block S) (re_var 0)) (re_var 1))))
abbrev N_met_below : List PySem.Str := ["home", "shape", "pointer", "level", "block", "found", "one"]
abbrev P_met_below : List PySem.Str := ["home", "shape", "pointer", "level"]
noncomputable def b_met_below (rec : Fn) : Sx :=
  (sSeq (sAsg (eF (cl F_block_of []) (aCons (eVar 1) (aCons (eVar 2) aNil))) (gName 4))
  (sSeq (sIf (tB (eF opIs (aCons (eVar 4) (aCons (eC .non) aNil)))) (sRet (eF mkLst aNil)) sNop)
  (sSeq (sAsg (eF mkLst (aCons (eVar 4) aNil)) (gName 5))
  (sSeq (sIf (tB (eF opGt (aCons (eVar 3) (aCons (eC (.int 0)) aNil)))) (sFor (iSeq (eF opGet (aCons (eVar 0) (aCons (eM 0 (cl F_Shape_block_plate []) (eVar 1) (aCons (eVar 4) aNil)) aNil)))) (gName 6)
  (sAsg (eF opAdd (aCons (eVar 5) (aCons (eF (cl rec []) (aCons (eVar 0) (aCons (eVar 1) (aCons (eVar 6) (aCons (eF opSub (aCons (eVar 3) (aCons (eC (.int 1)) aNil))) aNil))))) aNil))) (gName 5))) sNop)
  (sRet (eVar 5))))))
noncomputable def F_met_below : Nat → Fn
  | 0 => fnBad
  | n + 1 => runDef 4 7 (b_met_below (F_met_below n))
theorem Asks_met_below (n : Nat) : Asks 4 (F_met_below n) := by
  cases n with
  | zero => exact Asks.bad
  | succ n => exact Asks.run
theorem sc_met_below : FnScope N_met_below P_met_below (defScope s_met_below) := ⟨rfl, rfl, rfl, by decide +kernel, rfl, by decide +kernel, by decide +kernel⟩
theorem ok_met_below_4 (S : Sys K mg) (n : Nat) : ∃ ds, Vals ([] : List V) ds ∧ DefOk P w K mg base (n + 2) (He.fAd K d_met_below.at_) P_met_below ds 4 (F_met_below n) := by
  obtain ⟨ds_block_of_2, hd_block_of_2, G_block_of_2⟩ := ok_block_of_2 (P := P) (w := w) (base := base) S
  obtain ⟨ds_Shape_block_plate_2, hd_Shape_block_plate_2, G_Shape_block_plate_2⟩ := ok_Shape_block_plate_2 (P := P) (w := w) (base := base) S
  obtain ⟨fd, F⟩ := S.says.def_ 12 (d := d_met_below) rfl
  obtain ⟨ds, hd, hB⟩ : ∃ ds, Vals ([] : List V) ds ∧ Binds K fd P_met_below ds := ⟨[], .nil, F.bindsN fun _ _ _ _ _ _ us hl => match us, hl with | [_, _, _, _], _ => rfl⟩
  have S2 : FnScope N_met_below P_met_below d_met_below.scope := sc_met_below
  refine ⟨ds, hd, ?_⟩
  induction n with
  | zero => exact def_bad F hB
  | succ n ih =>
    have q := def_ok (P := P) (w := w) (mg := mg) (base := base) (k := n + 2) (b := b_met_below (F_met_below n)) F S2 hB
    refine (q fun cdv A outer s H E c => ?_).mono (by omega)
    exact (rss_cons (rs_set c 4 (re_call (G_block_of_2.mono (by omega : 1 ≤ n + 2)) c Asks.run (by rfl) (g_block_of S) hd_block_of_2 (fun _ _ _ => .nil) (ra_cons (re_var 1) (ra_cons (re_var 2) ra_nil))))
  (rss_cons (rs_if (rt_cmp op_isN ok_is (re_var 4) re_non rfl) (rss_one (rs_ret (re_lst ra_nil))) rss_nil)
  (rss_cons (rs_set c 5 (re_lst (ra_cons (re_var 4) ra_nil)))
  (rss_cons (rs_if (rt_cmp op_gt ok_gt (re_var 3) re_int rfl) (rss_one (rs_for c (ri_seq (re_ix (ix_dict c.u1) ok_get (re_var 0) (re_meth (G_Shape_block_plate_2.mono (by omega : 1 ≤ n + 2)) c Asks.run (cl_Shape S) (mt_Shape_block_plate S) (by decide +kernel) hd_Shape_block_plate_2 (fun _ _ _ => .nil) (re_var 1) (ra_cons (re_var 4) ra_nil)) (fun _ _ => rfl))) (rg_name c 6)
  (rss_one (rs_set c 5 (re_bin op_add4 ok_add (re_var 5) (re_call ih c (Asks_met_below _) (by rfl) (g_met_below S) hd (fun _ _ _ => .nil) (ra_cons (re_var 0) (ra_cons (re_var 1) (ra_cons (re_var 6) (ra_cons (re_bin op_sub ok_sub (re_var 3) re_int) ra_nil)))))))))) rss_nil)
  (rss_one (rs_ret (re_var 5)))))))
abbrev N_met : List PySem.Str := ["home", "shape", "file", "found", "pointer", "level"]
abbrev P_met : List PySem.Str := ["home", "shape", "file"]
noncomputable def b_met : Sx :=
  (sSeq (sAsg (eF mkLst aNil) (gName 3))
  (sSeq (sFor (iSeq (eF (cl F_pointers_at []) (aCons (eVar 0) (aCons (eVar 1) (aCons (eVar 2) aNil))))) (gTup 2 (gCons (gName 4) (gCons (gName 5) gNil)))
  (sAsg (eF opAdd (aCons (eVar 3) (aCons (eF (cl (F_met_below 4) []) (aCons (eVar 0) (aCons (eVar 1) (aCons (eVar 4) (aCons (eVar 5) aNil))))) aNil))) (gName 3)))
  (sRet (eVar 3))))
noncomputable def F_met : Fn := runDef 3 6 b_met
theorem sc_met : FnScope N_met P_met (defScope s_met) := ⟨rfl, rfl, rfl, by decide +kernel, rfl, by decide +kernel, by decide +kernel⟩
theorem ok_met_3 (S : Sys K mg) : ∃ ds, Vals ([] : List V) ds ∧ DefOk P w K mg base 7 (He.fAd K d_met.at_) P_met ds 3 F_met := by
  obtain ⟨ds_pointers_at_3, hd_pointers_at_3, G_pointers_at_3⟩ := ok_pointers_at_3 (P := P) (w := w) (base := base) S
  obtain ⟨ds_met_below_4, hd_met_below_4, G_met_below_4⟩ := ok_met_below_4 (P := P) (w := w) (base := base) S 4
  obtain ⟨fd, F⟩ := S.says.def_ 13 (d := d_met) rfl
  obtain ⟨ds, hd, hB⟩ : ∃ ds, Vals ([] : List V) ds ∧ Binds K fd P_met ds := ⟨[], .nil, F.bindsN fun _ _ _ _ _ _ us hl => match us, hl with | [_, _, _], _ => rfl⟩
  have S2 : FnScope N_met P_met d_met.scope := sc_met
  have q := def_ok (P := P) (w := w) (mg := mg) (base := base) (k := 6) (b := b_met) F S2 hB
  refine ⟨ds, hd, q fun cdv A outer s H E c => ?_⟩
  exact (rss_cons (rs_set c 3 (re_lst ra_nil))
  (rss_cons (rs_for c (ri_seq (re_call (G_pointers_at_3.mono (by decide : 2 ≤ 6)) c Asks.run (by rfl) (g_pointers_at S) hd_pointers_at_3 (fun _ _ _ => .nil) (ra_cons (re_var 0) (ra_cons (re_var 1) (ra_cons (re_var 2) ra_nil))))) (rg_tup c (rgs_cons (rg_name c 4) (rgs_cons (rg_name c 5) rgs_nil)))
  (rss_one (rs_set c 3 (re_bin op_add4 ok_add (re_var 3) (re_call (G_met_below_4.mono (by decide : 6 ≤ 6)) c (Asks_met_below _) (by rfl) (g_met_below S) hd_met_below_4 (fun _ _ _ => .nil) (ra_cons (re_var 0) (ra_cons (re_var 1) (ra_cons (re_var 4) (ra_cons (re_var 5) ra_nil)))))))))
  (rss_one (rs_ret (re_var 3)))))
abbrev N_spot_of : List PySem.Str := ["number", "rest"]
abbrev P_spot_of : List PySem.Str := ["number"]
noncomputable def b_spot_of : Sx :=
  (sSeq (sIf (tB (eF opLt (aCons (eVar 0) (aCons (eC (.int 3)) aNil)))) (sRet (eF mkTup (aCons (eF opAdd (aCons (eF opSub (aCons (eF opSub (aCons (eC (.int 8)) (aCons (eC (.int 3)) aNil))) (aCons (eC (.int 2)) aNil))) (aCons (eVar 0) aNil))) aNil))) sNop)
  (sSeq (sIf (tB (eF opLt (aCons (eVar 0) (aCons (eF opAdd (aCons (eC (.int 3)) (aCons (eC (.int 8)) aNil))) aNil)))) (sRet (eF mkTup (aCons (eF opSub (aCons (eC (.int 8)) (aCons (eC (.int 2)) aNil))) (aCons (eF opSub (aCons (eVar 0) (aCons (eC (.int 3)) aNil))) aNil)))) sNop)
  (sSeq (sAsg (eF opSub (aCons (eF opSub (aCons (eVar 0) (aCons (eC (.int 3)) aNil))) (aCons (eC (.int 8)) aNil))) (gName 1))
  (sRet (eF mkTup (aCons (eF opSub (aCons (eC (.int 8)) (aCons (eC (.int 1)) aNil))) (aCons (eF opDiv (aCons (eVar 1) (aCons (eC (.int 8)) aNil))) (aCons (eF opMod (aCons (eF biInt (aCons (eVar 1) aNil)) (aCons (eC (.int 8)) aNil))) aNil))))))))
noncomputable def F_spot_of : Fn := runDef 1 2 b_spot_of
theorem sc_spot_of : FnScope N_spot_of P_spot_of (defScope s_spot_of) := ⟨rfl, rfl, rfl, by decide +kernel, rfl, by decide +kernel, by decide +kernel⟩
theorem ok_spot_of_1 (S : Sys K mg) : ∃ ds, Vals ([] : List V) ds ∧ DefOk P w K mg base 1 (He.fAd K d_spot_of.at_) P_spot_of ds 1 F_spot_of := by
  obtain ⟨fd, F⟩ := S.says.def_ 14 (d := d_spot_of) rfl
  obtain ⟨ds, hd, hB⟩ : ∃ ds, Vals ([] : List V) ds ∧ Binds K fd P_spot_of ds := ⟨[], .nil, F.bindsN fun _ _ _ _ _ _ us hl => match us, hl with | [_], _ => rfl⟩
  have S2 : FnScope N_spot_of P_spot_of d_spot_of.scope := sc_spot_of
  have q := def_ok (P := P) (w := w) (mg := mg) (base := base) (k := 0) (b := b_spot_of) F S2 hB
  refine ⟨ds, hd, q fun cdv A outer s H E c => ?_⟩
  exact (rss_cons (rs_if (rt_cmp op_lt ok_lt (re_var 0) (re_globI (by rfl) (g_DIRECT S)) rfl) (rss_one (rs_ret (re_tup (ra_cons (re_bin op_add4 ok_add (re_bin op_sub ok_sub (re_bin op_sub ok_sub (re_globI (by rfl) (g_WIDTH S)) (re_globI (by rfl) (g_DIRECT S))) re_int) (re_var 0)) ra_nil)))) rss_nil)
  (rss_cons (rs_if (rt_cmp op_lt ok_lt (re_var 0) (re_bin op_add4 ok_add (re_globI (by rfl) (g_DIRECT S)) (re_globI (by rfl) (g_WIDTH S))) rfl) (rss_one (rs_ret (re_tup (ra_cons (re_bin op_sub ok_sub (re_globI (by rfl) (g_WIDTH S)) re_int) (ra_cons (re_bin op_sub ok_sub (re_var 0) (re_globI (by rfl) (g_DIRECT S))) ra_nil))))) rss_nil)
  (rss_cons (rs_set c 1 (re_bin op_sub ok_sub (re_bin op_sub ok_sub (re_var 0) (re_globI (by rfl) (g_DIRECT S))) (re_globI (by rfl) (g_WIDTH S))))
  (rss_one (rs_ret (re_tup (ra_cons (re_bin op_sub ok_sub (re_globI (by rfl) (g_WIDTH S)) re_int) (ra_cons (re_bin op_fdivN ok_div (re_var 1) (re_globI (by rfl) (g_WIDTH S))) (ra_cons (re_bin op_modN ok_mod (re_callTy call_int1 ok_int (by rfl) (g_int S) bt_int (ra_cons (re_var 1) ra_nil)) (re_globI (by rfl) (g_WIDTH S))) ra_nil)))))))))
abbrev N_data_block : List PySem.Str := ["home", "shape", "file", "number", "plate", "block", "place"]
abbrev P_data_block : List PySem.Str := ["home", "shape", "file", "number"]
noncomputable def b_data_block : Sx :=
  (sSeq (sPar 4 5 (aCons (eF opGet (aCons (eVar 0) (aCons (eM 0 (cl F_Shape_file_plate []) (eVar 1) (aCons (eVar 2) aNil)) aNil))) (aCons (eC .non) aNil)))
  (sSeq (sFor (iSeq (eF (cl F_spot_of []) (aCons (eVar 3) aNil))) (gName 6)
  (sSeq (sAsg (eF (cl F_block_of []) (aCons (eVar 1) (aCons (eF opIx (aCons (eVar 4) (aCons (eVar 6) aNil))) aNil))) (gName 5))
  (sSeq (sIf (tB (eF opIs (aCons (eVar 5) (aCons (eC .non) aNil)))) (sRet (eC .non)) sNop)
  (sAsg (eF opGet (aCons (eVar 0) (aCons (eM 0 (cl F_Shape_block_plate []) (eVar 1) (aCons (eVar 5) aNil)) aNil))) (gName 4)))))
  (sRet (eVar 5))))
noncomputable def F_data_block : Fn := runDef 4 7 b_data_block
theorem sc_data_block : FnScope N_data_block P_data_block (defScope s_data_block) := ⟨rfl, rfl, rfl, by decide +kernel, rfl, by decide +kernel, by decide +kernel⟩
theorem ok_data_block_4 (S : Sys K mg) : ∃ ds, Vals ([] : List V) ds ∧ DefOk P w K mg base 2 (He.fAd K d_data_block.at_) P_data_block ds 4 F_data_block := by
  obtain ⟨ds_spot_of_1, hd_spot_of_1, G_spot_of_1⟩ := ok_spot_of_1 (P := P) (w := w) (base := base) S
  obtain ⟨ds_block_of_2, hd_block_of_2, G_block_of_2⟩ := ok_block_of_2 (P := P) (w := w) (base := base) S
  obtain ⟨ds_Shape_file_plate_2, hd_Shape_file_plate_2, G_Shape_file_plate_2⟩ := ok_Shape_file_plate_2 (P := P) (w := w) (base := base) S
  obtain ⟨ds_Shape_block_plate_2, hd_Shape_block_plate_2, G_Shape_block_plate_2⟩ := ok_Shape_block_plate_2 (P := P) (w := w) (base := base) S
  obtain ⟨fd, F⟩ := S.says.def_ 15 (d := d_data_block) rfl
  obtain ⟨ds, hd, hB⟩ : ∃ ds, Vals ([] : List V) ds ∧ Binds K fd P_data_block ds := ⟨[], .nil, F.bindsN fun _ _ _ _ _ _ us hl => match us, hl with | [_, _, _, _], _ => rfl⟩
  have S2 : FnScope N_data_block P_data_block d_data_block.scope := sc_data_block
  have q := def_ok (P := P) (w := w) (mg := mg) (base := base) (k := 1) (b := b_data_block) F S2 hB
  refine ⟨ds, hd, q fun cdv A outer s H E c => ?_⟩
  exact (rss_cons (rs_par c 4 5 (ra_cons (re_ix (ix_dict c.u1) ok_get (re_var 0) (re_meth (G_Shape_file_plate_2.mono (by decide : 1 ≤ 1)) c Asks.run (cl_Shape S) (mt_Shape_file_plate S) (by decide +kernel) hd_Shape_file_plate_2 (fun _ _ _ => .nil) (re_var 1) (ra_cons (re_var 2) ra_nil)) (fun _ _ => rfl)) (ra_cons re_non ra_nil)))
  (rss_cons (rs_for c (ri_seq (re_call (G_spot_of_1.mono (by decide : 1 ≤ 1)) c Asks.run (by rfl) (g_spot_of S) hd_spot_of_1 (fun _ _ _ => .nil) (ra_cons (re_var 3) ra_nil))) (rg_name c 6)
  (rss_cons (rs_set c 5 (re_call (G_block_of_2.mono (by decide : 1 ≤ 1)) c Asks.run (by rfl) (g_block_of S) hd_block_of_2 (fun _ _ _ => .nil) (ra_cons (re_var 1) (ra_cons (re_ix ix_seq ok_ix (re_var 4) (re_var 6) (fun _ _ => rfl)) ra_nil))))
  (rss_cons (rs_if (rt_cmp op_isN ok_is (re_var 5) re_non rfl) (rss_one (rs_ret re_non)) rss_nil)
  (rss_one (rs_set c 4 (re_ix (ix_dict c.u1) ok_get (re_var 0) (re_meth (G_Shape_block_plate_2.mono (by decide : 1 ≤ 1)) c Asks.run (cl_Shape S) (mt_Shape_block_plate S) (by decide +kernel) hd_Shape_block_plate_2 (fun _ _ _ => .nil) (re_var 1) (ra_cons (re_var 5) ra_nil)) (fun _ _ => rfl)))))))
  (rss_one (rs_ret (re_var 5)))))
abbrev N_numbers_at : List PySem.Str := ["home", "shape", "file", "start", "end", "found", "at", "block"]
abbrev P_numbers_at : List PySem.Str := ["home", "shape", "file", "start", "end"]
noncomputable def b_numbers_at : Sx :=
  (sSeq (sAsg (eF mkLst aNil) (gName 5))
  (sSeq (sFor (iRng2 (aCons (eVar 3) (aCons (eVar 4) aNil))) (gName 6)
  (sSeq (sAsg (eF (cl F_data_block []) (aCons (eVar 0) (aCons (eVar 1) (aCons (eVar 2) (aCons (eF opDiv (aCons (eVar 6) (aCons (eC (.int 8)) aNil))) aNil))))) (gName 7))
  (sDrop (eBM .list mAppend (eVar 5) (aCons (eIf (tB (eF opIs (aCons (eVar 7) (aCons (eC .non) aNil)))) (eC (.int 0)) (eF opIx (aCons (eF opGet (aCons (eVar 0) (aCons (eM 0 (cl F_Shape_block_plate []) (eVar 1) (aCons (eVar 7) aNil)) aNil))) (aCons (eF opMod (aCons (eF biInt (aCons (eVar 6) aNil)) (aCons (eC (.int 8)) aNil))) aNil)))) aNil)))))
  (sRet (eF biTuple (aCons (eVar 5) aNil)))))
noncomputable def F_numbers_at : Fn := runDef 5 8 b_numbers_at
theorem sc_numbers_at : FnScope N_numbers_at P_numbers_at (defScope s_numbers_at) := ⟨rfl, rfl, rfl, by decide +kernel, rfl, by decide +kernel, by decide +kernel⟩
theorem ok_numbers_at_5 (S : Sys K mg) : ∃ ds, Vals ([] : List V) ds ∧ DefOk P w K mg base 3 (He.fAd K d_numbers_at.at_) P_numbers_at ds 5 F_numbers_at := by
  obtain ⟨ds_data_block_4, hd_data_block_4, G_data_block_4⟩ := ok_data_block_4 (P := P) (w := w) (base := base) S
  obtain ⟨ds_Shape_block_plate_2, hd_Shape_block_plate_2, G_Shape_block_plate_2⟩ := ok_Shape_block_plate_2 (P := P) (w := w) (base := base) S
  obtain ⟨fd, F⟩ := S.says.def_ 16 (d := d_numbers_at) rfl
  obtain ⟨ds, hd, hB⟩ : ∃ ds, Vals ([] : List V) ds ∧ Binds K fd P_numbers_at ds := ⟨[], .nil, F.bindsN fun _ _ _ _ _ _ us hl => match us, hl with | [_, _, _, _, _], _ => rfl⟩
  have S2 : FnScope N_numbers_at P_numbers_at d_numbers_at.scope := sc_numbers_at
  have q := def_ok (P := P) (w := w) (mg := mg) (base := base) (k := 2) (b := b_numbers_at) F S2 hB
  refine ⟨ds, hd, q fun cdv A outer s H E c => ?_⟩
  exact (rss_cons (rs_set c 5 (re_lst ra_nil))
  (rss_cons (rs_for c (ri_rng2 (by rfl) (g_range S) (ra_cons (re_var 3) (ra_cons (re_var 4) ra_nil))) (rg_name c 6)
  (rss_cons (rs_set c 7 (re_call (G_data_block_4.mono (by decide : 2 ≤ 2)) c Asks.run (by rfl) (g_data_block S) hd_data_block_4 (fun _ _ _ => .nil) (ra_cons (re_var 0) (ra_cons (re_var 1) (ra_cons (re_var 2) (ra_cons (re_bin op_fdivN ok_div (re_var 6) (re_globI (by rfl) (g_WIDTH S))) ra_nil))))))
  (rss_one (rs_expr (re_bm (t := .list) PySem.F.plainAttrs_list PySem.F.slot_list_append PySem.F.type_list_append mt_append ok_append (re_var 5) (ra_cons (re_ifExp (rt_cmp op_isN ok_is (re_var 7) re_non rfl) re_int (re_ix ix_seq ok_ix (re_ix (ix_dict c.u1) ok_get (re_var 0) (re_meth (G_Shape_block_plate_2.mono (by decide : 1 ≤ 2)) c Asks.run (cl_Shape S) (mt_Shape_block_plate S) (by decide +kernel) hd_Shape_block_plate_2 (fun _ _ _ => .nil) (re_var 1) (ra_cons (re_var 7) ra_nil)) (fun _ _ => rfl)) (re_bin op_modN ok_mod (re_callTy call_int1 ok_int (by rfl) (g_int S) bt_int (ra_cons (re_var 6) ra_nil)) (re_globI (by rfl) (g_WIDTH S))) (fun _ _ => rfl))) ra_nil))))))
  (rss_one (rs_ret (re_callTy call_tuple_of ok_tuple (by rfl) (g_tuple S) bt_tuple (ra_cons (re_var 5) ra_nil))))))
abbrev N_content_of : List PySem.Str := ["home", "shape", "file"]
abbrev P_content_of : List PySem.Str := ["home", "shape", "file"]
noncomputable def b_content_of : Sx :=
  (sRet (eF (cl F_numbers_at []) (aCons (eVar 0) (aCons (eVar 1) (aCons (eVar 2) (aCons (eC (.int 0)) (aCons (eF (cl F_size_at []) (aCons (eVar 0) (aCons (eVar 1) (aCons (eVar 2) aNil)))) aNil)))))))
noncomputable def F_content_of : Fn := runDef 3 3 b_content_of
theorem sc_content_of : FnScope N_content_of P_content_of (defScope s_content_of) := ⟨rfl, rfl, rfl, by decide +kernel, rfl, by decide +kernel, by decide +kernel⟩
theorem ok_content_of_3 (S : Sys K mg) : ∃ ds, Vals ([] : List V) ds ∧ DefOk P w K mg base 4 (He.fAd K d_content_of.at_) P_content_of ds 3 F_content_of := by
  obtain ⟨ds_numbers_at_5, hd_numbers_at_5, G_numbers_at_5⟩ := ok_numbers_at_5 (P := P) (w := w) (base := base) S
  obtain ⟨ds_size_at_3, hd_size_at_3, G_size_at_3⟩ := ok_size_at_3 (P := P) (w := w) (base := base) S
  obtain ⟨fd, F⟩ := S.says.def_ 17 (d := d_content_of) rfl
  obtain ⟨ds, hd, hB⟩ : ∃ ds, Vals ([] : List V) ds ∧ Binds K fd P_content_of ds := ⟨[], .nil, F.bindsN fun _ _ _ _ _ _ us hl => match us, hl with | [_, _, _], _ => rfl⟩
  have S2 : FnScope N_content_of P_content_of d_content_of.scope := sc_content_of
  have q := def_ok (P := P) (w := w) (mg := mg) (base := base) (k := 3) (b := b_content_of) F S2 hB
  refine ⟨ds, hd, q fun cdv A outer s H E c => ?_⟩
  exact (rss_one (rs_ret (re_call (G_numbers_at_5.mono (by decide : 3 ≤ 3)) c Asks.run (by rfl) (g_numbers_at S) hd_numbers_at_5 (fun _ _ _ => .nil) (ra_cons (re_var 0) (ra_cons (re_var 1) (ra_cons (re_var 2) (ra_cons re_int (ra_cons (re_call (G_size_at_3.mono (by decide : 2 ≤ 3)) c Asks.run (by rfl) (g_size_at S) hd_size_at_3 (fun _ _ _ => .nil) (ra_cons (re_var 0) (ra_cons (re_var 1) (ra_cons (re_var 2) ra_nil)))) ra_nil))))))))
abbrev N_L_number : List PySem.Str := ["_law_script", "_law_index", "_law_cell", "_law_blend"]
abbrev P_L_number : List PySem.Str := ["_law_script", "_law_index"]
noncomputable def b_L_number : Sx :=
  (sSeq (sIf (tB (eF opEqX (aCons (eVar 0) (aCons (eF mkLst aNil) aNil)))) (sRet (eF biInt (aCons (eF opMod (aCons (eF opAdd (aCons (eF opMulX (aCons (eVar 1) (aCons (eC (.int 48271)) aNil))) (aCons (eC (.int 12345)) aNil))) (aCons (eC (.int 2147483647)) aNil))) aNil))) sNop)
  (sSeq (sAsg (eF opIx (aCons (eVar 0) (aCons (eF opMod (aCons (eVar 1) (aCons (eF biLen (aCons (eVar 0) aNil)) aNil))) aNil))) (gName 2))
  (sSeq (sIf (tB (eF opGe (aCons (eF biAbs (aCons (eVar 2) aNil)) (aCons (eF opPow (aCons (eC (.int 10)) (aCons (eC (.int 60)) aNil))) aNil)))) (sAsg (eF opMod (aCons (eVar 2) (aCons (eF opPow (aCons (eC (.int 10)) (aCons (eC (.int 18)) aNil))) aNil))) (gName 2)) sNop)
  (sSeq (sAsg (eF opMod (aCons (eF opAdd (aCons (eF opMulX (aCons (eF opAdd (aCons (eVar 2) (aCons (eF opMulX (aCons (eC (.int 977)) (aCons (eVar 1) aNil))) aNil))) (aCons (eC (.int 48271)) aNil))) (aCons (eF opMulX (aCons (eC (.int 31)) (aCons (eF biLen (aCons (eVar 0) aNil)) aNil))) aNil))) (aCons (eC (.int 2147483647)) aNil))) (gName 3))
  (sRet (eF biInt (aCons (eF opMod (aCons (eF opAdd (aCons (eF opMulX (aCons (eF opMod (aCons (eF opMulX (aCons (eVar 3) (aCons (eC (.int 69621)) aNil))) (aCons (eC (.int 2147483629)) aNil))) (aCons (eC (.int 16807)) aNil))) (aCons (eVar 1) aNil))) (aCons (eC (.int 2147483587)) aNil))) aNil)))))))
noncomputable def F_L_number : Fn := runDef 2 4 b_L_number
theorem sc_L_number : FnScope N_L_number P_L_number (defScope s_L_number) := ⟨rfl, rfl, rfl, by decide +kernel, rfl, by decide +kernel, by decide +kernel⟩
theorem ok_L_number_2 (S : Sys K mg) : ∃ ds, Vals ([] : List V) ds ∧ DefOk P w K mg base 1 (He.fAd K d_L_number.at_) P_L_number ds 2 F_L_number := by
  obtain ⟨fd, F⟩ := S.says.def_ 18 (d := d_L_number) rfl
  obtain ⟨ds, hd, hB⟩ : ∃ ds, Vals ([] : List V) ds ∧ Binds K fd P_L_number ds := ⟨[], .nil, F.bindsN fun _ _ _ _ _ _ us hl => match us, hl with | [_, _], _ => rfl⟩
  have S2 : FnScope N_L_number P_L_number d_L_number.scope := sc_L_number
  have q := def_ok (P := P) (w := w) (mg := mg) (base := base) (k := 0) (b := b_L_number) F S2 hB
  refine ⟨ds, hd, q fun cdv A outer s H E c => ?_⟩
  exact (rss_cons (rs_if (rt_cmp (op_eqA c.u65) ok_eqA (re_var 0) (re_lst ra_nil) rfl) (rss_one (rs_ret (re_callTy call_int1 ok_int (by rfl) (g_int S) bt_int (ra_cons (re_bin op_modN ok_mod (re_bin op_add4 ok_add (re_bin op_mulX ok_mulX (re_var 1) re_int) re_int) re_int) ra_nil)))) rss_nil)
  (rss_cons (rs_set c 2 (re_ix ix_seq ok_ix (re_var 0) (re_bin op_modN ok_mod (re_var 1) (re_callB call_len_seq ok_len (by rfl) (g_len S) bt_len (ra_cons (re_var 0) ra_nil))) (fun _ _ => rfl)))
  (rss_cons (rs_if (rt_cmp op_ge ok_ge (re_callB call_abs ok_abs (by rfl) (g_abs S) bt_abs (ra_cons (re_var 2) ra_nil)) (re_bin op_pow ok_pow re_int re_int) rfl) (rss_one (rs_set c 2 (re_bin op_modN ok_mod (re_var 2) (re_bin op_pow ok_pow re_int re_int)))) rss_nil)
  (rss_cons (rs_set c 3 (re_bin op_modN ok_mod (re_bin op_add4 ok_add (re_bin op_mulX ok_mulX (re_bin op_add4 ok_add (re_var 2) (re_bin op_mulX ok_mulX re_int (re_var 1))) re_int) (re_bin op_mulX ok_mulX re_int (re_callB call_len_seq ok_len (by rfl) (g_len S) bt_len (ra_cons (re_var 0) ra_nil)))) re_int))
  (rss_one (rs_ret (re_callTy call_int1 ok_int (by rfl) (g_int S) bt_int (ra_cons (re_bin op_modN ok_mod (re_bin op_add4 ok_add (re_bin op_mulX ok_mulX (re_bin op_modN ok_mod (re_bin op_mulX ok_mulX (re_var 3) re_int) re_int) re_int) (re_var 1)) re_int) ra_nil))))))))
abbrev N_L_take : List PySem.Str := ["_law_draw", "_law_many"]
abbrev P_L_take : List PySem.Str := ["_law_draw", "_law_many"]
noncomputable def b_L_take : Sx :=
  (sSeq (sAugS (eVar 0) (eC (.int 1)) (eC (.int 1)) opIxL opAddI stIx)
  (sRet (eF opMod (aCons (eF biInt (aCons (eF (cl F_L_number []) (aCons (eF opIx (aCons (eVar 0) (aCons (eC (.int 0)) aNil))) (aCons (eF biInt (aCons (eF opIx (aCons (eVar 0) (aCons (eC (.int 1)) aNil))) aNil)) aNil))) aNil)) (aCons (eVar 1) aNil)))))
noncomputable def F_L_take : Fn := runDef 2 2 b_L_take
theorem sc_L_take : FnScope N_L_take P_L_take (defScope s_L_take) := ⟨rfl, rfl, rfl, by decide +kernel, rfl, by decide +kernel, by decide +kernel⟩
theorem ok_L_take_2 (S : Sys K mg) : ∃ ds, Vals ([] : List V) ds ∧ DefOk P w K mg base 2 (He.fAd K d_L_take.at_) P_L_take ds 2 F_L_take := by
  obtain ⟨ds_L_number_2, hd_L_number_2, G_L_number_2⟩ := ok_L_number_2 (P := P) (w := w) (base := base) S
  obtain ⟨fd, F⟩ := S.says.def_ 19 (d := d_L_take) rfl
  obtain ⟨ds, hd, hB⟩ : ∃ ds, Vals ([] : List V) ds ∧ Binds K fd P_L_take ds := ⟨[], .nil, F.bindsN fun _ _ _ _ _ _ us hl => match us, hl with | [_, _], _ => rfl⟩
  have S2 : FnScope N_L_take P_L_take d_L_take.scope := sc_L_take
  have q := def_ok (P := P) (w := w) (mg := mg) (base := base) (k := 1) (b := b_L_take) F S2 hB
  refine ⟨ds, hd, q fun cdv A outer s H E c => ?_⟩
  exact (rss_cons (rs_augS get_list ok_ixL ip_add ok_ipadd set_list ok_set (re_var 0) re_int re_int)
  (rss_one (rs_ret (re_bin op_modN ok_mod (re_callTy call_int1 ok_int (by rfl) (g_int S) bt_int (ra_cons (re_call (G_L_number_2.mono (by decide : 1 ≤ 1)) c Asks.run (by rfl) (g__law_number S) hd_L_number_2 (fun _ _ _ => .nil) (ra_cons (re_ix ix_seq ok_ix (re_var 0) re_int (fun _ _ => rfl)) (ra_cons (re_callTy call_int1 ok_int (by rfl) (g_int S) bt_int (ra_cons (re_ix ix_seq ok_ix (re_var 0) re_int (fun _ _ => rfl)) ra_nil)) ra_nil))) ra_nil)) (re_var 1)))))
abbrev N_L_pick : List PySem.Str := ["_law_draw", "_law_items"]
abbrev P_L_pick : List PySem.Str := ["_law_draw", "_law_items"]
noncomputable def b_L_pick : Sx :=
  (sRet (eF opIx (aCons (eVar 1) (aCons (eF (cl F_L_take []) (aCons (eVar 0) (aCons (eF biLen (aCons (eVar 1) aNil)) aNil))) aNil))))
noncomputable def F_L_pick : Fn := runDef 2 2 b_L_pick
theorem sc_L_pick : FnScope N_L_pick P_L_pick (defScope s_L_pick) := ⟨rfl, rfl, rfl, by decide +kernel, rfl, by decide +kernel, by decide +kernel⟩
theorem ok_L_pick_2 (S : Sys K mg) : ∃ ds, Vals ([] : List V) ds ∧ DefOk P w K mg base 3 (He.fAd K d_L_pick.at_) P_L_pick ds 2 F_L_pick := by
  obtain ⟨ds_L_take_2, hd_L_take_2, G_L_take_2⟩ := ok_L_take_2 (P := P) (w := w) (base := base) S
  obtain ⟨fd, F⟩ := S.says.def_ 20 (d := d_L_pick) rfl
  obtain ⟨ds, hd, hB⟩ : ∃ ds, Vals ([] : List V) ds ∧ Binds K fd P_L_pick ds := ⟨[], .nil, F.bindsN fun _ _ _ _ _ _ us hl => match us, hl with | [_, _], _ => rfl⟩
  have S2 : FnScope N_L_pick P_L_pick d_L_pick.scope := sc_L_pick
  have q := def_ok (P := P) (w := w) (mg := mg) (base := base) (k := 2) (b := b_L_pick) F S2 hB
  refine ⟨ds, hd, q fun cdv A outer s H E c => ?_⟩
  exact (rss_one (rs_ret (re_ix ix_seq ok_ix (re_var 1) (re_call (G_L_take_2.mono (by decide : 2 ≤ 2)) c Asks.run (by rfl) (g__law_take S) hd_L_take_2 (fun _ _ _ => .nil) (ra_cons (re_var 0) (ra_cons (re_callB call_len_seq ok_len (by rfl) (g_len S) bt_len (ra_cons (re_var 1) ra_nil)) ra_nil))) (fun _ _ => rfl))))
abbrev N_L_unlike : List PySem.Str := ["_law_items", "_law_found", "_law_one"]
abbrev P_L_unlike : List PySem.Str := ["_law_items"]
noncomputable def b_L_unlike : Sx :=
  (sSeq (sAsg (eF mkDit aNil) (gName 1))
  (sSeq (sFor (iSeq (eVar 0)) (gName 2)
  (sAsg (eC (.bl true)) (gSub (eVar 1) (eVar 2) stPut)))
  (sRet (eF biSortK (aCons (eVar 1) aNil)))))
noncomputable def F_L_unlike : Fn := runDef 1 3 b_L_unlike
theorem sc_L_unlike : FnScope N_L_unlike P_L_unlike (defScope s_L_unlike) := ⟨rfl, rfl, rfl, by decide +kernel, rfl, by decide +kernel, by decide +kernel⟩
theorem ok_L_unlike_1 (S : Sys K mg) : ∃ ds, Vals ([] : List V) ds ∧ DefOk P w K mg base 1 (He.fAd K d_L_unlike.at_) P_L_unlike ds 1 F_L_unlike := by
  obtain ⟨fd, F⟩ := S.says.def_ 21 (d := d_L_unlike) rfl
  obtain ⟨ds, hd, hB⟩ : ∃ ds, Vals ([] : List V) ds ∧ Binds K fd P_L_unlike ds := ⟨[], .nil, F.bindsN fun _ _ _ _ _ _ us hl => match us, hl with | [_], _ => rfl⟩
  have S2 : FnScope N_L_unlike P_L_unlike d_L_unlike.scope := sc_L_unlike
  have q := def_ok (P := P) (w := w) (mg := mg) (base := base) (k := 0) (b := b_L_unlike) F S2 hB
  refine ⟨ds, hd, q fun cdv A outer s H E c => ?_⟩
  exact (rss_cons (rs_set c 1 re_dit)
  (rss_cons (rs_for c (ri_seq (re_var 0)) (rg_name c 2)
  (rss_one (rs_asg re_bl (rg_sub (set_dict c.u1) ok_put (re_var 1) (re_var 2)))))
  (rss_one (rs_ret (re_callB (cr_sortedK c.calm) ok_sortK (by rfl) (g_sorted S) bt_sorted (ra_cons (re_var 1) ra_nil))))))
abbrev N_Shape_user_cell : List PySem.Str := ["self", "user"]
abbrev P_Shape_user_cell : List PySem.Str := ["self", "user"]
noncomputable def b_Shape_user_cell : Sx :=
  (sRet (eF mkTup (aCons (eF opAdd (aCons (eF (fFld [0] 6) (aCons (eVar 0) aNil)) (aCons (eF opDiv (aCons (eVar 1) (aCons (eC (.int 8)) aNil))) aNil))) (aCons (eF opMod (aCons (eF biInt (aCons (eVar 1) aNil)) (aCons (eC (.int 8)) aNil))) aNil))))
noncomputable def F_Shape_user_cell : Fn := runDef 2 2 b_Shape_user_cell
theorem sc_Shape_user_cell : FnScope N_Shape_user_cell P_Shape_user_cell (defScope s_Shape_user_cell) := ⟨rfl, rfl, rfl, by decide +kernel, rfl, by decide +kernel, by decide +kernel⟩
theorem ok_Shape_user_cell_2 (S : Sys K mg) : ∃ ds, Vals ([] : List V) ds ∧ DefOk P w K mg base 1 (He.fAd K d_Shape_user_cell.at_) P_Shape_user_cell ds 2 F_Shape_user_cell := by
  obtain ⟨fd, F⟩ := S.says.def_ 35 (d := d_Shape_user_cell) rfl
  obtain ⟨ds, hd, hB⟩ : ∃ ds, Vals ([] : List V) ds ∧ Binds K fd P_Shape_user_cell ds := ⟨[], .nil, F.bindsN fun _ _ _ _ _ _ us hl => match us, hl with | [_, _], _ => rfl⟩
  have S2 : FnScope N_Shape_user_cell P_Shape_user_cell d_Shape_user_cell.scope := sc_Shape_user_cell
  have q := def_ok (P := P) (w := w) (mg := mg) (base := base) (k := 0) (b := b_Shape_user_cell) F S2 hB
  refine ⟨ds, hd, q fun cdv A outer s H E c => ?_⟩
  exact (rss_one (rs_ret (re_tup (ra_cons (re_bin op_add4 ok_add (re_fld (at_first_user S) (re_var 0)) (re_bin op_fdivN ok_div (re_var 1) (re_globI (by rfl) (g_WIDTH S)))) (ra_cons (re_bin op_modN ok_mod (re_callTy call_int1 ok_int (by rfl) (g_int S) bt_int (ra_cons (re_var 1) ra_nil)) (re_globI (by rfl) (g_WIDTH S))) ra_nil)))))
abbrev N_Shape_clock_cell : List PySem.Str := ["self"]
abbrev P_Shape_clock_cell : List PySem.Str := ["self"]
noncomputable def b_Shape_clock_cell : Sx :=
  (sRet (eF mkTup (aCons (eC (.int 0)) (aCons (eC (.int 0)) aNil))))
noncomputable def F_Shape_clock_cell : Fn := runDef 1 1 b_Shape_clock_cell
theorem sc_Shape_clock_cell : FnScope N_Shape_clock_cell P_Shape_clock_cell (defScope s_Shape_clock_cell) := ⟨rfl, rfl, rfl, by decide +kernel, rfl, by decide +kernel, by decide +kernel⟩
theorem ok_Shape_clock_cell_1 (S : Sys K mg) : ∃ ds, Vals ([] : List V) ds ∧ DefOk P w K mg base 1 (He.fAd K d_Shape_clock_cell.at_) P_Shape_clock_cell ds 1 F_Shape_clock_cell := by
  obtain ⟨fd, F⟩ := S.says.def_ 32 (d := d_Shape_clock_cell) rfl
  obtain ⟨ds, hd, hB⟩ : ∃ ds, Vals ([] : List V) ds ∧ Binds K fd P_Shape_clock_cell ds := ⟨[], .nil, F.bindsN fun _ _ _ _ _ _ us hl => match us, hl with | [_], _ => rfl⟩
  have S2 : FnScope N_Shape_clock_cell P_Shape_clock_cell d_Shape_clock_cell.scope := sc_Shape_clock_cell
  have q := def_ok (P := P) (w := w) (mg := mg) (base := base) (k := 0) (b := b_Shape_clock_cell) F S2 hB
  refine ⟨ds, hd, q fun cdv A outer s H E c => ?_⟩
  exact (rss_one (rs_ret (re_tup (ra_cons re_int (ra_cons re_int ra_nil)))))
abbrev N_L_cells_of : List PySem.Str := ["_law_shape", "_law_places", "_law_one"]
abbrev P_L_cells_of : List PySem.Str := ["_law_shape"]
noncomputable def b_L_cells_of : Sx :=
  (sSeq (sAsg (eF opAdd (aCons (eLc (iRng1 (aCons (eF (fFld [0] 0) (aCons (eVar 0) aNil)) aNil)) (gName 2) tYes (eM 0 (cl F_Shape_dir_cell []) (eVar 0) (aCons (eVar 2) aNil)) [2]) (aCons (eLc (iRng1 (aCons (eF (fFld [0] 1) (aCons (eVar 0) aNil)) aNil)) (gName 2) tYes (eM 0 (cl F_Shape_row_cell []) (eVar 0) (aCons (eVar 2) aNil)) [2]) aNil))) (gName 1))
  (sSeq (sAug 1 (eLc (iRng1 (aCons (eF (fFld [0] 4) (aCons (eVar 0) aNil)) aNil)) (gName 2) tYes (eM 0 (cl F_Shape_user_cell []) (eVar 0) (aCons (eVar 2) aNil)) [2]) opIAdd)
  (sRet (eF opAdd (aCons (eF opAdd (aCons (eF opAdd (aCons (eF mkLst (aCons (eM 0 (cl F_Shape_clock_cell []) (eVar 0) aNil) aNil)) (aCons (eVar 1) aNil))) (aCons (eLc (iRng1 (aCons (eF (fFld [0] 2) (aCons (eVar 0) aNil)) aNil)) (gName 2) tYes (eF mkTup (aCons (eM 0 (cl F_Shape_file_plate []) (eVar 0) (aCons (eVar 2) aNil)) (aCons (eC (.int 0)) aNil))) [2]) aNil))) (aCons (eLc (iRng1 (aCons (eF (fFld [0] 3) (aCons (eVar 0) aNil)) aNil)) (gName 2) tYes (eF mkTup (aCons (eM 0 (cl F_Shape_block_plate []) (eVar 0) (aCons (eVar 2) aNil)) (aCons (eC (.int 0)) aNil))) [2]) aNil))))))
noncomputable def F_L_cells_of : Fn := runDef 1 3 b_L_cells_of
theorem sc_L_cells_of : FnScope N_L_cells_of P_L_cells_of (defScope s_L_cells_of) := ⟨rfl, rfl, rfl, by decide +kernel, rfl, by decide +kernel, by decide +kernel⟩
theorem ok_L_cells_of_1 (S : Sys K mg) : ∃ ds, Vals ([] : List V) ds ∧ DefOk P w K mg base 2 (He.fAd K d_L_cells_of.at_) P_L_cells_of ds 1 F_L_cells_of := by
  obtain ⟨ds_Shape_user_cell_2, hd_Shape_user_cell_2, G_Shape_user_cell_2⟩ := ok_Shape_user_cell_2 (P := P) (w := w) (base := base) S
  obtain ⟨ds_Shape_dir_cell_2, hd_Shape_dir_cell_2, G_Shape_dir_cell_2⟩ := ok_Shape_dir_cell_2 (P := P) (w := w) (base := base) S
  obtain ⟨ds_Shape_row_cell_2, hd_Shape_row_cell_2, G_Shape_row_cell_2⟩ := ok_Shape_row_cell_2 (P := P) (w := w) (base := base) S
  obtain ⟨ds_Shape_block_plate_2, hd_Shape_block_plate_2, G_Shape_block_plate_2⟩ := ok_Shape_block_plate_2 (P := P) (w := w) (base := base) S
  obtain ⟨ds_Shape_clock_cell_1, hd_Shape_clock_cell_1, G_Shape_clock_cell_1⟩ := ok_Shape_clock_cell_1 (P := P) (w := w) (base := base) S
  obtain ⟨ds_Shape_file_plate_2, hd_Shape_file_plate_2, G_Shape_file_plate_2⟩ := ok_Shape_file_plate_2 (P := P) (w := w) (base := base) S
  obtain ⟨fd, F⟩ := S.says.def_ 22 (d := d_L_cells_of) rfl
  obtain ⟨ds, hd, hB⟩ : ∃ ds, Vals ([] : List V) ds ∧ Binds K fd P_L_cells_of ds := ⟨[], .nil, F.bindsN fun _ _ _ _ _ _ us hl => match us, hl with | [_], _ => rfl⟩
  have S2 : FnScope N_L_cells_of P_L_cells_of d_L_cells_of.scope := sc_L_cells_of
  have q := def_ok (P := P) (w := w) (mg := mg) (base := base) (k := 1) (b := b_L_cells_of) F S2 hB
  refine ⟨ds, hd, q fun cdv A outer s H E c => ?_⟩
  exact (rss_cons (rs_set c 1 (re_bin op_add4 ok_add (re_lc (own := [("_law_one", 2)]) c (ri_rng1 (by rfl) (g_range S) (ra_cons (re_fld (at_dirs S) (re_var 0)) ra_nil)) (blk_of rfl) (fun s0 H0 C0 cl0 fp0 => (rgo_name (c.blk s0 H0 C0 cl0 fp0).nd 2 rfl (.inl rfl) (.inr rfl) (by decide))) (fun s0 H0 C0 cl0 fp0 => rts_nil) (fun s0 H0 C0 cl0 fp0 => (re_meth (G_Shape_dir_cell_2.mono (by decide : 1 ≤ 1)) (c.blk s0 H0 C0 cl0 fp0) Asks.run (cl_Shape S) (mt_Shape_dir_cell S) (by decide +kernel) hd_Shape_dir_cell_2 (fun _ _ _ => .nil) (re_var 0) (ra_cons (re_var 2) ra_nil)))) (re_lc (own := [("_law_one", 2)]) c (ri_rng1 (by rfl) (g_range S) (ra_cons (re_fld (at_rows S) (re_var 0)) ra_nil)) (blk_of rfl) (fun s0 H0 C0 cl0 fp0 => (rgo_name (c.blk s0 H0 C0 cl0 fp0).nd 2 rfl (.inl rfl) (.inr rfl) (by decide))) (fun s0 H0 C0 cl0 fp0 => rts_nil) (fun s0 H0 C0 cl0 fp0 => (re_meth (G_Shape_row_cell_2.mono (by decide : 1 ≤ 1)) (c.blk s0 H0 C0 cl0 fp0) Asks.run (cl_Shape S) (mt_Shape_row_cell S) (by decide +kernel) hd_Shape_row_cell_2 (fun _ _ _ => .nil) (re_var 0) (ra_cons (re_var 2) ra_nil))))))
  (rss_cons (rs_aug c 1 ip_iadd ok_iadd (re_lc (own := [("_law_one", 2)]) c (ri_rng1 (by rfl) (g_range S) (ra_cons (re_fld (at_users S) (re_var 0)) ra_nil)) (blk_of rfl) (fun s0 H0 C0 cl0 fp0 => (rgo_name (c.blk s0 H0 C0 cl0 fp0).nd 2 rfl (.inl rfl) (.inr rfl) (by decide))) (fun s0 H0 C0 cl0 fp0 => rts_nil) (fun s0 H0 C0 cl0 fp0 => (re_meth (G_Shape_user_cell_2.mono (by decide : 1 ≤ 1)) (c.blk s0 H0 C0 cl0 fp0) Asks.run (cl_Shape S) (mt_Shape_user_cell S) (by decide +kernel) hd_Shape_user_cell_2 (fun _ _ _ => .nil) (re_var 0) (ra_cons (re_var 2) ra_nil)))))
  (rss_one (rs_ret (re_bin op_add4 ok_add (re_bin op_add4 ok_add (re_bin op_add4 ok_add (re_lst (ra_cons (re_meth0 (G_Shape_clock_cell_1.mono (by decide : 1 ≤ 1)) c Asks.run (cl_Shape S) (mt_Shape_clock_cell S) (by decide +kernel) hd_Shape_clock_cell_1 (fun _ _ _ => .nil) (re_var 0)) ra_nil)) (re_var 1)) (re_lc (own := [("_law_one", 2)]) c (ri_rng1 (by rfl) (g_range S) (ra_cons (re_fld (at_files S) (re_var 0)) ra_nil)) (blk_of rfl) (fun s0 H0 C0 cl0 fp0 => (rgo_name (c.blk s0 H0 C0 cl0 fp0).nd 2 rfl (.inl rfl) (.inr rfl) (by decide))) (fun s0 H0 C0 cl0 fp0 => rts_nil) (fun s0 H0 C0 cl0 fp0 => (re_tup (ra_cons (re_meth (G_Shape_file_plate_2.mono (by decide : 1 ≤ 1)) (c.blk s0 H0 C0 cl0 fp0) Asks.run (cl_Shape S) (mt_Shape_file_plate S) (by decide +kernel) hd_Shape_file_plate_2 (fun _ _ _ => .nil) (re_var 0) (ra_cons (re_var 2) ra_nil)) (ra_cons re_int ra_nil)))))) (re_lc (own := [("_law_one", 2)]) c (ri_rng1 (by rfl) (g_range S) (ra_cons (re_fld (at_blocks S) (re_var 0)) ra_nil)) (blk_of rfl) (fun s0 H0 C0 cl0 fp0 => (rgo_name (c.blk s0 H0 C0 cl0 fp0).nd 2 rfl (.inl rfl) (.inr rfl) (by decide))) (fun s0 H0 C0 cl0 fp0 => rts_nil) (fun s0 H0 C0 cl0 fp0 => (re_tup (ra_cons (re_meth (G_Shape_block_plate_2.mono (by decide : 1 ≤ 1)) (c.blk s0 H0 C0 cl0 fp0) Asks.run (cl_Shape S) (mt_Shape_block_plate S) (by decide +kernel) hd_Shape_block_plate_2 (fun _ _ _ => .nil) (re_var 0) (ra_cons (re_var 2) ra_nil)) (ra_cons re_int ra_nil))))))))))
abbrev N_L_any : List PySem.Str := ["_law_draw", "_law_shape", "_law_kinds", "_law_home", "_law_plate", "_law_one"]
abbrev P_L_any : List PySem.Str := ["_law_draw", "_law_shape"]
noncomputable def b_L_any : Sx :=
  (sSeq (sAsg (eF mkLst (aCons (eC (.int 0)) (aCons (eC (.int 0)) (aCons (eC (.int 1)) (aCons (eC (.int 2)) (aCons (eC (.int 3)) (aCons (eF opNeg (aCons (eC (.int 1)) aNil)) (aCons (eF (fFld [0] 3) (aCons (eVar 1) aNil)) (aCons (eF opAdd (aCons (eF (fFld [0] 3) (aCons (eVar 1) aNil)) (aCons (eC (.int 1)) aNil))) (aCons (eF opAdd (aCons (eC (.int 1)) (aCons (eF opMulX (aCons (eC (.int 2)) (aCons (eC (.int 475254)) aNil))) aNil))) (aCons (eF opAdd (aCons (eC (.int 5)) (aCons (eC (.int 475254)) aNil))) (aCons (eF opAdd (aCons (eF opMulX (aCons (eF opMulX (aCons (eC (.int 3)) (aCons (eC (.int 475254)) aNil))) (aCons (eF (fFld [0] 2) (aCons (eVar 1) aNil)) aNil))) (aCons (eC (.int 7)) aNil))) (aCons (eF opPow (aCons (eC (.int 10)) (aCons (eC (.int 20)) aNil))) (aCons (eC (.int 40)) aNil)))))))))))))) (gName 2))
  (sSeq (sAsg (eF mkDic aNil) (gName 3))
  (sSeq (sFor (iRng1 (aCons (eF (fFld [0] 9) (aCons (eVar 1) aNil)) aNil)) (gName 4)
  (sAsg (eF biTuple (aCons (eLc (iRng1 (aCons (eC (.int 8)) aNil)) (gName 5) tYes (eF (cl F_L_pick []) (aCons (eVar 0) (aCons (eVar 2) aNil))) [5]) aNil)) (gSub (eVar 3) (eVar 4) stPut)))
  (sRet (eVar 3)))))
noncomputable def F_L_any : Fn := runDef 2 6 b_L_any
theorem sc_L_any : FnScope N_L_any P_L_any (defScope s_L_any) := ⟨rfl, rfl, rfl, by decide +kernel, rfl, by decide +kernel, by decide +kernel⟩
theorem ok_L_any_2 (S : Sys K mg) : ∃ ds, Vals ([] : List V) ds ∧ DefOk P w K mg base 4 (He.fAd K d_L_any.at_) P_L_any ds 2 F_L_any := by
  obtain ⟨ds_L_pick_2, hd_L_pick_2, G_L_pick_2⟩ := ok_L_pick_2 (P := P) (w := w) (base := base) S
  obtain ⟨fd, F⟩ := S.says.def_ 23 (d := d_L_any) rfl
  obtain ⟨ds, hd, hB⟩ : ∃ ds, Vals ([] : List V) ds ∧ Binds K fd P_L_any ds := ⟨[], .nil, F.bindsN fun _ _ _ _ _ _ us hl => match us, hl with | [_, _], _ => rfl⟩
  have S2 : FnScope N_L_any P_L_any d_L_any.scope := sc_L_any
  have q := def_ok (P := P) (w := w) (mg := mg) (base := base) (k := 3) (b := b_L_any) F S2 hB
  refine ⟨ds, hd, q fun cdv A outer s H E c => ?_⟩
  exact (rss_cons (rs_set c 2 (re_lst (ra_cons re_int (ra_cons re_int (ra_cons re_int (ra_cons re_int (ra_cons re_int (ra_cons (re_un un_neg ok_neg re_int) (ra_cons (re_fld (at_blocks S) (re_var 1)) (ra_cons (re_bin op_add4 ok_add (re_fld (at_blocks S) (re_var 1)) re_int) (ra_cons (re_bin op_add4 ok_add re_int (re_bin op_mulX ok_mulX re_int (re_globI (by rfl) (g_NAMES S)))) (ra_cons (re_bin op_add4 ok_add re_int (re_globI (by rfl) (g_NAMES S))) (ra_cons (re_bin op_add4 ok_add (re_bin op_mulX ok_mulX (re_bin op_mulX ok_mulX re_int (re_globI (by rfl) (g_NAMES S))) (re_fld (at_files S) (re_var 1))) re_int) (ra_cons (re_bin op_pow ok_pow re_int re_int) (ra_cons re_int ra_nil)))))))))))))))
  (rss_cons (rs_set c 3 re_dic)
  (rss_cons (rs_for c (ri_rng1 (by rfl) (g_range S) (ra_cons (re_fld (at_plates S) (re_var 1)) ra_nil)) (rg_name c 4)
  (rss_one (rs_asg (re_callTy call_tuple_of ok_tuple (by rfl) (g_tuple S) bt_tuple (ra_cons (re_lc (own := [("_law_one", 5)]) c (ri_rng1 (by rfl) (g_range S) (ra_cons (re_globI (by rfl) (g_WIDTH S)) ra_nil)) (blk_of rfl) (fun s0 H0 C0 cl0 fp0 => (rgo_name (c.blk s0 H0 C0 cl0 fp0).nd 5 rfl (.inl rfl) (.inr rfl) (by decide))) (fun s0 H0 C0 cl0 fp0 => rts_nil) (fun s0 H0 C0 cl0 fp0 => (re_call (G_L_pick_2.mono (by decide : 3 ≤ 3)) (c.blk s0 H0 C0 cl0 fp0) Asks.run (by rfl) (g__law_pick S) hd_L_pick_2 (fun _ _ _ => .nil) (ra_cons (re_var 0) (ra_cons (re_var 2) ra_nil))))) ra_nil)) (rg_sub (set_dict c.u1) ok_put (re_var 3) (re_var 4)))))
  (rss_one (rs_ret (re_var 3))))))
noncomputable def st_L_is_read_0 : Sx :=
  (sPar 3 4 (aCons (eF opGet (aCons (eVar 0) (aCons (eM 0 (cl F_Shape_file_plate []) (eVar 1) (aCons (eVar 2) aNil)) aNil))) (aCons (eF mkLst aNil) aNil)))
noncomputable def bd_L_is_read_1 : Sx :=
  (sSeq (sPar 6 7 (aCons (eC .non) (aCons (eVar 3) aNil)))
  (sSeq (sFor (iSeq (eF (cl F_spot_of []) (aCons (eVar 5) aNil))) (gName 8)
  (sSeq (sAsg (eIf (tB (eChain opLe opLe (eC (.int 1)) (eF opIx (aCons (eVar 7) (aCons (eVar 8) aNil))) (eF (fFld [0] 3) (aCons (eVar 1) aNil)))) (eF opSub (aCons (eF opIx (aCons (eVar 7) (aCons (eVar 8) aNil))) (aCons (eC (.int 1)) aNil))) (eC .non)) (gName 6))
  (sSeq (sIf (tB (eF opIs (aCons (eVar 6) (aCons (eC .non) aNil)))) sBrk sNop)
  (sAsg (eF opGet (aCons (eVar 0) (aCons (eM 0 (cl F_Shape_block_plate []) (eVar 1) (aCons (eVar 6) aNil)) aNil))) (gName 7)))))
  (sSeq (sIf (tB (eF opNeX (aCons (eF (cl F_data_block []) (aCons (eVar 0) (aCons (eVar 1) (aCons (eVar 2) (aCons (eVar 5) aNil))))) (aCons (eVar 6) aNil)))) (sRet (eC (.bl false))) sNop)
  (sAug 4 (eIf (tB (eF opIs (aCons (eVar 6) (aCons (eC .non) aNil)))) (eF opMulX (aCons (eF mkLst (aCons (eC (.int 0)) aNil)) (aCons (eC (.int 8)) aNil))) (eF biListX (aCons (eF opGet (aCons (eVar 0) (aCons (eM 0 (cl F_Shape_block_plate []) (eVar 1) (aCons (eVar 6) aNil)) aNil))) aNil))) opIAdd))))
noncomputable def st_L_is_read_1 : Sx :=
  (sFor (iRng1 (aCons (eC (.int 75)) aNil)) (gName 5)
  bd_L_is_read_1)
noncomputable def st_L_is_read_2 : Sx :=
  (sAsg (eF biMaxX (aCons (eC (.int 0)) (aCons (eF biMin2 (aCons (eF opIx (aCons (eVar 3) (aCons (eC (.int 0)) aNil))) (aCons (eC (.int 600)) aNil))) aNil))) (gName 9))
noncomputable def st_L_is_read_3 : Sx :=
  (sIf (tOr (tB (eF opNeX (aCons (eF (cl F_size_at []) (aCons (eVar 0) (aCons (eVar 1) (aCons (eVar 2) aNil)))) (aCons (eVar 9) aNil)))) (tB (eF opNeX (aCons (eF (cl F_content_of []) (aCons (eVar 0) (aCons (eVar 1) (aCons (eVar 2) aNil)))) (aCons (eF biTuple (aCons (eSl (eVar 4) pNone (pSome (eVar 9))) aNil)) aNil))))) (sRet (eC (.bl false))) sNop)
noncomputable def st_L_is_read_4 : Sx :=
  (sRet (eAnd (eF opEqX (aCons (eF (cl F_numbers_at []) (aCons (eVar 0) (aCons (eVar 1) (aCons (eVar 2) (aCons (eC (.int 0)) (aCons (eC (.int 600)) aNil)))))) (aCons (eF biTuple (aCons (eVar 4) aNil)) aNil))) (eInRg (eF (cl F_owner_at []) (aCons (eVar 0) (aCons (eVar 1) (aCons (eVar 2) aNil)))) (eF (fFld [0] 4) (aCons (eVar 1) aNil)))))
abbrev N_L_is_read : List PySem.Str := ["_law_home", "_law_shape", "_law_file", "_law_plate", "_law_found", "_law_number_here", "_law_block", "_law_late", "_law_place", "_law_size"]
abbrev P_L_is_read : List PySem.Str := ["_law_home", "_law_shape", "_law_file"]
noncomputable def b_L_is_read : Sx :=
  (sSeq st_L_is_read_0
  (sSeq st_L_is_read_1
  (sSeq st_L_is_read_2
  (sSeq st_L_is_read_3
  st_L_is_read_4))))
noncomputable def F_L_is_read : Fn := runDef 3 10 b_L_is_read
theorem sc_L_is_read : FnScope N_L_is_read P_L_is_read (defScope s_L_is_read) := ⟨rfl, rfl, rfl, by decide +kernel, rfl, by decide +kernel, by decide +kernel⟩
theorem ok_L_is_read_3 (S : Sys K mg) : ∃ ds, Vals ([] : List V) ds ∧ DefOk P w K mg base 5 (He.fAd K d_L_is_read.at_) P_L_is_read ds 3 F_L_is_read := by
  obtain ⟨ds_spot_of_1, hd_spot_of_1, G_spot_of_1⟩ := ok_spot_of_1 (P := P) (w := w) (base := base) S
  obtain ⟨ds_Shape_file_plate_2, hd_Shape_file_plate_2, G_Shape_file_plate_2⟩ := ok_Shape_file_plate_2 (P := P) (w := w) (base := base) S
  obtain ⟨ds_data_block_4, hd_data_block_4, G_data_block_4⟩ := ok_data_block_4 (P := P) (w := w) (base := base) S
  obtain ⟨ds_size_at_3, hd_size_at_3, G_size_at_3⟩ := ok_size_at_3 (P := P) (w := w) (base := base) S
  obtain ⟨ds_content_of_3, hd_content_of_3, G_content_of_3⟩ := ok_content_of_3 (P := P) (w := w) (base := base) S
  obtain ⟨ds_numbers_at_5, hd_numbers_at_5, G_numbers_at_5⟩ := ok_numbers_at_5 (P := P) (w := w) (base := base) S
  obtain ⟨ds_owner_at_3, hd_owner_at_3, G_owner_at_3⟩ := ok_owner_at_3 (P := P) (w := w) (base := base) S
  obtain ⟨ds_Shape_block_plate_2, hd_Shape_block_plate_2, G_Shape_block_plate_2⟩ := ok_Shape_block_plate_2 (P := P) (w := w) (base := base) S
  obtain ⟨fd, F⟩ := S.says.def_ 24 (d := d_L_is_read) rfl
  obtain ⟨ds, hd, hB⟩ : ∃ ds, Vals ([] : List V) ds ∧ Binds K fd P_L_is_read ds := ⟨[], .nil, F.bindsN fun _ _ _ _ _ _ us hl => match us, hl with | [_, _, _], _ => rfl⟩
  have S2 : FnScope N_L_is_read P_L_is_read d_L_is_read.scope := sc_L_is_read
  have q := def_ok (P := P) (w := w) (mg := mg) (base := base) (k := 4) (b := b_L_is_read) F S2 hB
  refine ⟨ds, hd, q fun cdv A outer s H E c => ?_⟩
  exact (rss_cons (rs_par c 3 4 (ra_cons (re_ix (ix_dict c.u1) ok_get (re_var 0) (re_meth (G_Shape_file_plate_2.mono (by decide : 1 ≤ 4)) c Asks.run (cl_Shape S) (mt_Shape_file_plate S) (by decide +kernel) hd_Shape_file_plate_2 (fun _ _ _ => .nil) (re_var 1) (ra_cons (re_var 2) ra_nil)) (fun _ _ => rfl)) (ra_cons (re_lst ra_nil) ra_nil)))
  (rss_cons (rs_for c (ri_rng1 (by rfl) (g_range S) (ra_cons (re_globI (by rfl) (g_MOST_BLOCKS S)) ra_nil)) (rg_name c 5)
  (rss_cons (rs_par c 6 7 (ra_cons re_non (ra_cons (re_var 3) ra_nil)))
  (rss_cons (rs_for c (ri_seq (re_call (G_spot_of_1.mono (by decide : 1 ≤ 4)) c Asks.run (by rfl) (g_spot_of S) hd_spot_of_1 (fun _ _ _ => .nil) (ra_cons (re_var 5) ra_nil))) (rg_name c 8)
  (rss_cons (rs_set c 6 (re_ifExp (rt_chain op_le ok_le op_le ok_le re_int (re_ix ix_seq ok_ix (re_var 7) (re_var 8) (fun _ _ => rfl)) (re_fld (at_blocks S) (re_var 1))) (re_bin op_sub ok_sub (re_ix ix_seq ok_ix (re_var 7) (re_var 8) (fun _ _ => rfl)) re_int) re_non))
  (rss_cons (rs_if (rt_cmp op_isN ok_is (re_var 6) re_non rfl) (rss_one rs_break) rss_nil)
  (rss_one (rs_set c 7 (re_ix (ix_dict c.u1) ok_get (re_var 0) (re_meth (G_Shape_block_plate_2.mono (by decide : 1 ≤ 4)) c Asks.run (cl_Shape S) (mt_Shape_block_plate S) (by decide +kernel) hd_Shape_block_plate_2 (fun _ _ _ => .nil) (re_var 1) (ra_cons (re_var 6) ra_nil)) (fun _ _ => rfl)))))))
  (rss_cons (rs_if (rt_cmp (op_neA c.u65) ok_neA (re_call (G_data_block_4.mono (by decide : 2 ≤ 4)) c Asks.run (by rfl) (g_data_block S) hd_data_block_4 (fun _ _ _ => .nil) (ra_cons (re_var 0) (ra_cons (re_var 1) (ra_cons (re_var 2) (ra_cons (re_var 5) ra_nil))))) (re_var 6) rfl) (rss_one (rs_ret re_bl)) rss_nil)
  (rss_one (rs_aug c 4 ip_iadd ok_iadd (re_ifExp (rt_cmp op_isN ok_is (re_var 6) re_non rfl) (re_bin op_mulX ok_mulX (re_lst (ra_cons re_int ra_nil)) (re_globI (by rfl) (g_WIDTH S))) (re_callTy (cr_listX c.calm) ok_listX (by rfl) (g_list S) bt_list (ra_cons (re_ix (ix_dict c.u1) ok_get (re_var 0) (re_meth (G_Shape_block_plate_2.mono (by decide : 1 ≤ 4)) c Asks.run (cl_Shape S) (mt_Shape_block_plate S) (by decide +kernel) hd_Shape_block_plate_2 (fun _ _ _ => .nil) (re_var 1) (ra_cons (re_var 6) ra_nil)) (fun _ _ => rfl)) ra_nil)))))))))
  (rss_cons (rs_set c 9 (re_callB (cr_maxX c.calm c.u65) ok_maxX (by rfl) (g_max S) bt_max (ra_cons re_int (ra_cons (re_callB (call_min2 c.calm) ok_min2 (by rfl) (g_min S) bt_min (ra_cons (re_ix ix_seq ok_ix (re_var 3) re_int (fun _ _ => rfl)) (ra_cons (re_globI (by rfl) (g_MOST_SIZE S)) ra_nil))) ra_nil))))
  (rss_cons (rs_if (rt_w (rw_or (rt_cmp (op_neA c.u65) ok_neA (re_call (G_size_at_3.mono (by decide : 2 ≤ 4)) c Asks.run (by rfl) (g_size_at S) hd_size_at_3 (fun _ _ _ => .nil) (ra_cons (re_var 0) (ra_cons (re_var 1) (ra_cons (re_var 2) ra_nil)))) (re_var 9) rfl) (rw_or1 (rt_cmp (op_neA c.u65) ok_neA (re_call (G_content_of_3.mono (by decide : 4 ≤ 4)) c Asks.run (by rfl) (g_content_of S) hd_content_of_3 (fun _ _ _ => .nil) (ra_cons (re_var 0) (ra_cons (re_var 1) (ra_cons (re_var 2) ra_nil)))) (re_callTy call_tuple_of ok_tuple (by rfl) (g_tuple S) bt_tuple (ra_cons (re_sl (re_var 4) rp_none (rp_some (re_var 9))) ra_nil)) rfl)))) (rss_one (rs_ret re_bl)) rss_nil)
  (rss_one (rs_ret (re_and (re_cmp (op_eqA c.u65) ok_eqA (re_call (G_numbers_at_5.mono (by decide : 3 ≤ 4)) c Asks.run (by rfl) (g_numbers_at S) hd_numbers_at_5 (fun _ _ _ => .nil) (ra_cons (re_var 0) (ra_cons (re_var 1) (ra_cons (re_var 2) (ra_cons re_int (ra_cons (re_globI (by rfl) (g_MOST_SIZE S)) ra_nil)))))) (re_callTy call_tuple_of ok_tuple (by rfl) (g_tuple S) bt_tuple (ra_cons (re_var 4) ra_nil)) rfl) (re_one (re_inRg (by rfl) (g_range S) (re_call (G_owner_at_3.mono (by decide : 2 ≤ 4)) c Asks.run (by rfl) (g_owner_at S) hd_owner_at_3 (fun _ _ _ => .nil) (ra_cons (re_var 0) (ra_cons (re_var 1) (ra_cons (re_var 2) ra_nil)))) (re_fld (at_users S) (re_var 1)) rfl)))))))))
noncomputable def st_L_are_met_0 : Sx :=
  (sAsg (eF mkLst aNil) (gName 3))
noncomputable def bd_L_are_met_1 : Sx :=
  (sSeq (sAug 3 (eF (cl (F_met_below 4) []) (aCons (eVar 0) (aCons (eVar 1) (aCons (eVar 4) (aCons (eVar 5) aNil))))) opIAdd)
  (sSeq (sAsg (eF (cl F_block_of []) (aCons (eVar 1) (aCons (eVar 4) aNil))) (gName 6))
  (sSeq (sAsg (eIf (tB (eF opIs (aCons (eVar 6) (aCons (eC .non) aNil)))) (eC (.int 0)) (eC (.int 1))) (gName 7))
  (sSeq (sIf (tAnd (tB (eF opNis (aCons (eVar 6) (aCons (eC .non) aNil)))) (tB (eF opGt (aCons (eVar 5) (aCons (eC (.int 0)) aNil))))) (sAug 7 (eF biSum (aCons (eLc (iSeq (eF opGet (aCons (eVar 0) (aCons (eM 0 (cl F_Shape_block_plate []) (eVar 1) (aCons (eVar 6) aNil)) aNil)))) (gName 8) tYes (eF biLen (aCons (eF (cl (F_met_below 4) []) (aCons (eVar 0) (aCons (eVar 1) (aCons (eVar 8) (aCons (eF opSub (aCons (eVar 5) (aCons (eC (.int 1)) aNil))) aNil))))) aNil)) [8]) aNil)) opAddI) sNop)
  (sIf (tB (eF opNeX (aCons (eF biLen (aCons (eF (cl (F_met_below 4) []) (aCons (eVar 0) (aCons (eVar 1) (aCons (eVar 4) (aCons (eVar 5) aNil))))) aNil)) (aCons (eVar 7) aNil)))) (sRet (eC (.bl false))) sNop)))))
noncomputable def st_L_are_met_1 : Sx :=
  (sFor (iSeq (eF (cl F_pointers_at []) (aCons (eVar 0) (aCons (eVar 1) (aCons (eVar 2) aNil))))) (gTup 2 (gCons (gName 4) (gCons (gName 5) gNil)))
  bd_L_are_met_1)
noncomputable def st_L_are_met_2 : Sx :=
  (sRet (eF opEqX (aCons (eVar 3) (aCons (eF (cl F_met []) (aCons (eVar 0) (aCons (eVar 1) (aCons (eVar 2) aNil)))) aNil))))
abbrev N_L_are_met : List PySem.Str := ["_law_home", "_law_shape", "_law_file", "_law_found", "_law_pointer", "_law_level", "_law_block", "_law_more", "_law_one"]
abbrev P_L_are_met : List PySem.Str := ["_law_home", "_law_shape", "_law_file"]
noncomputable def b_L_are_met : Sx :=
  (sSeq st_L_are_met_0
  (sSeq st_L_are_met_1
  st_L_are_met_2))
noncomputable def F_L_are_met : Fn := runDef 3 9 b_L_are_met
theorem sc_L_are_met : FnScope N_L_are_met P_L_are_met (defScope s_L_are_met) := ⟨rfl, rfl, rfl, by decide +kernel, rfl, by decide +kernel, by decide +kernel⟩
theorem ok_L_are_met_3 (S : Sys K mg) : ∃ ds, Vals ([] : List V) ds ∧ DefOk P w K mg base 8 (He.fAd K d_L_are_met.at_) P_L_are_met ds 3 F_L_are_met := by
  obtain ⟨ds_pointers_at_3, hd_pointers_at_3, G_pointers_at_3⟩ := ok_pointers_at_3 (P := P) (w := w) (base := base) S
  obtain ⟨ds_met_below_4, hd_met_below_4, G_met_below_4⟩ := ok_met_below_4 (P := P) (w := w) (base := base) S 4
  obtain ⟨ds_block_of_2, hd_block_of_2, G_block_of_2⟩ := ok_block_of_2 (P := P) (w := w) (base := base) S
  obtain ⟨ds_met_3, hd_met_3, G_met_3⟩ := ok_met_3 (P := P) (w := w) (base := base) S
  obtain ⟨ds_Shape_block_plate_2, hd_Shape_block_plate_2, G_Shape_block_plate_2⟩ := ok_Shape_block_plate_2 (P := P) (w := w) (base := base) S
  obtain ⟨fd, F⟩ := S.says.def_ 25 (d := d_L_are_met) rfl
  obtain ⟨ds, hd, hB⟩ : ∃ ds, Vals ([] : List V) ds ∧ Binds K fd P_L_are_met ds := ⟨[], .nil, F.bindsN fun _ _ _ _ _ _ us hl => match us, hl with | [_, _, _], _ => rfl⟩
  have S2 : FnScope N_L_are_met P_L_are_met d_L_are_met.scope := sc_L_are_met
  have q := def_ok (P := P) (w := w) (mg := mg) (base := base) (k := 7) (b := b_L_are_met) F S2 hB
  refine ⟨ds, hd, q fun cdv A outer s H E c => ?_⟩
  exact (rss_cons (rs_set c 3 (re_lst ra_nil))
  (rss_cons (rs_for c (ri_seq (re_call (G_pointers_at_3.mono (by decide : 2 ≤ 7)) c Asks.run (by rfl) (g_pointers_at S) hd_pointers_at_3 (fun _ _ _ => .nil) (ra_cons (re_var 0) (ra_cons (re_var 1) (ra_cons (re_var 2) ra_nil))))) (rg_tup c (rgs_cons (rg_name c 4) (rgs_cons (rg_name c 5) rgs_nil)))
  (rss_cons (rs_aug c 3 ip_iadd ok_iadd (re_call (G_met_below_4.mono (by decide : 6 ≤ 7)) c (Asks_met_below _) (by rfl) (g_met_below S) hd_met_below_4 (fun _ _ _ => .nil) (ra_cons (re_var 0) (ra_cons (re_var 1) (ra_cons (re_var 4) (ra_cons (re_var 5) ra_nil))))))
  (rss_cons (rs_set c 6 (re_call (G_block_of_2.mono (by decide : 1 ≤ 7)) c Asks.run (by rfl) (g_block_of S) hd_block_of_2 (fun _ _ _ => .nil) (ra_cons (re_var 1) (ra_cons (re_var 4) ra_nil))))
  (rss_cons (rs_set c 7 (re_ifExp (rt_cmp op_isN ok_is (re_var 6) re_non rfl) re_int re_int))
  (rss_cons (rs_if (rt_w (rw_and (rt_cmp op_notN ok_nis (re_var 6) re_non rfl) (rw_and1 (rt_cmp op_gt ok_gt (re_var 5) re_int rfl)))) (rss_one (rs_aug c 7 ip_add ok_ipadd (re_callB (cr_sum c.calm) ok_sum (by rfl) (g_sum S) bt_sum (ra_cons (re_lc (own := [("_law_one", 8)]) c (ri_seq (re_ix (ix_dict c.u1) ok_get (re_var 0) (re_meth (G_Shape_block_plate_2.mono (by decide : 1 ≤ 7)) c Asks.run (cl_Shape S) (mt_Shape_block_plate S) (by decide +kernel) hd_Shape_block_plate_2 (fun _ _ _ => .nil) (re_var 1) (ra_cons (re_var 6) ra_nil)) (fun _ _ => rfl))) (blk_of rfl) (fun s0 H0 C0 cl0 fp0 => (rgo_name (c.blk s0 H0 C0 cl0 fp0).nd 8 rfl (.inl rfl) (.inr rfl) (by decide))) (fun s0 H0 C0 cl0 fp0 => rts_nil) (fun s0 H0 C0 cl0 fp0 => (re_callB call_len_seq ok_len (by rfl) (g_len S) bt_len (ra_cons (re_call (G_met_below_4.mono (by decide : 6 ≤ 7)) (c.blk s0 H0 C0 cl0 fp0) (Asks_met_below _) (by rfl) (g_met_below S) hd_met_below_4 (fun _ _ _ => .nil) (ra_cons (re_var 0) (ra_cons (re_var 1) (ra_cons (re_var 8) (ra_cons (re_bin op_sub ok_sub (re_var 5) re_int) ra_nil))))) ra_nil)))) ra_nil)))) rss_nil)
  (rss_one (rs_if (rt_cmp (op_neA c.u65) ok_neA (re_callB call_len_seq ok_len (by rfl) (g_len S) bt_len (ra_cons (re_call (G_met_below_4.mono (by decide : 6 ≤ 7)) c (Asks_met_below _) (by rfl) (g_met_below S) hd_met_below_4 (fun _ _ _ => .nil) (ra_cons (re_var 0) (ra_cons (re_var 1) (ra_cons (re_var 4) (ra_cons (re_var 5) ra_nil))))) ra_nil)) (re_var 7) rfl) (rss_one (rs_ret re_bl)) rss_nil)))))))
  (rss_one (rs_ret (re_cmp (op_eqA c.u65) ok_eqA (re_var 3) (re_call (G_met_3.mono (by decide : 7 ≤ 7)) c Asks.run (by rfl) (g_met S) hd_met_3 (fun _ _ _ => .nil) (ra_cons (re_var 0) (ra_cons (re_var 1) (ra_cons (re_var 2) ra_nil)))) rfl)))))
noncomputable def bd_L_are_names_0 : Sx :=
  (sSeq (sAsg (eM 0 (cl F_Shape_dir_cell []) (eVar 1) (aCons (eVar 2) aNil)) (gTup 2 (gCons (gName 3) (gCons (gName 4) gNil))))
  (sSeq (sAsg (eF opIx (aCons (eF opGet (aCons (eVar 0) (aCons (eVar 3) aNil))) (aCons (eVar 4) aNil))) (gName 5))
  (sSeq (sAsg (eF (cl F_dir_at []) (aCons (eVar 0) (aCons (eVar 1) (aCons (eVar 2) aNil)))) (gName 6))
  (sSeq (sIf (tOr (tB (eF opNeX (aCons (eF opIs (aCons (eVar 6) (aCons (eC .non) aNil))) (aCons (eF opLt (aCons (eVar 5) (aCons (eC (.int 1)) aNil))) aNil)))) (tB (eF opNeX (aCons (eF (cl F_is_dir []) (aCons (eVar 0) (aCons (eVar 1) (aCons (eVar 2) aNil)))) (aCons (eF opGe (aCons (eVar 5) (aCons (eC (.int 1)) aNil))) aNil))))) (sRet (eC (.bl false))) sNop)
  (sIf (tAnd (tB (eF opNis (aCons (eVar 6) (aCons (eC .non) aNil)))) (tOr (tB (eF opNeX (aCons (eF opAdd (aCons (eF opAdd (aCons (eF opMulX (aCons (eF opIx (aCons (eVar 6) (aCons (eC (.int 0)) aNil))) (aCons (eC (.int 475254)) aNil))) (aCons (eF opIx (aCons (eVar 6) (aCons (eC (.int 1)) aNil))) aNil))) (aCons (eC (.int 1)) aNil))) (aCons (eVar 5) aNil)))) (tNot (tB (eChain opLe opLt (eC (.int 0)) (eF opIx (aCons (eVar 6) (aCons (eC (.int 1)) aNil))) (eC (.int 475254))))))) (sRet (eC (.bl false))) sNop)))))
noncomputable def st_L_are_names_0 : Sx :=
  (sFor (iRng2 (aCons (eC (.int 2)) (aCons (eF (fFld [0] 0) (aCons (eVar 1) aNil)) aNil))) (gName 2)
  bd_L_are_names_0)
noncomputable def st_L_are_names_1 : Sx :=
  (sAsg (eF mkDic aNil) (gName 7))
noncomputable def bd_L_are_names_2 : Sx :=
  (sSeq (sAsg (eF mkTup (aCons (eF (cl F_row_at []) (aCons (eVar 0) (aCons (eVar 1) (aCons (eVar 2) aNil)))) (aCons (eM 0 (cl F_Shape_row_cell []) (eVar 1) (aCons (eVar 2) aNil)) aNil))) (gTup 2 (gCons (gName 6) (gCons (gTup 2 (gCons (gName 3) (gCons (gName 4) gNil))) gNil))))
  (sSeq (sIf (tB (eF opNeX (aCons (eF opIs (aCons (eVar 6) (aCons (eC .non) aNil))) (aCons (eF opLt (aCons (eF opIx (aCons (eF opGet (aCons (eVar 0) (aCons (eVar 3) aNil))) (aCons (eVar 4) aNil))) (aCons (eC (.int 1)) aNil))) aNil)))) (sRet (eC (.bl false))) sNop)
  (sIf (tB (eF opNis (aCons (eVar 6) (aCons (eC .non) aNil)))) (sSeq (sAsg (eC (.bl true)) (gSub (eVar 7) (eF opIx (aCons (eVar 6) (aCons (eC (.int 2)) aNil))) stPut))
  (sIf (tB (eF opNeX (aCons (eF opAdd (aCons (eF opAdd (aCons (eC (.int 1)) (aCons (eF opMulX (aCons (eF opAdd (aCons (eF opMulX (aCons (eF opIx (aCons (eVar 6) (aCons (eC (.int 0)) aNil))) (aCons (eC (.int 475254)) aNil))) (aCons (eF opIx (aCons (eVar 6) (aCons (eC (.int 1)) aNil))) aNil))) (aCons (eF (fFld [0] 2) (aCons (eVar 1) aNil)) aNil))) aNil))) (aCons (eF opIx (aCons (eVar 6) (aCons (eC (.int 2)) aNil))) aNil))) (aCons (eF opIx (aCons (eF opGet (aCons (eVar 0) (aCons (eVar 3) aNil))) (aCons (eVar 4) aNil))) aNil)))) (sRet (eC (.bl false))) sNop)) sNop)))
noncomputable def st_L_are_names_2 : Sx :=
  (sFor (iRng1 (aCons (eF (fFld [0] 1) (aCons (eVar 1) aNil)) aNil)) (gName 2)
  bd_L_are_names_2)
noncomputable def st_L_are_names_3 : Sx :=
  (sRet (eF opEqX (aCons (eF (cl F_named_files []) (aCons (eVar 0) (aCons (eVar 1) aNil))) (aCons (eF biSortD (aCons (eVar 7) aNil)) aNil))))
abbrev N_L_are_names : List PySem.Str := ["_law_home", "_law_shape", "_law_number_here", "_law_plate", "_law_place", "_law_value", "_law_told", "_law_files"]
abbrev P_L_are_names : List PySem.Str := ["_law_home", "_law_shape"]
noncomputable def b_L_are_names : Sx :=
  (sSeq st_L_are_names_0
  (sSeq st_L_are_names_1
  (sSeq st_L_are_names_2
  st_L_are_names_3)))
noncomputable def F_L_are_names : Fn := runDef 2 8 b_L_are_names
theorem sc_L_are_names : FnScope N_L_are_names P_L_are_names (defScope s_L_are_names) := ⟨rfl, rfl, rfl, by decide +kernel, rfl, by decide +kernel, by decide +kernel⟩
theorem ok_L_are_names_2 (S : Sys K mg) : ∃ ds, Vals ([] : List V) ds ∧ DefOk P w K mg base 5 (He.fAd K d_L_are_names.at_) P_L_are_names ds 2 F_L_are_names := by
  obtain ⟨ds_Shape_dir_cell_2, hd_Shape_dir_cell_2, G_Shape_dir_cell_2⟩ := ok_Shape_dir_cell_2 (P := P) (w := w) (base := base) S
  obtain ⟨ds_dir_at_3, hd_dir_at_3, G_dir_at_3⟩ := ok_dir_at_3 (P := P) (w := w) (base := base) S
  obtain ⟨ds_named_files_2, hd_named_files_2, G_named_files_2⟩ := ok_named_files_2 (P := P) (w := w) (base := base) S
  obtain ⟨ds_row_at_3, hd_row_at_3, G_row_at_3⟩ := ok_row_at_3 (P := P) (w := w) (base := base) S
  obtain ⟨ds_Shape_row_cell_2, hd_Shape_row_cell_2, G_Shape_row_cell_2⟩ := ok_Shape_row_cell_2 (P := P) (w := w) (base := base) S
  obtain ⟨ds_is_dir_3, hd_is_dir_3, G_is_dir_3⟩ := ok_is_dir_3 (P := P) (w := w) (base := base) S
  obtain ⟨fd, F⟩ := S.says.def_ 26 (d := d_L_are_names) rfl
  obtain ⟨ds, hd, hB⟩ : ∃ ds, Vals ([] : List V) ds ∧ Binds K fd P_L_are_names ds := ⟨[], .nil, F.bindsN fun _ _ _ _ _ _ us hl => match us, hl with | [_, _], _ => rfl⟩
  have S2 : FnScope N_L_are_names P_L_are_names d_L_are_names.scope := sc_L_are_names
  have q := def_ok (P := P) (w := w) (mg := mg) (base := base) (k := 4) (b := b_L_are_names) F S2 hB
  refine ⟨ds, hd, q fun cdv A outer s H E c => ?_⟩
  exact (rss_cons (rs_for c (ri_rng2 (by rfl) (g_range S) (ra_cons re_int (ra_cons (re_fld (at_dirs S) (re_var 1)) ra_nil))) (rg_name c 2)
  (rss_cons (rs_asg (re_meth (G_Shape_dir_cell_2.mono (by decide : 1 ≤ 4)) c Asks.run (cl_Shape S) (mt_Shape_dir_cell S) (by decide +kernel) hd_Shape_dir_cell_2 (fun _ _ _ => .nil) (re_var 1) (ra_cons (re_var 2) ra_nil)) (rg_tup c (rgs_cons (rg_name c 3) (rgs_cons (rg_name c 4) rgs_nil))))
  (rss_cons (rs_set c 5 (re_ix ix_seq ok_ix (re_ix (ix_dict c.u1) ok_get (re_var 0) (re_var 3) (fun _ _ => rfl)) (re_var 4) (fun _ _ => rfl)))
  (rss_cons (rs_set c 6 (re_call (G_dir_at_3.mono (by decide : 2 ≤ 4)) c Asks.run (by rfl) (g_dir_at S) hd_dir_at_3 (fun _ _ _ => .nil) (ra_cons (re_var 0) (ra_cons (re_var 1) (ra_cons (re_var 2) ra_nil)))))
  (rss_cons (rs_if (rt_w (rw_or (rt_cmp (op_neA c.u65) ok_neA (re_cmp op_isN ok_is (re_var 6) re_non rfl) (re_cmp op_lt ok_lt (re_var 5) re_int rfl) rfl) (rw_or1 (rt_cmp (op_neA c.u65) ok_neA (re_call (G_is_dir_3.mono (by decide : 3 ≤ 4)) c Asks.run (by rfl) (g_is_dir S) hd_is_dir_3 (fun _ _ _ => .nil) (ra_cons (re_var 0) (ra_cons (re_var 1) (ra_cons (re_var 2) ra_nil)))) (re_cmp op_ge ok_ge (re_var 5) re_int rfl) rfl)))) (rss_one (rs_ret re_bl)) rss_nil)
  (rss_one (rs_if (rt_w (rw_and (rt_cmp op_notN ok_nis (re_var 6) re_non rfl) (rw_and1 (rt_w (rw_or (rt_cmp (op_neA c.u65) ok_neA (re_bin op_add4 ok_add (re_bin op_add4 ok_add (re_bin op_mulX ok_mulX (re_ix ix_seq ok_ix (re_var 6) re_int (fun _ _ => rfl)) (re_globI (by rfl) (g_NAMES S))) (re_ix ix_seq ok_ix (re_var 6) re_int (fun _ _ => rfl))) re_int) (re_var 5) rfl) (rw_or1 (rt_not (rt_chain op_le ok_le op_lt ok_lt re_int (re_ix ix_seq ok_ix (re_var 6) re_int (fun _ _ => rfl)) (re_globI (by rfl) (g_NAMES S)))))))))) (rss_one (rs_ret re_bl)) rss_nil)))))))
  (rss_cons (rs_set c 7 re_dic)
  (rss_cons (rs_for c (ri_rng1 (by rfl) (g_range S) (ra_cons (re_fld (at_rows S) (re_var 1)) ra_nil)) (rg_name c 2)
  (rss_cons (rs_asg (re_tup (ra_cons (re_call (G_row_at_3.mono (by decide : 2 ≤ 4)) c Asks.run (by rfl) (g_row_at S) hd_row_at_3 (fun _ _ _ => .nil) (ra_cons (re_var 0) (ra_cons (re_var 1) (ra_cons (re_var 2) ra_nil)))) (ra_cons (re_meth (G_Shape_row_cell_2.mono (by decide : 1 ≤ 4)) c Asks.run (cl_Shape S) (mt_Shape_row_cell S) (by decide +kernel) hd_Shape_row_cell_2 (fun _ _ _ => .nil) (re_var 1) (ra_cons (re_var 2) ra_nil)) ra_nil))) (rg_tup c (rgs_cons (rg_name c 6) (rgs_cons (rg_tup c (rgs_cons (rg_name c 3) (rgs_cons (rg_name c 4) rgs_nil))) rgs_nil))))
  (rss_cons (rs_if (rt_cmp (op_neA c.u65) ok_neA (re_cmp op_isN ok_is (re_var 6) re_non rfl) (re_cmp op_lt ok_lt (re_ix ix_seq ok_ix (re_ix (ix_dict c.u1) ok_get (re_var 0) (re_var 3) (fun _ _ => rfl)) (re_var 4) (fun _ _ => rfl)) re_int rfl) rfl) (rss_one (rs_ret re_bl)) rss_nil)
  (rss_one (rs_if (rt_cmp op_notN ok_nis (re_var 6) re_non rfl) (rss_cons (rs_asg re_bl (rg_sub (set_dict c.u1) ok_put (re_var 7) (re_ix ix_seq ok_ix (re_var 6) re_int (fun _ _ => rfl))))
  (rss_one (rs_if (rt_cmp (op_neA c.u65) ok_neA (re_bin op_add4 ok_add (re_bin op_add4 ok_add re_int (re_bin op_mulX ok_mulX (re_bin op_add4 ok_add (re_bin op_mulX ok_mulX (re_ix ix_seq ok_ix (re_var 6) re_int (fun _ _ => rfl)) (re_globI (by rfl) (g_NAMES S))) (re_ix ix_seq ok_ix (re_var 6) re_int (fun _ _ => rfl))) (re_fld (at_files S) (re_var 1)))) (re_ix ix_seq ok_ix (re_var 6) re_int (fun _ _ => rfl))) (re_ix ix_seq ok_ix (re_ix (ix_dict c.u1) ok_get (re_var 0) (re_var 3) (fun _ _ => rfl)) (re_var 4) (fun _ _ => rfl)) rfl) (rss_one (rs_ret re_bl)) rss_nil))) rss_nil)))))
  (rss_one (rs_ret (re_cmp (op_eqA c.u65) ok_eqA (re_call (G_named_files_2.mono (by decide : 4 ≤ 4)) c Asks.run (by rfl) (g_named_files S) hd_named_files_2 (fun _ _ _ => .nil) (ra_cons (re_var 0) (ra_cons (re_var 1) ra_nil))) (re_callB (cr_sortedDI c.calm) ok_sortD (by rfl) (g_sorted S) bt_sorted (ra_cons (re_var 7) ra_nil)) rfl))))))
abbrev N_Shape_init : List PySem.Str := ["self", "dirs", "rows", "files", "blocks", "users", "what", "number", "low", "high"]
abbrev P_Shape_init : List PySem.Str := ["self", "dirs", "rows", "files", "blocks", "users"]
noncomputable def b_Shape_init : Sx :=
  (sSeq (sFor (iSeq (eF mkTup (aCons (eF mkTup (aCons (eC (.str "dirs")) (aCons (eVar 1) (aCons (eC (.int 2)) (aCons (eC (.int 40)) aNil))))) (aCons (eF mkTup (aCons (eC (.str "rows")) (aCons (eVar 2) (aCons (eC (.int 1)) (aCons (eC (.int 60)) aNil))))) (aCons (eF mkTup (aCons (eC (.str "files")) (aCons (eVar 3) (aCons (eC (.int 1)) (aCons (eC (.int 40)) aNil))))) (aCons (eF mkTup (aCons (eC (.str "blocks")) (aCons (eVar 4) (aCons (eC (.int 1)) (aCons (eC (.int 200)) aNil))))) (aCons (eF mkTup (aCons (eC (.str "users")) (aCons (eVar 5) (aCons (eC (.int 1)) (aCons (eC (.int 4)) aNil))))) aNil))))))) (gTup 4 (gCons (gName 6) (gCons (gName 7) (gCons (gName 8) (gCons (gName 9) gNil)))))
  (sIf (tNot (tB (eF (cl F_is_whole []) (aCons (eVar 7) (aCons (eVar 8) (aCons (eVar 9) aNil)))))) (sRaise 3 15 (eVar 6)) sNop))
  (sSeq (sFld [0] 0 (eVar 0) (eVar 1))
  (sSeq (sFld [0] 1 (eVar 0) (eVar 2))
  (sSeq (sFld [0] 2 (eVar 0) (eVar 3))
  (sSeq (sFld [0] 3 (eVar 0) (eVar 4))
  (sSeq (sFld [0] 4 (eVar 0) (eVar 5))
  (sSeq (sFld [0] 5 (eVar 0) (eF opAdd (aCons (eC (.int 1)) (aCons (eF (cl F_plates_for []) (aCons (eVar 1) aNil)) aNil))))
  (sSeq (sFld [0] 6 (eVar 0) (eF opAdd (aCons (eF (fFld [0] 5) (aCons (eVar 0) aNil)) (aCons (eF (cl F_plates_for []) (aCons (eVar 2) aNil)) aNil))))
  (sSeq (sFld [0] 7 (eVar 0) (eF opAdd (aCons (eF (fFld [0] 6) (aCons (eVar 0) aNil)) (aCons (eF (cl F_plates_for []) (aCons (eVar 5) aNil)) aNil))))
  (sSeq (sFld [0] 8 (eVar 0) (eF opAdd (aCons (eF (fFld [0] 7) (aCons (eVar 0) aNil)) (aCons (eVar 3) aNil))))
  (sFld [0] 9 (eVar 0) (eF opAdd (aCons (eF (fFld [0] 8) (aCons (eVar 0) aNil)) (aCons (eVar 4) aNil))))))))))))))
noncomputable def F_Shape_init : Fn := runDef 6 10 b_Shape_init
theorem sc_Shape_init : FnScope N_Shape_init P_Shape_init (defScope s_Shape_init) := ⟨rfl, rfl, rfl, by decide +kernel, rfl, by decide +kernel, by decide +kernel⟩
theorem ok_Shape_init_6 (S : Sys K mg) : ∃ ds, Vals ([] : List V) ds ∧ DefOk P w K mg base 2 (He.fAd K d_Shape_init.at_) P_Shape_init ds 6 F_Shape_init := by
  obtain ⟨ds_plates_for_1, hd_plates_for_1, G_plates_for_1⟩ := ok_plates_for_1 (P := P) (w := w) (base := base) S
  obtain ⟨ds_is_whole_3, hd_is_whole_3, G_is_whole_3⟩ := ok_is_whole_3 (P := P) (w := w) (base := base) S
  obtain ⟨fd, F⟩ := S.says.def_ 29 (d := d_Shape_init) rfl
  obtain ⟨ds, hd, hB⟩ : ∃ ds, Vals ([] : List V) ds ∧ Binds K fd P_Shape_init ds := ⟨[], .nil, F.bindsN fun _ _ _ _ _ _ us hl => match us, hl with | [_, _, _, _, _, _], _ => rfl⟩
  have S2 : FnScope N_Shape_init P_Shape_init d_Shape_init.scope := sc_Shape_init
  have q := def_ok (P := P) (w := w) (mg := mg) (base := base) (k := 1) (b := b_Shape_init) F S2 hB
  refine ⟨ds, hd, q fun cdv A outer s H E c => ?_⟩
  exact (rss_cons (rs_for c (ri_seq (re_tup (ra_cons (re_tup (ra_cons re_str (ra_cons (re_var 1) (ra_cons re_int (ra_cons re_int ra_nil))))) (ra_cons (re_tup (ra_cons re_str (ra_cons (re_var 2) (ra_cons re_int (ra_cons re_int ra_nil))))) (ra_cons (re_tup (ra_cons re_str (ra_cons (re_var 3) (ra_cons re_int (ra_cons re_int ra_nil))))) (ra_cons (re_tup (ra_cons re_str (ra_cons (re_var 4) (ra_cons re_int (ra_cons re_int ra_nil))))) (ra_cons (re_tup (ra_cons re_str (ra_cons (re_var 5) (ra_cons re_int (ra_cons re_int ra_nil))))) ra_nil))))))) (rg_tup c (rgs_cons (rg_name c 6) (rgs_cons (rg_name c 7) (rgs_cons (rg_name c 8) (rgs_cons (rg_name c 9) rgs_nil)))))
  (rss_one (rs_if (rt_not (rt_b (re_call (G_is_whole_3.mono (by decide : 1 ≤ 1)) c Asks.run (by rfl) (g_is_whole S) hd_is_whole_3 (fun _ _ _ => .nil) (ra_cons (re_var 7) (ra_cons (re_var 8) (ra_cons (re_var 9) ra_nil)))))) (rss_one (rs_raise (xo_BadShape S) (xm (P := P) S) c rfl (g_BadShape S) (re_var 6))) rss_nil)))
  (rss_cons (rs_fld (at_dirs S) (re_var 0) (re_var 1))
  (rss_cons (rs_fld (at_rows S) (re_var 0) (re_var 2))
  (rss_cons (rs_fld (at_files S) (re_var 0) (re_var 3))
  (rss_cons (rs_fld (at_blocks S) (re_var 0) (re_var 4))
  (rss_cons (rs_fld (at_users S) (re_var 0) (re_var 5))
  (rss_cons (rs_fld (at_first_row S) (re_var 0) (re_bin op_add4 ok_add re_int (re_call (G_plates_for_1.mono (by decide : 1 ≤ 1)) c Asks.run (by rfl) (g_plates_for S) hd_plates_for_1 (fun _ _ _ => .nil) (ra_cons (re_var 1) ra_nil))))
  (rss_cons (rs_fld (at_first_user S) (re_var 0) (re_bin op_add4 ok_add (re_fld (at_first_row S) (re_var 0)) (re_call (G_plates_for_1.mono (by decide : 1 ≤ 1)) c Asks.run (by rfl) (g_plates_for S) hd_plates_for_1 (fun _ _ _ => .nil) (ra_cons (re_var 2) ra_nil))))
  (rss_cons (rs_fld (at_first_file S) (re_var 0) (re_bin op_add4 ok_add (re_fld (at_first_user S) (re_var 0)) (re_call (G_plates_for_1.mono (by decide : 1 ≤ 1)) c Asks.run (by rfl) (g_plates_for S) hd_plates_for_1 (fun _ _ _ => .nil) (ra_cons (re_var 5) ra_nil))))
  (rss_cons (rs_fld (at_first_block S) (re_var 0) (re_bin op_add4 ok_add (re_fld (at_first_file S) (re_var 0)) (re_var 3)))
  (rss_one (rs_fld (at_plates S) (re_var 0) (re_bin op_add4 ok_add (re_fld (at_first_block S) (re_var 0)) (re_var 4))))))))))))))
abbrev N_L_is_refused : List PySem.Str := ["_law_numbers", "_law_word", "_law_bad"]
abbrev P_L_is_refused : List PySem.Str := ["_law_numbers", "_law_word"]
noncomputable def b_L_is_refused : Sx :=
  (sSeq (sTryAs (sDrop (eF (mkIns 0 (cl F_Shape_init [])) (aCons (eF opIx (aCons (eVar 0) (aCons (eC (.int 0)) aNil))) (aCons (eF opIx (aCons (eVar 0) (aCons (eC (.int 1)) aNil))) (aCons (eF opIx (aCons (eVar 0) (aCons (eC (.int 2)) aNil))) (aCons (eF opIx (aCons (eVar 0) (aCons (eC (.int 3)) aNil))) (aCons (eF opIx (aCons (eVar 0) (aCons (eC (.int 4)) aNil))) aNil))))))) 3 2 (fun x => (sRet (eF opEqX (aCons (xFld 15 x) (aCons (eVar 1) aNil))))))
  (sRet (eC (.bl false))))
noncomputable def F_L_is_refused : Fn := runDef 2 3 b_L_is_refused
theorem sc_L_is_refused : FnScope N_L_is_refused P_L_is_refused (defScope s_L_is_refused) := ⟨rfl, rfl, rfl, by decide +kernel, rfl, by decide +kernel, by decide +kernel⟩
theorem ok_L_is_refused_2 (S : Sys K mg) : ∃ ds, Vals ([] : List V) ds ∧ DefOk P w K mg base 4 (He.fAd K d_L_is_refused.at_) P_L_is_refused ds 2 F_L_is_refused := by
  obtain ⟨ds_Shape_init_6, hd_Shape_init_6, G_Shape_init_6⟩ := ok_Shape_init_6 (P := P) (w := w) (base := base) S
  obtain ⟨fd, F⟩ := S.says.def_ 27 (d := d_L_is_refused) rfl
  obtain ⟨ds, hd, hB⟩ : ∃ ds, Vals ([] : List V) ds ∧ Binds K fd P_L_is_refused ds := ⟨[], .nil, F.bindsN fun _ _ _ _ _ _ us hl => match us, hl with | [_, _], _ => rfl⟩
  have S2 : FnScope N_L_is_refused P_L_is_refused d_L_is_refused.scope := sc_L_is_refused
  have q := def_ok (P := P) (w := w) (mg := mg) (base := base) (k := 3) (b := b_L_is_refused) F S2 hB
  refine ⟨ds, hd, q fun cdv A outer s H E c => ?_⟩
  exact (rss_cons (rs_tryAs c (te_BadShape S) (g_BadShape S) (fun W1 pn xe c1 => (rss_one (rs_expr (re_make (mk_Shape S) (G_Shape_init_6.mono (by decide : 2 ≤ 2)) c1 Asks.run (by rfl) (g_Shape S) hd_Shape_init_6 (fun _ _ _ => .nil) (ra_cons (re_ix ix_seq ok_ix (re_var 0) re_int (fun _ _ => rfl)) (ra_cons (re_ix ix_seq ok_ix (re_var 0) re_int (fun _ _ => rfl)) (ra_cons (re_ix ix_seq ok_ix (re_var 0) re_int (fun _ _ => rfl)) (ra_cons (re_ix ix_seq ok_ix (re_var 0) re_int (fun _ _ => rfl)) (ra_cons (re_ix ix_seq ok_ix (re_var 0) re_int (fun _ _ => rfl)) ra_nil))))))))) (fun a oe cls d pn hz hf cs => (rxss_one (rxs_ret (rxe_cmp (op_eqA cs.u65) ok_eqA (rxe_fld (xo_BadShape S) hz hf rfl) (re_var 1) rfl)))))
  (rss_one (rs_ret re_bl)))
abbrev N_Shape_told : List PySem.Str := ["self"]
abbrev P_Shape_told : List PySem.Str := ["self"]
noncomputable def b_Shape_told : Sx :=
  (sRet (eF mkTup (aCons (eF (fFld [0] 0) (aCons (eVar 0) aNil)) (aCons (eF (fFld [0] 1) (aCons (eVar 0) aNil)) (aCons (eF (fFld [0] 2) (aCons (eVar 0) aNil)) (aCons (eF (fFld [0] 3) (aCons (eVar 0) aNil)) (aCons (eF (fFld [0] 4) (aCons (eVar 0) aNil)) aNil)))))))
noncomputable def F_Shape_told : Fn := runDef 1 1 b_Shape_told
theorem sc_Shape_told : FnScope N_Shape_told P_Shape_told (defScope s_Shape_told) := ⟨rfl, rfl, rfl, by decide +kernel, rfl, by decide +kernel, by decide +kernel⟩
theorem ok_Shape_told_1 (S : Sys K mg) : ∃ ds, Vals ([] : List V) ds ∧ DefOk P w K mg base 1 (He.fAd K d_Shape_told.at_) P_Shape_told ds 1 F_Shape_told := by
  obtain ⟨fd, F⟩ := S.says.def_ 31 (d := d_Shape_told) rfl
  obtain ⟨ds, hd, hB⟩ : ∃ ds, Vals ([] : List V) ds ∧ Binds K fd P_Shape_told ds := ⟨[], .nil, F.bindsN fun _ _ _ _ _ _ us hl => match us, hl with | [_], _ => rfl⟩
  have S2 : FnScope N_Shape_told P_Shape_told d_Shape_told.scope := sc_Shape_told
  have q := def_ok (P := P) (w := w) (mg := mg) (base := base) (k := 0) (b := b_Shape_told) F S2 hB
  refine ⟨ds, hd, q fun cdv A outer s H E c => ?_⟩
  exact (rss_one (rs_ret (re_tup (ra_cons (re_fld (at_dirs S) (re_var 0)) (ra_cons (re_fld (at_rows S) (re_var 0)) (ra_cons (re_fld (at_files S) (re_var 0)) (ra_cons (re_fld (at_blocks S) (re_var 0)) (ra_cons (re_fld (at_users S) (re_var 0)) ra_nil))))))))
abbrev N_Shape_eq : List PySem.Str := ["self", "other"]
abbrev P_Shape_eq : List PySem.Str := ["self", "other"]
noncomputable def b_Shape_eq : Sx :=
  (sRet (eAnd (eF (biIsO 0) (aCons (eVar 1) aNil)) (eF opEqX (aCons (eM 0 (cl F_Shape_told []) (eVar 0) aNil) (aCons (eM 0 (cl F_Shape_told []) (eVar 1) aNil) aNil)))))
noncomputable def F_Shape_eq : Fn := runDef 2 2 b_Shape_eq
theorem sc_Shape_eq : FnScope N_Shape_eq P_Shape_eq (defScope s_Shape_eq) := ⟨rfl, rfl, rfl, by decide +kernel, rfl, by decide +kernel, by decide +kernel⟩
theorem ok_Shape_eq_2 (S : Sys K mg) : ∃ ds, Vals ([] : List V) ds ∧ DefOk P w K mg base 2 (He.fAd K d_Shape_eq.at_) P_Shape_eq ds 2 F_Shape_eq := by
  obtain ⟨ds_Shape_told_1, hd_Shape_told_1, G_Shape_told_1⟩ := ok_Shape_told_1 (P := P) (w := w) (base := base) S
  obtain ⟨fd, F⟩ := S.says.def_ 30 (d := d_Shape_eq) rfl
  obtain ⟨ds, hd, hB⟩ : ∃ ds, Vals ([] : List V) ds ∧ Binds K fd P_Shape_eq ds := ⟨[], .nil, F.bindsN fun _ _ _ _ _ _ us hl => match us, hl with | [_, _], _ => rfl⟩
  have S2 : FnScope N_Shape_eq P_Shape_eq d_Shape_eq.scope := sc_Shape_eq
  have q := def_ok (P := P) (w := w) (mg := mg) (base := base) (k := 1) (b := b_Shape_eq) F S2 hB
  refine ⟨ds, hd, q fun cdv A outer s H E c => ?_⟩
  exact (rss_one (rs_ret (re_and (re_isO (by rfl) (g_isinstance S) (by rfl) (g_Shape S) (cl_Shape S) (ne_Shape S) (re_var 1)) (re_one (re_cmp (op_eqA c.u65) ok_eqA (re_meth0 (G_Shape_told_1.mono (by decide : 1 ≤ 1)) c Asks.run (cl_Shape S) (mt_Shape_told S) (by decide +kernel) hd_Shape_told_1 (fun _ _ _ => .nil) (re_var 0)) (re_meth0 (G_Shape_told_1.mono (by decide : 1 ≤ 1)) c Asks.run (cl_Shape S) (mt_Shape_told S) (by decide +kernel) hd_Shape_told_1 (fun _ _ _ => .nil) (re_var 1)) rfl)))))
noncomputable def st_law_0 : Sx :=
  (sAsg (eF mkLst (aCons (eVar 0) (aCons (eC (.int 0)) aNil))) (gName 1))
noncomputable def st_law_1 : Sx :=
  (sAsg (eF (mkIns 0 (cl F_Shape_init [])) (aCons (eF opAdd (aCons (eC (.int 2)) (aCons (eF (cl F_L_take []) (aCons (eVar 1) (aCons (eC (.int 39)) aNil))) aNil))) (aCons (eF opAdd (aCons (eC (.int 1)) (aCons (eF (cl F_L_take []) (aCons (eVar 1) (aCons (eC (.int 60)) aNil))) aNil))) (aCons (eF opAdd (aCons (eC (.int 1)) (aCons (eF (cl F_L_take []) (aCons (eVar 1) (aCons (eC (.int 9)) aNil))) aNil))) (aCons (eF opAdd (aCons (eC (.int 1)) (aCons (eF (cl F_L_take []) (aCons (eVar 1) (aCons (eC (.int 40)) aNil))) aNil))) (aCons (eF opAdd (aCons (eC (.int 1)) (aCons (eF (cl F_L_take []) (aCons (eVar 1) (aCons (eC (.int 4)) aNil))) aNil))) aNil)))))) (gName 2))
noncomputable def st_law_2 : Sx :=
  (sAsg (eF (cl F_L_cells_of []) (aCons (eVar 2) aNil)) (gName 3))
noncomputable def st_law_3 : Sx :=
  (sIf (tOr (tB (eF opNeX (aCons (eVar 3) (aCons (eF biSortK (aCons (eVar 3) aNil)) aNil)))) (tOr (tB (eF opNeX (aCons (eF biLen (aCons (eF (cl F_L_unlike []) (aCons (eVar 3) aNil)) aNil)) (aCons (eF biLen (aCons (eVar 3) aNil)) aNil)))) (tB (eF opNeX (aCons (eF opIx (aCons (eF opIx (aCons (eVar 3) (aCons (eF opNeg (aCons (eC (.int 1)) aNil)) aNil))) (aCons (eC (.int 0)) aNil))) (aCons (eF opSub (aCons (eF (fFld [0] 9) (aCons (eVar 2) aNil)) (aCons (eC (.int 1)) aNil))) aNil)))))) (sRet (eC (.bl false))) sNop)
noncomputable def st_law_4 : Sx :=
  (sIf (tB (eF opNeX (aCons (eF biLen (aCons (eF (cl F_L_unlike []) (aCons (eLc (iRng1 (aCons (eC (.int 75)) aNil)) (gName 9) tYes (eF (cl F_spot_of []) (aCons (eVar 9) aNil)) [9]) aNil)) aNil)) (aCons (eC (.int 75)) aNil)))) (sRet (eC (.bl false))) sNop)
noncomputable def st_law_5 : Sx :=
  (sAsg (eM 0 (cl F_Shape_told []) (eVar 2) aNil) (gName 4))
noncomputable def st_law_6 : Sx :=
  (sIf (tB (eF (opNeOwn 0 F_Shape_eq) (aCons (eVar 2) (aCons (eF (mkIns 0 (cl F_Shape_init [])) (aCons (eF opIx (aCons (eVar 4) (aCons (eC (.int 0)) aNil))) (aCons (eF opIx (aCons (eVar 4) (aCons (eC (.int 1)) aNil))) (aCons (eF opIx (aCons (eVar 4) (aCons (eC (.int 2)) aNil))) (aCons (eF opIx (aCons (eVar 4) (aCons (eC (.int 3)) aNil))) (aCons (eF opIx (aCons (eVar 4) (aCons (eC (.int 4)) aNil))) aNil)))))) aNil)))) (sRet (eC (.bl false))) sNop)
noncomputable def st_law_7 : Sx :=
  (sAsg (eF (cl F_L_take []) (aCons (eVar 1) (aCons (eC (.int 5)) aNil))) (gName 5))
noncomputable def st_law_8 : Sx :=
  (sAsg (eF mkLst (aCons (eC (.int 2)) (aCons (eC (.int 1)) (aCons (eC (.int 1)) (aCons (eC (.int 1)) (aCons (eC (.int 1)) aNil)))))) (gName 6))
noncomputable def st_law_9 : Sx :=
  (sAsg (eIf (tB (eF opGt (aCons (eVar 5) (aCons (eC (.int 0)) aNil)))) (eF (cl F_L_pick []) (aCons (eVar 1) (aCons (eF mkLst (aCons (eC (.int 0)) (aCons (eF opNeg (aCons (eC (.int 3)) aNil)) (aCons (eC (.int 201)) (aCons (eC (.int 61)) (aCons (eC (.str "2")) (aCons (eC (.bl true)) (aCons (eC .non) aNil)))))))) aNil))) (eF (cl F_L_pick []) (aCons (eVar 1) (aCons (eF mkLst (aCons (eC (.int 1)) (aCons (eC (.int 41)) (aCons (eC .non) (aCons (eC (.bl true)) aNil))))) aNil)))) (gSub (eVar 6) (eVar 5) stIx))
noncomputable def st_law_10 : Sx :=
  (sIf (tAnd (tB (eF opNeX (aCons (eF mkTup (aCons (eVar 5) (aCons (eF opIx (aCons (eVar 6) (aCons (eVar 5) aNil))) aNil))) (aCons (eF mkTup (aCons (eC (.int 3)) (aCons (eC (.int 61)) aNil))) aNil)))) (tNot (tB (eF (cl F_L_is_refused []) (aCons (eVar 6) (aCons (eF opIx (aCons (eF mkLst (aCons (eC (.str "dirs")) (aCons (eC (.str "rows")) (aCons (eC (.str "files")) (aCons (eC (.str "blocks")) (aCons (eC (.str "users")) aNil)))))) (aCons (eVar 5) aNil))) aNil)))))) (sRet (eC (.bl false))) sNop)
noncomputable def st_law_11 : Sx :=
  (sAsg (eF (cl F_L_any []) (aCons (eVar 1) (aCons (eVar 2) aNil))) (gName 7))
noncomputable def st_law_12 : Sx :=
  (sAsg (eSl (eLRg (eF (fFld [0] 2) (aCons (eVar 2) aNil))) pNone (pSome (eC (.int 3)))) (gName 8))
noncomputable def st_law_13 : Sx :=
  (sRet (eAnd (eF (cl F_L_are_names []) (aCons (eVar 7) (aCons (eVar 2) aNil))) (eF biAll (aCons (eLc (iSeq (eVar 8)) (gName 10) tYes (eAnd (eF (cl F_L_is_read []) (aCons (eVar 7) (aCons (eVar 2) (aCons (eVar 10) aNil)))) (eF (cl F_L_are_met []) (aCons (eVar 7) (aCons (eVar 2) (aCons (eVar 10) aNil))))) [10]) aNil))))
abbrev N_law : List PySem.Str := ["_law_script", "_law_draw", "_law_shape", "_law_cells", "_law_told", "_law_at", "_law_bad", "_law_home", "_law_files", "_law_number_here", "_law_file"]
abbrev P_law : List PySem.Str := ["_law_script"]
noncomputable def b_law : Sx :=
  (sSeq st_law_0
  (sSeq st_law_1
  (sSeq st_law_2
  (sSeq st_law_3
  (sSeq st_law_4
  (sSeq st_law_5
  (sSeq st_law_6
  (sSeq st_law_7
  (sSeq st_law_8
  (sSeq st_law_9
  (sSeq st_law_10
  (sSeq st_law_11
  (sSeq st_law_12
  st_law_13)))))))))))))
noncomputable def F_law : Fn := runDef 1 11 b_law
theorem sc_law : FnScope N_law P_law (defScope s_law) := ⟨rfl, rfl, rfl, by decide +kernel, rfl, by decide +kernel, by decide +kernel⟩
theorem ok_law_F (S : Sys K mg) {fd : FuncData} (F : FunD K d_law.name d_law.qual d_law.params d_law.body d_law.scope (d_law.dvs K) (d_law.kws K) (He.fAd K d_law.at_) fd) : FnOk P w K mg base (L2N.CX P w) 9 (He.fAd K d_law.at_) fd P_law (spD K 1 F_law) := by
  obtain ⟨ds_Shape_init_6, hd_Shape_init_6, G_Shape_init_6⟩ := ok_Shape_init_6 (P := P) (w := w) (base := base) S
  obtain ⟨ds_L_cells_of_1, hd_L_cells_of_1, G_L_cells_of_1⟩ := ok_L_cells_of_1 (P := P) (w := w) (base := base) S
  obtain ⟨ds_Shape_told_1, hd_Shape_told_1, G_Shape_told_1⟩ := ok_Shape_told_1 (P := P) (w := w) (base := base) S
  obtain ⟨ds_Shape_eq_2, hd_Shape_eq_2, G_Shape_eq_2⟩ := ok_Shape_eq_2 (P := P) (w := w) (base := base) S
  obtain ⟨ds_L_take_2, hd_L_take_2, G_L_take_2⟩ := ok_L_take_2 (P := P) (w := w) (base := base) S
  obtain ⟨ds_L_any_2, hd_L_any_2, G_L_any_2⟩ := ok_L_any_2 (P := P) (w := w) (base := base) S
  obtain ⟨ds_L_pick_2, hd_L_pick_2, G_L_pick_2⟩ := ok_L_pick_2 (P := P) (w := w) (base := base) S
  obtain ⟨ds_L_are_names_2, hd_L_are_names_2, G_L_are_names_2⟩ := ok_L_are_names_2 (P := P) (w := w) (base := base) S
  obtain ⟨ds_L_unlike_1, hd_L_unlike_1, G_L_unlike_1⟩ := ok_L_unlike_1 (P := P) (w := w) (base := base) S
  obtain ⟨ds_L_is_refused_2, hd_L_is_refused_2, G_L_is_refused_2⟩ := ok_L_is_refused_2 (P := P) (w := w) (base := base) S
  obtain ⟨ds_spot_of_1, hd_spot_of_1, G_spot_of_1⟩ := ok_spot_of_1 (P := P) (w := w) (base := base) S
  obtain ⟨ds_L_is_read_3, hd_L_is_read_3, G_L_is_read_3⟩ := ok_L_is_read_3 (P := P) (w := w) (base := base) S
  obtain ⟨ds_L_are_met_3, hd_L_are_met_3, G_L_are_met_3⟩ := ok_L_are_met_3 (P := P) (w := w) (base := base) S
  have S2 : FnScope N_law P_law d_law.scope := sc_law
  have q := def_okF (P := P) (w := w) (mg := mg) (base := base) (k := 8) (b := b_law) F S2
  refine q fun cdv A outer s H E c => ?_
  exact (rss_cons (rs_set c 1 (re_lst (ra_cons (re_var 0) (ra_cons re_int ra_nil))))
  (rss_cons (rs_set c 2 (re_make (mk_Shape S) (G_Shape_init_6.mono (by decide : 2 ≤ 7)) c Asks.run (by rfl) (g_Shape S) hd_Shape_init_6 (fun _ _ _ => .nil) (ra_cons (re_bin op_add4 ok_add re_int (re_call (G_L_take_2.mono (by decide : 2 ≤ 8)) c Asks.run (by rfl) (g__law_take S) hd_L_take_2 (fun _ _ _ => .nil) (ra_cons (re_var 1) (ra_cons re_int ra_nil)))) (ra_cons (re_bin op_add4 ok_add re_int (re_call (G_L_take_2.mono (by decide : 2 ≤ 8)) c Asks.run (by rfl) (g__law_take S) hd_L_take_2 (fun _ _ _ => .nil) (ra_cons (re_var 1) (ra_cons re_int ra_nil)))) (ra_cons (re_bin op_add4 ok_add re_int (re_call (G_L_take_2.mono (by decide : 2 ≤ 8)) c Asks.run (by rfl) (g__law_take S) hd_L_take_2 (fun _ _ _ => .nil) (ra_cons (re_var 1) (ra_cons re_int ra_nil)))) (ra_cons (re_bin op_add4 ok_add re_int (re_call (G_L_take_2.mono (by decide : 2 ≤ 8)) c Asks.run (by rfl) (g__law_take S) hd_L_take_2 (fun _ _ _ => .nil) (ra_cons (re_var 1) (ra_cons re_int ra_nil)))) (ra_cons (re_bin op_add4 ok_add re_int (re_call (G_L_take_2.mono (by decide : 2 ≤ 8)) c Asks.run (by rfl) (g__law_take S) hd_L_take_2 (fun _ _ _ => .nil) (ra_cons (re_var 1) (ra_cons re_int ra_nil)))) ra_nil)))))))
  (rss_cons (rs_set c 3 (re_call (G_L_cells_of_1.mono (by decide : 2 ≤ 8)) c Asks.run (by rfl) (g__law_cells_of S) hd_L_cells_of_1 (fun _ _ _ => .nil) (ra_cons (re_var 2) ra_nil)))
  (rss_cons (rs_if (rt_w (rw_or (rt_cmp (op_neA c.u65) ok_neA (re_var 3) (re_callB (cr_sortedK c.calm) ok_sortK (by rfl) (g_sorted S) bt_sorted (ra_cons (re_var 3) ra_nil)) rfl) (rw_or (rt_cmp (op_neA c.u65) ok_neA (re_callB call_len_seq ok_len (by rfl) (g_len S) bt_len (ra_cons (re_call (G_L_unlike_1.mono (by decide : 1 ≤ 8)) c Asks.run (by rfl) (g__law_unlike S) hd_L_unlike_1 (fun _ _ _ => .nil) (ra_cons (re_var 3) ra_nil)) ra_nil)) (re_callB call_len_seq ok_len (by rfl) (g_len S) bt_len (ra_cons (re_var 3) ra_nil)) rfl) (rw_or1 (rt_cmp (op_neA c.u65) ok_neA (re_ix ix_seq ok_ix (re_ix ix_seq ok_ix (re_var 3) (re_un un_neg ok_neg re_int) (fun _ _ => rfl)) re_int (fun _ _ => rfl)) (re_bin op_sub ok_sub (re_fld (at_plates S) (re_var 2)) re_int) rfl))))) (rss_one (rs_ret re_bl)) rss_nil)
  (rss_cons (rs_if (rt_cmp (op_neA c.u65) ok_neA (re_callB call_len_seq ok_len (by rfl) (g_len S) bt_len (ra_cons (re_call (G_L_unlike_1.mono (by decide : 1 ≤ 8)) c Asks.run (by rfl) (g__law_unlike S) hd_L_unlike_1 (fun _ _ _ => .nil) (ra_cons (re_lc (own := [("_law_number_here", 9)]) c (ri_rng1 (by rfl) (g_range S) (ra_cons (re_globI (by rfl) (g_MOST_BLOCKS S)) ra_nil)) (blk_of rfl) (fun s0 H0 C0 cl0 fp0 => (rgo_name (c.blk s0 H0 C0 cl0 fp0).nd 9 rfl (.inl rfl) (.inr rfl) (by decide))) (fun s0 H0 C0 cl0 fp0 => rts_nil) (fun s0 H0 C0 cl0 fp0 => (re_call (G_spot_of_1.mono (by decide : 1 ≤ 8)) (c.blk s0 H0 C0 cl0 fp0) Asks.run (by rfl) (g_spot_of S) hd_spot_of_1 (fun _ _ _ => .nil) (ra_cons (re_var 9) ra_nil)))) ra_nil)) ra_nil)) (re_globI (by rfl) (g_MOST_BLOCKS S)) rfl) (rss_one (rs_ret re_bl)) rss_nil)
  (rss_cons (rs_set c 4 (re_meth0 (G_Shape_told_1.mono (by decide : 1 ≤ 8)) c Asks.run (cl_Shape S) (mt_Shape_told S) (by decide +kernel) hd_Shape_told_1 (fun _ _ _ => .nil) (re_var 2)))
  (rss_cons (rs_if (rt_cmp (op_neOwn G_Shape_eq_2 c (by decide) hd_Shape_eq_2 (ne_Shape S)) ok_neOwn (re_var 2) (re_make (mk_Shape S) (G_Shape_init_6.mono (by decide : 2 ≤ 7)) c Asks.run (by rfl) (g_Shape S) hd_Shape_init_6 (fun _ _ _ => .nil) (ra_cons (re_ix ix_seq ok_ix (re_var 4) re_int (fun _ _ => rfl)) (ra_cons (re_ix ix_seq ok_ix (re_var 4) re_int (fun _ _ => rfl)) (ra_cons (re_ix ix_seq ok_ix (re_var 4) re_int (fun _ _ => rfl)) (ra_cons (re_ix ix_seq ok_ix (re_var 4) re_int (fun _ _ => rfl)) (ra_cons (re_ix ix_seq ok_ix (re_var 4) re_int (fun _ _ => rfl)) ra_nil)))))) rfl) (rss_one (rs_ret re_bl)) rss_nil)
  (rss_cons (rs_set c 5 (re_call (G_L_take_2.mono (by decide : 2 ≤ 8)) c Asks.run (by rfl) (g__law_take S) hd_L_take_2 (fun _ _ _ => .nil) (ra_cons (re_var 1) (ra_cons re_int ra_nil))))
  (rss_cons (rs_set c 6 (re_lst (ra_cons re_int (ra_cons re_int (ra_cons re_int (ra_cons re_int (ra_cons re_int ra_nil)))))))
  (rss_cons (rs_asg (re_ifExp (rt_cmp op_gt ok_gt (re_var 5) re_int rfl) (re_call (G_L_pick_2.mono (by decide : 3 ≤ 8)) c Asks.run (by rfl) (g__law_pick S) hd_L_pick_2 (fun _ _ _ => .nil) (ra_cons (re_var 1) (ra_cons (re_lst (ra_cons re_int (ra_cons (re_un un_neg ok_neg re_int) (ra_cons re_int (ra_cons re_int (ra_cons re_str (ra_cons re_bl (ra_cons re_non ra_nil)))))))) ra_nil))) (re_call (G_L_pick_2.mono (by decide : 3 ≤ 8)) c Asks.run (by rfl) (g__law_pick S) hd_L_pick_2 (fun _ _ _ => .nil) (ra_cons (re_var 1) (ra_cons (re_lst (ra_cons re_int (ra_cons re_int (ra_cons re_non (ra_cons re_bl ra_nil))))) ra_nil)))) (rg_sub set_list ok_set (re_var 6) (re_var 5)))
  (rss_cons (rs_if (rt_w (rw_and (rt_cmp (op_neA c.u65) ok_neA (re_tup (ra_cons (re_var 5) (ra_cons (re_ix ix_seq ok_ix (re_var 6) (re_var 5) (fun _ _ => rfl)) ra_nil))) (re_tup (ra_cons re_int (ra_cons re_int ra_nil))) rfl) (rw_and1 (rt_not (rt_b (re_call (G_L_is_refused_2.mono (by decide : 4 ≤ 8)) c Asks.run (by rfl) (g__law_is_refused S) hd_L_is_refused_2 (fun _ _ _ => .nil) (ra_cons (re_var 6) (ra_cons (re_ix ix_seq ok_ix (re_lst (ra_cons re_str (ra_cons re_str (ra_cons re_str (ra_cons re_str (ra_cons re_str ra_nil)))))) (re_var 5) (fun _ _ => rfl)) ra_nil)))))))) (rss_one (rs_ret re_bl)) rss_nil)
  (rss_cons (rs_set c 7 (re_call (G_L_any_2.mono (by decide : 4 ≤ 8)) c Asks.run (by rfl) (g__law_any S) hd_L_any_2 (fun _ _ _ => .nil) (ra_cons (re_var 1) (ra_cons (re_var 2) ra_nil))))
  (rss_cons (rs_set c 8 (re_sl (re_listRg c.calm (by rfl) (g_list S) (by rfl) (g_range S) (re_fld (at_files S) (re_var 2))) rp_none (rp_some re_int)))
  (rss_one (rs_ret (re_and (re_call (G_L_are_names_2.mono (by decide : 5 ≤ 8)) c Asks.run (by rfl) (g__law_are_names S) hd_L_are_names_2 (fun _ _ _ => .nil) (ra_cons (re_var 7) (ra_cons (re_var 2) ra_nil))) (re_one (re_callB (cr_all c.calm) ok_all (by rfl) (g_all S) bt_all (ra_cons (re_lc (own := [("_law_file", 10)]) c (ri_seq (re_var 8)) (blk_of rfl) (fun s0 H0 C0 cl0 fp0 => (rgo_name (c.blk s0 H0 C0 cl0 fp0).nd 10 rfl (.inl rfl) (.inr rfl) (by decide))) (fun s0 H0 C0 cl0 fp0 => rts_nil) (fun s0 H0 C0 cl0 fp0 => (re_and (re_call (G_L_is_read_3.mono (by decide : 5 ≤ 8)) (c.blk s0 H0 C0 cl0 fp0) Asks.run (by rfl) (g__law_is_read S) hd_L_is_read_3 (fun _ _ _ => .nil) (ra_cons (re_var 7) (ra_cons (re_var 2) (ra_cons (re_var 10) ra_nil)))) (re_one (re_call (G_L_are_met_3.mono (by decide : 8 ≤ 8)) (c.blk s0 H0 C0 cl0 fp0) Asks.run (by rfl) (g__law_are_met S) hd_L_are_met_3 (fun _ _ _ => .nil) (ra_cons (re_var 7) (ra_cons (re_var 2) (ra_cons (re_var 10) ra_nil)))))))) ra_nil)))))))))))))))))))
theorem lawfd (S : Sys K mg) : ∃ fd, FunD K d_law.name d_law.qual d_law.params d_law.body d_law.scope (d_law.dvs K) (d_law.kws K) (He.fAd K d_law.at_) fd := S.says.def_ 28 (d := d_law) rfl
theorem law_b {fd : FuncData} (F : FunD K d_law.name d_law.qual d_law.params d_law.body d_law.scope (d_law.dvs K) (d_law.kws K) (He.fAd K d_law.at_) fd) (s : Shared) (v : Value) : BindsTo s fd ⟨[v], []⟩ [("_law_script", v)] := FunD.bindsA (ps := ["_law_script"]) F (fun _ _ _ _ _ _ us hl => match us, hl with | [_], _ => rfl) s [v] rfl
end
end Lw
set_option Elab.async false
set_option linter.all false
set_option maxRecDepth 100000
set_option maxHeartbeats 4000000
/-! What every law draws with (own work). -/
namespace Lw
open PySem DL
theorem atD_of {ds : List D} {i : Int} {d : D} (h0 : 0 ≤ i) (h : ds[i.toNat]? = some d) : atD ds i = some d := by
  have hl := (List.getElem?_eq_some_iff.mp h).1
  unfold atD ixD
  rw [if_pos h0, if_pos (by omega)]
  exact h
theorem number_sat {A : AH} {i : Nat} {ns : List Int} {x : Int} (hA : A[i]? = some (.rol (ns.map D.int))) (hx : 0 ≤ x) : (F_L_number [.ref i, .int x] A).sat fun d B => (∃ v, d = .int v) ∧ B = A := by
  have hi : i < A.length := (List.getElem?_eq_some_iff.mp hA).1
  refine sat_def rfl ?_
  have e0 : seqAt (A ++ [.lst []]) i = some (ns.map D.int) := by
    simp [List.getElem?_append_left hi, hA]
  have e1 : seqAt (A ++ [.lst []]) A.length = some [] := by simp
  have q : opEq [.ref i, .ref A.length] (A ++ [.lst []]) = .ok (.bl (eqDs (ns.map D.int) [])) (A ++ [.lst []]) := opEq_lst e0 e1 (purs_ints 58 ns) (by simp)
  have g : ∀ d : D, d.bd A.length = true → gc A d (A ++ [.lst []]) = .ok d A := fun d h => gc_app _ h
  have nd : isDicO (A ++ [O.lst []])[i]? = false := by rw [List.getElem?_append_left hi, hA]; rfl
  simp only [b_L_number, startE]
  simp [line, q, tooWide, nd]
  cases ns with
  | nil =>
    simp [eqDs, PyData.eqvAll, tooWide]
    rw [g _ (by simp)]
    simp
  | cons n ns =>
    have en : eqDs ((n :: ns).map D.int) [] = false := by simp [eqDs, PyData.eqvAll]
    have hlen : (((n :: ns).length : Nat) : Int) ≠ 0 := by simp; omega
    have h1 : (A ++ [O.lst []])[i]? = some (.rol ((n :: ns).map D.int)) := by rw [List.getElem?_append_left hi]; exact hA
    obtain ⟨c, hc⟩ : ∃ c, atD ((n :: ns).map D.int) (x.fmod ((n :: ns).length : Nat)) = some (.int c) := by
      have p1 : 0 ≤ x.fmod ((n :: ns).length : Nat) := Int.fmod_nonneg_of_pos x (by simp)
      have p2 : x.fmod ((n :: ns).length : Nat) < ((n :: ns).length : Nat) := Int.fmod_lt_of_pos x (by simp)
      obtain ⟨c, hc⟩ : ∃ c, (n :: ns)[(x.fmod ((n :: ns).length : Nat)).toNat]? = some c := ⟨_, List.getElem?_eq_getElem (by omega)⟩
      exact ⟨c, atD_of p1 (by rw [List.getElem?_map, hc]; rfl)⟩
    simp only [en]
    have z1 : ¬ ((ns.length : Int) + 1 = 0) := by omega
    have hc' : atD (D.int n :: ns.map D.int) (x.fmod ((ns.length : Int) + 1)) = some (.int c) := by simpa using hc
    simp [h1, z1, hc', tooWide]
    refine ⟨fun _ => ?_, fun _ => ?_⟩
    · rw [g _ (by simp)]
      simp
    · rw [g _ (by simp)]
      simp
structure Drw (ns : List Int) (A : AH) : Prop where
  s : A[0]? = some (.rol (ns.map D.int))
  d : ∃ n : Int, 0 ≤ n ∧ A[1]? = some (.lst [.ref 0, .int n])
/-- one more number was drawn -/
def Nx1 (A B : AH) : Prop := ∃ n : Int, 0 ≤ n ∧ B = A.set 1 (.lst [.ref 0, .int n])
theorem Drw.lt {ns : List Int} {A : AH} (h : Drw ns A) : 1 < A.length := by
  obtain ⟨n, _, e⟩ := h.d
  exact (List.getElem?_eq_some_iff.mp e).1
theorem Drw.nx {ns : List Int} {A B : AH} (h : Drw ns A) (x : Nx1 A B) : Drw ns B := by
  obtain ⟨n, h0, rfl⟩ := x
  exact ⟨by rw [List.getElem?_set_ne (by decide)]; exact h.s, n, h0, List.getElem?_set_self h.lt⟩
theorem Nx1.len {A B : AH} (x : Nx1 A B) : B.length = A.length := by
  obtain ⟨n, h0, rfl⟩ := x
  simp
theorem Nx1.get {A B : AH} (x : Nx1 A B) {j : Nat} (h : j ≠ 1) : B[j]? = A[j]? := by
  obtain ⟨n, h0, rfl⟩ := x
  exact List.getElem?_set_ne (Ne.symm h)
theorem Drw.app {ns : List Int} {A : AH} (h : Drw ns A) (G : AH) : Drw ns (A ++ G) := by
  have l := h.lt
  obtain ⟨n, h0, e⟩ := h.d
  exact ⟨by rw [List.getElem?_append_left (by omega)]; exact h.s, n, h0, by rw [List.getElem?_append_left l]; exact e⟩
theorem Drw.set {ns : List Int} {A : AH} (h : Drw ns A) {j : Nat} (o : O) (hj : 2 ≤ j) : Drw ns (A.set j o) := by
  obtain ⟨n, h0, e⟩ := h.d
  exact ⟨by rw [List.getElem?_set_ne (by omega)]; exact h.s, n, h0, by rw [List.getElem?_set_ne (by omega)]; exact e⟩
theorem take_sat {ns : List Int} {A : AH} {m : Int} (h : Drw ns A) (hm : 0 < m) : (F_L_take [.ref 1, .int m] A).sat fun d B => (∃ v, d = .int v ∧ 0 ≤ v ∧ v < m) ∧ Nx1 A B := by
  obtain ⟨n, h0, e⟩ := h.d
  have l := h.lt
  refine sat_def rfl ?_
  simp only [b_L_take, startE]
  have i1 : ixD 2 1 = some 1 := by decide
  have i0 : ixD 2 0 = some 0 := by decide
  have a1 : atD [D.ref 0, D.int n] 1 = some (.int n) := rfl
  have b1 : atD [D.ref 0, D.int (n + 1)] 1 = some (.int (n + 1)) := rfl
  have b0 : atD [D.ref 0, D.int (n + 1)] 0 = some (.ref 0) := rfl
  simp [e, a1, i1, List.getElem?_set_self l, b1, b0]
  have hs : (A.set 1 (.lst [.ref 0, .int (n + 1)]))[0]? = some (.rol (ns.map D.int)) := by rw [List.getElem?_set_ne (by decide)]; exact h.s
  refine (number_sat hs (by omega)).mono fun d B ⟨⟨v, hv⟩, hB⟩ => ?_
  subst hv hB
  have mz : m ≠ 0 := by omega
  simp [mz]
  rw [gc_set (by simp) l (by simp [O.bd]; omega)]
  exact ⟨⟨_, rfl, Int.fmod_nonneg_of_pos _ hm, Int.fmod_lt_of_pos _ hm⟩, n + 1, by omega, rfl⟩
/-- a drawn item of a list -/
theorem pick_sat {ns : List Int} {A : AH} {j : Nat} {ds : List D} (h : Drw ns A) (hj : A[j]? = some (.lst ds)) (h1 : j ≠ 1) (hd : ds ≠ []) (hb : bdAll A.length ds = true) : (F_L_pick [.ref 1, .ref j] A).sat fun d B => d ∈ ds ∧ Nx1 A B := by
  refine sat_def rfl ?_
  have l := h.lt
  simp only [b_L_pick, startE]
  simp [hj]
  refine (take_sat h (by have := List.length_pos_iff.mpr hd; omega)).mono fun d B ⟨⟨v, hv, v0, v1⟩, x⟩ => ?_
  subst hv
  have hj2 : B[j]? = some (.lst ds) := (x.get h1).trans hj
  obtain ⟨d, hd⟩ : ∃ d, ds[v.toNat]? = some d := ⟨_, List.getElem?_eq_getElem (by omega)⟩
  simp [hj2, atD_of v0 hd]
  have dm : d ∈ ds := List.mem_of_getElem? hd
  obtain ⟨n, h0, rfl⟩ := x
  rw [gc_set ((bdAll_iff _ _).mp hb d dm) l (by simp [O.bd]; omega)]
  exact ⟨dm, n, h0, rfl⟩
end Lw
set_option Elab.async false
set_option linter.all false
set_option maxRecDepth 100000
set_option maxHeartbeats 4000000
/-! Draws (own work). -/
namespace Lw
open PySem DL
theorem set_mid {α : Type} (A : List α) (o o' : α) (G : List α) : (A ++ o :: G).set A.length o' = A ++ o' :: G := by simp
theorem at_mid {α : Type} (A : List α) (o : α) (G : List α) : (A ++ o :: G)[A.length]? = some o := by simp
theorem Nx1.refl {ns : List Int} {A : AH} (h : Drw ns A) : Nx1 A A := by
  obtain ⟨n, h0, e⟩ := h.d
  refine ⟨n, h0, ?_⟩
  apply List.ext_getElem?
  intro i
  by_cases z : 1 = i
  · subst z
    rw [List.getElem?_set_self h.lt, e]
  · rw [List.getElem?_set_ne z]
theorem Nx1.trans {A B C : AH} (x : Nx1 A B) (y : Nx1 B C) : Nx1 A C := by
  obtain ⟨n, h0, rfl⟩ := x
  obtain ⟨m, h1, rfl⟩ := y
  exact ⟨m, h1, by rw [List.set_set]⟩
theorem Nx1.split {A G B : AH} (l : 1 < A.length) (x : Nx1 (A ++ G) B) : ∃ A', B = A' ++ G ∧ Nx1 A A' := by
  obtain ⟨n, h0, rfl⟩ := x
  exact ⟨_, by rw [List.set_append_left _ _ l], n, h0, rfl⟩
theorem set_at {A A' G : AH} {o o' : O} (h : A'.length = A.length) : (A' ++ o :: G).set A.length o' = A' ++ o' :: G := by
  rw [← h]
  exact set_mid _ _ _ _
theorem get_at {A A' G : AH} {o : O} (h : A'.length = A.length) : (A' ++ o :: G)[A.length]? = some o := by
  rw [← h]
  exact at_mid _ _ _
theorem Nx1.okPre {A B : AH} (x : Nx1 A B) (l : 1 < A.length) : okPre A B := by
  obtain ⟨n, h0, rfl⟩ := x
  exact okPre_set l (by simp [O.bd]; omega)
theorem gc_nx1 {A B : AH} {d : D} (x : Nx1 A B) (l : 1 < A.length) (G : AH) (hd : d.bd A.length = true) : gc A d (B ++ G) = .ok d B := by
  have e : (B ++ G).take A.length = B := by rw [← x.len, List.take_left]
  rw [gc_val hd (by rw [e]; exact x.okPre l), e]
theorem gcE_nx1 {A B : AH} {E : DL.Env} (x : Nx1 A B) (l : 1 < A.length) (G : AH) (h : envBd A.length E = true) : gcE A E (B ++ G) = B := by
  have e : (B ++ G).take A.length = B := by rw [← x.len, List.take_left]
  rw [gcE_ok' h (by rw [e]; exact x.okPre l), e]
theorem gcE_nx1' {A B : AH} {E : DL.Env} (x : Nx1 A B) (l : 1 < A.length) (h : envBd A.length E = true) : gcE A E B = B := by
  have := gcE_nx1 x l [] h
  rwa [List.append_nil] at this
theorem gc_new1 {A B G : AH} {j : Nat} {o : O} (x : Nx1 A B) (l : 1 < A.length) (e : G[j]? = some o) (m : o.mut = true) (h : o.bd A.length = true) : gc A (.ref (A.length + j)) (B ++ G) = .ok (.ref A.length) (B ++ [o]) := by
  have e1 : (B ++ G).take A.length = B := by rw [← x.len, List.take_left]
  unfold gc
  rw [if_neg (fun z => by have q := z.1; rw [bd_ref, decide_eq_true_eq] at q; omega)]
  have : refO A (B ++ G) (.ref (A.length + j)) = some o := by
    show (if A.length ≤ A.length + j then (B ++ G)[A.length + j]? else none) = _
    rw [if_pos (by omega), ← x.len, List.getElem?_append_right (by omega), show B.length + j - B.length = j by omega]
    exact e
  rw [this]
  unfold gcO
  dsimp only
  rw [if_pos ⟨m, h, by rw [e1]; exact x.okPre l⟩, e1]
end Lw
set_option Elab.async false
set_option linter.all false
set_option maxRecDepth 100000
set_option maxHeartbeats 4000000
/-! Ends with exceptions: what holds behind, and behind what is raised (own work). -/
namespace DL
open PySem
def Res.sat2 {α : Type} (r : Res α) (Q : Exn → AH → Prop) (P : α → AH → Prop) : Prop := match r with
  | .ok a A => P a A
  | .exc x A => Q x A
  | .bad => False
def SRes.sat2 (r : SRes) (Q : Exn → AH → Prop) (N : Env → AH → Prop) (R : D → AH → Prop) : Prop := match r with
  | .nx E A => N E A
  | .rt d A => R d A
  | .exc x E A => Q x A
  | _ => False
section
variable {α β : Type} {Q Q' : Exn → AH → Prop} {P P' : α → AH → Prop} {N N' : Env → AH → Prop} {R R' : D → AH → Prop}
@[simp] theorem sat2_ok (a : α) (A : AH) : (Res.ok a A).sat2 Q P = P a A := rfl
@[simp] theorem sat2_exc (x : Exn) (A : AH) : (Res.exc x A : Res α).sat2 Q P = Q x A := rfl
@[simp] theorem sat2_bad : (Res.bad : Res α).sat2 Q P = False := rfl
@[simp] theorem sat2_bind (r : Res α) (f : α → AH → Res β) (P : β → AH → Prop) : (r.bind f).sat2 Q P = r.sat2 Q fun a A => (f a A).sat2 Q P := by cases r <;> rfl
@[simp] theorem sat2_bindN (r : Res α) (f : α → AH → Res β) (P : β → AH → Prop) : (r.bindN f).sat2 Q P = r.sat fun a A => (f a A).sat2 Q P := by cases r <;> rfl
@[simp] theorem ssat2_nx (E : Env) (A : AH) : (SRes.nx E A).sat2 Q N R = N E A := rfl
@[simp] theorem ssat2_rt (d : D) (A : AH) : (SRes.rt d A).sat2 Q N R = R d A := rfl
@[simp] theorem ssat2_exc (x : Exn) (E : Env) (A : AH) : (SRes.exc x E A).sat2 Q N R = Q x A := rfl
@[simp] theorem ssat2_bad : SRes.bad.sat2 Q N R = False := rfl
@[simp] theorem ssat2_seq (r : SRes) (f : Sx) : (r.seq f).sat2 Q N R = r.sat2 Q (fun E A => (f E A).sat2 Q N R) R := by cases r <;> rfl
@[simp] theorem ssat2_then (r : Res α) (E : Env) (f : α → AH → SRes) : (r.then E f).sat2 Q N R = r.sat2 Q fun a A => (f a A).sat2 Q N R := by cases r <;> rfl
@[simp] theorem ssat2_only (r : SRes) : r.only.sat2 Q N R = r.sat2 Q N fun _ _ => False := by cases r <;> rfl
@[simp] theorem sat2_ite (p : Prop) [Decidable p] (r s : Res α) : (if p then r else s).sat2 Q P ↔ (p → r.sat2 Q P) ∧ (¬p → s.sat2 Q P) := by
  by_cases h : p <;> simp [h]
@[simp] theorem ssat2_ite (p : Prop) [Decidable p] (r s : SRes) : (if p then r else s).sat2 Q N R ↔ (p → r.sat2 Q N R) ∧ (¬p → s.sat2 Q N R) := by
  by_cases h : p <;> simp [h]
theorem Res.sat2.mono {r : Res α} (h : r.sat2 Q P) (qe : ∀ x A, Q x A → Q' x A) (q : ∀ a A, P a A → P' a A) : r.sat2 Q' P' := by
  cases r with
  | ok a A => exact q a A h
  | exc x A => exact qe x A h
  | bad => exact h
theorem Res.sat.to2 {r : Res α} (h : r.sat P) : r.sat2 Q P := by
  cases r with
  | ok a A => exact h
  | exc x A => exact h.elim
  | bad => exact h
theorem SRes.sat2.mono {r : SRes} (h : r.sat2 Q N R) (qe : ∀ x A, Q x A → Q' x A) (q : ∀ E A, N E A → N' E A) (p : ∀ d A, R d A → R' d A) : r.sat2 Q' N' R' := by
  cases r with
  | nx E A => exact q E A h
  | rt d A => exact p d A h
  | exc x E A => exact qe x A h
  | _ => exact h
theorem SRes.sat.to2 {r : SRes} (h : r.sat N R) : r.sat2 Q N R := by
  cases r with
  | nx E A => exact h
  | rt d A => exact h
  | _ => exact h.elim
theorem seq_sat2 {a b : Sx} {E : Env} {A : AH} (N1 : Env → AH → Prop) (h : (a E A).sat2 Q N1 R) (k : ∀ E A, N1 E A → (b E A).sat2 Q N R) : (sSeq a b E A).sat2 Q N R := by
  rw [ev_sSeq, ssat2_seq]
  exact h.mono (fun _ _ z => z) k fun _ _ q => q
def tsat2 (r : SRes) (Q : Exn → AH → Prop) (J N : Env → AH → Prop) (R : D → AH → Prop) : Prop := match r with
  | .nx E A => J E A
  | .ct E A => J E A
  | .bk E A => N E A
  | .rt d A => R d A
  | .exc x E A => Q x A
  | .bad => False
theorem tsat2_of {r : SRes} {J : Env → AH → Prop} (h : r.sat2 Q J R) : tsat2 r Q J N R := by cases r <;> first | exact h | exact h.elim
theorem for_sat2 {src : Src} {g : Gx} {b : Sx} {E : Env} {A : AH} (n : Nat) (I : Nat → Env → AH → Prop) (hn : n ≤ src.size A) (h0 : I 0 E A)
    (hs : ∀ k E A, k < n → I k E A → ∃ d, src.at A k = .item d ∧ tsat2 ((g d E A).only.seq b) Q (I (k + 1)) N R) (he : ∀ E A, I n E A → src.at A n = .stop ∧ N E A) : (kFor g b E src A).sat2 Q N R := by
  have main : ∀ m k E A, k + m = n → I k E A → ∀ f, m + 1 ≤ f → (forN src g b f k E A).sat2 Q N R := by
    intro m
    induction m with
    | zero =>
      intro k E A hk hI f hf
      obtain ⟨f, rfl⟩ : ∃ f', f = f' + 1 := ⟨f - 1, by omega⟩
      have e : k = n := by omega
      subst e
      obtain ⟨q1, q2⟩ := he E A hI
      show (forK g b (forN src g b f (k + 1)) E A (src.at A k)).sat2 Q N R
      rw [q1]
      exact q2
    | succ m ih =>
      intro k E A hk hI f hf
      obtain ⟨f, rfl⟩ : ∃ f', f = f' + 1 := ⟨f - 1, by omega⟩
      obtain ⟨d, q1, q2⟩ := hs k E A (by omega) hI
      show (forK g b (forN src g b f (k + 1)) E A (src.at A k)).sat2 Q N R
      rw [q1]
      show (((g d E A).only.seq b).turn (forN src g b f (k + 1))).sat2 Q N R
      cases z : (g d E A).only.seq b with
      | nx E2 A2 => rw [z] at q2; exact ih (k + 1) E2 A2 (by omega) q2 f (by omega)
      | ct E2 A2 => rw [z] at q2; exact ih (k + 1) E2 A2 (by omega) q2 f (by omega)
      | bk E2 A2 => rw [z] at q2; exact q2
      | rt d2 A2 => rw [z] at q2; exact q2
      | exc x E2 A2 => rw [z] at q2; exact q2
      | bad => rw [z] at q2; exact q2.elim
  exact main n 0 E A (by omega) h0 _ (by omega)
/-- a comprehension whose element may raise -/
theorem sat_def2 {np N : Nat} {b : Sx} {ds : List D} {A : AH} {P : D → AH → Prop} (hl : ds.length = np) (hq : ∀ x B, Q x B → (gcX A x B).sat2 Q P) (h : (b (startE N ds) A).sat2 Q (fun _ B => (gc A .non B).sat2 Q P) fun d B => (gc A d B).sat2 Q P) : (runDef np N b ds A).sat2 Q P := by
  unfold runDef
  rw [if_pos hl]
  cases e : b (startE N ds) A with
  | nx E B => rw [e] at h; exact h
  | rt d B => rw [e] at h; exact h
  | exc x E B => rw [e] at h; exact hq x B h
  | _ => rw [e] at h; exact h.elim
end
end DL
set_option Elab.async false
set_option linter.all false
set_option maxRecDepth 100000
set_option maxHeartbeats 4000000
/-! Shapes of any size (own work). -/
namespace Lw
open PySem DL
/-- how many of everything -/
structure Sh where
  d : Int
  r : Int
  f : Int
  b : Int
  u : Int
def pf (x : Int) : Int := (x + 8 - 1).fdiv 8
theorem pf_eq (x : Int) : pf x = (x + 7) / 8 := by
  unfold pf
  rw [Int.fdiv_eq_ediv_of_nonneg _ (by omega)]
  congr 1
  omega
def Sh.fr (S : Sh) : Int := 1 + pf S.d
def Sh.fu (S : Sh) : Int := S.fr + pf S.r
def Sh.ff (S : Sh) : Int := S.fu + pf S.u
def Sh.fb (S : Sh) : Int := S.ff + S.f
def Sh.pl (S : Sh) : Int := S.fb + S.b
structure Sh.Ok (S : Sh) : Prop where
  d0 : 2 ≤ S.d
  d1 : S.d ≤ 40
  r0 : 1 ≤ S.r
  r1 : S.r ≤ 60
  f0 : 1 ≤ S.f
  f1 : S.f ≤ 40
  b0 : 1 ≤ S.b
  b1 : S.b ≤ 200
  u0 : 1 ≤ S.u
  u1 : S.u ≤ 4
theorem Sh.Ok.fr {S : Sh} (o : S.Ok) : 2 ≤ S.fr ∧ S.fr ≤ 6 ∧ S.fr * 8 ≥ S.d + 8 := by
  have := o.d0; have := o.d1
  unfold Sh.fr
  rw [pf_eq]
  omega
theorem Sh.Ok.fu {S : Sh} (o : S.Ok) : S.fr + 1 ≤ S.fu ∧ S.fu ≤ S.fr + 8 ∧ (S.fu - S.fr) * 8 ≥ S.r := by
  have := o.r0; have := o.r1
  unfold Sh.fu
  rw [pf_eq]
  omega
theorem Sh.Ok.ff {S : Sh} (o : S.Ok) : S.ff = S.fu + 1 := by
  have := o.u0; have := o.u1
  unfold Sh.ff
  rw [pf_eq]
  omega
theorem Sh.Ok.pl {S : Sh} (o : S.Ok) : 4 ≤ S.ff ∧ S.ff ≤ 15 ∧ S.fb = S.ff + S.f ∧ S.pl = S.fb + S.b ∧ S.pl ≤ 255 := by
  have := o.fr; have := o.fu; have := o.ff
  have := o.f0; have := o.f1; have := o.b0; have := o.b1
  unfold Sh.pl Sh.fb
  omega
def shO (S : Sh) : O := .ins 0 [(0, .int S.d), (1, .int S.r), (2, .int S.f), (3, .int S.b), (4, .int S.u), (5, .int S.fr), (6, .int S.fu), (7, .int S.ff), (8, .int S.fb), (9, .int S.pl)]
/-! whole numbers -/
def whole (lo hi : Int) : D → Bool
  | .int x => decide (lo ≤ x) && decide (x ≤ hi)
  | _ => false
inductive Plain : D → Prop
  | int (x : Int) : Plain (.int x)
  | bl (b : Bool) : Plain (.bl b)
  | str (x : Str) : Plain (.str x)
  | non : Plain .non
theorem is_whole_ok {A : AH} {v : D} {lo hi : Int} (p : Plain v) : F_is_whole [v, .int lo, .int hi] A = .ok (.bl (whole lo hi v)) A := by
  refine sat_eq (sat_def rfl ?_)
  simp only [b_is_whole, startE]
  cases p with
  | int x =>
    by_cases a : lo ≤ x
    · by_cases b : x ≤ hi <;> simp [Ty.ofI, whole, a, b]
    · simp [Ty.ofI, whole, a]
  | bl b => simp [Ty.ofB, whole]
  | str x => simp [Ty.ofS, whole]
  | non => simp [whole]
theorem plates_for_ok {A : AH} {x : Int} : F_plates_for [.int x] A = .ok (.int (pf x)) A := by
  refine sat_eq (sat_def rfl ?_)
  simp only [b_plates_for, startE]
  simp [pf]
/-! a new shape -/
abbrev Nm := Str × D × Int × Int
def nmD (q : Nm) : D := .tup [.str q.1, q.2.1, .int q.2.2.1, .int q.2.2.2]
def badQ (q : Nm) : Bool := !whole q.2.2.1 q.2.2.2 q.2.1
def first (L : List Nm) : Option Str := (L.find? badQ).map (·.1)
theorem first_none {L : List Nm} (h : ∀ q ∈ L, whole q.2.2.1 q.2.2.2 q.2.1 = true) : first L = none := by
  unfold first
  rw [List.find?_eq_none.mpr fun q hq => by simp [badQ, h q hq]]
  rfl
theorem first_take {L : List Nm} {k : Nat} {q : Nm} (h : first (L.take k) = none) (hk : L[k]? = some q) : (badQ q = true → first L = some q.1) ∧ (badQ q = false → first (L.take (k + 1)) = none) := by
  have h1 : (L.take k).find? badQ = none := by
    unfold first at h
    simpa using h
  have hl := (List.getElem?_eq_some_iff.mp hk).1
  refine ⟨fun hb => ?_, fun hb => ?_⟩
  · have e : L = L.take k ++ q :: L.drop (k + 1) := by
      have := List.take_append_drop k L
      rw [List.drop_eq_getElem_cons hl] at this
      rw [(List.getElem?_eq_some_iff.mp hk).2] at this
      exact this.symm
    unfold first
    rw [e, List.find?_append, h1]
    simp [List.find?_cons, hb]
  · unfold first
    rw [List.take_add_one, hk, List.find?_append, h1]
    simp [hb]
def nms (d0 d1 d2 d3 d4 : D) : List Nm := [("dirs", d0, 2, 40), ("rows", d1, 1, 60), ("files", d2, 1, 40), ("blocks", d3, 1, 200), ("users", d4, 1, 4)]
def SiI (i : Nat) (d0 d1 d2 d3 d4 : D) (B : AH) (E : DL.Env) (C : AH) : Prop := ∃ e6 e7 e8 e9, E = [some (.ref i), some d0, some d1, some d2, some d3, some d4, e6, e7, e8, e9] ∧ C = B
def bX (w : Str) : Exn := ⟨3, [(15, .str w)]⟩
def SiX (L : List Nm) (B : AH) (e : Exn) (C : AH) : Prop := C = B ∧ ∃ w, first L = some w ∧ e = bX w
noncomputable def lpS : Sx := (sFor (iSeq (eF mkTup (aCons (eF mkTup (aCons (eC (.str "dirs")) (aCons (eVar 1) (aCons (eC (.int 2)) (aCons (eC (.int 40)) aNil))))) (aCons (eF mkTup (aCons (eC (.str "rows")) (aCons (eVar 2) (aCons (eC (.int 1)) (aCons (eC (.int 60)) aNil))))) (aCons (eF mkTup (aCons (eC (.str "files")) (aCons (eVar 3) (aCons (eC (.int 1)) (aCons (eC (.int 40)) aNil))))) (aCons (eF mkTup (aCons (eC (.str "blocks")) (aCons (eVar 4) (aCons (eC (.int 1)) (aCons (eC (.int 200)) aNil))))) (aCons (eF mkTup (aCons (eC (.str "users")) (aCons (eVar 5) (aCons (eC (.int 1)) (aCons (eC (.int 4)) aNil))))) aNil))))))) (gTup 4 (gCons (gName 6) (gCons (gName 7) (gCons (gName 8) (gCons (gName 9) gNil)))))
  (sIf (tNot (tB (eF (cl F_is_whole []) (aCons (eVar 7) (aCons (eVar 8) (aCons (eVar 9) aNil)))))) (sRaise 3 15 (eVar 6)) sNop))
theorem lpS_ok {i : Nat} {d0 d1 d2 d3 d4 : D} {B : AH} (p0 : Plain d0) (p1 : Plain d1) (p2 : Plain d2) (p3 : Plain d3) (p4 : Plain d4) :
    (lpS [some (.ref i), some d0, some d1, some d2, some d3, some d4, none, none, none, none] B).sat2 (SiX (nms d0 d1 d2 d3 d4) B) (fun E C => first (nms d0 d1 d2 d3 d4) = none ∧ SiI i d0 d1 d2 d3 d4 B E C) (fun _ _ => False) := by
  have pl : ∀ q ∈ nms d0 d1 d2 d3 d4, Plain q.2.1 := by
    intro q hq
    simp only [nms, List.mem_cons, List.not_mem_nil, or_false] at hq
    rcases hq with rfl | rfl | rfl | rfl | rfl <;> assumption
  have hsrc : (nms d0 d1 d2 d3 d4).map nmD = [.tup [.str "dirs", d0, .int 2, .int 40], .tup [.str "rows", d1, .int 1, .int 60], .tup [.str "files", d2, .int 1, .int 40], .tup [.str "blocks", d3, .int 1, .int 200], .tup [.str "users", d4, .int 1, .int 4]] := rfl
  have hl : (nms d0 d1 d2 d3 d4).length = 5 := rfl
  unfold lpS
  simp only [ev_sFor]
  simp [line]
  rw [← hsrc]
  generalize nms d0 d1 d2 d3 d4 = L at pl hl ⊢
  refine for_sat2 5 (fun k E C => first (L.take k) = none ∧ SiI i d0 d1 d2 d3 d4 B E C) (by simp [Src.size, hl]) ⟨by simp [first], none, none, none, none, rfl, rfl⟩ ?_ ?_
  · rintro k E C hk ⟨hf, e6, e7, e8, e9, rfl, rfl⟩
    obtain ⟨q, hq⟩ : ∃ q, L[k]? = some q := ⟨_, List.getElem?_eq_getElem (by omega)⟩
    obtain ⟨f1, f2⟩ := first_take hf hq
    have pq := pl q (List.mem_of_getElem? hq)
    refine ⟨nmD q, by rw [at_seq, List.getElem?_map, hq]; rfl, ?_⟩
    obtain ⟨w, v, lo, hi⟩ := q
    have ew := is_whole_ok (A := C) (lo := lo) (hi := hi) pq
    simp only at ew
    cases hb : whole lo hi v with
    | true =>
      rw [hb] at ew
      have := f2 (by simp [badQ, hb])
      simp [nmD, cl, ew, tsat2]
      exact ⟨this, _, _, _, _, rfl, rfl⟩
    | false =>
      rw [hb] at ew
      have := f1 (by simp [badQ, hb])
      simp [nmD, cl, ew, tsat2]
      exact ⟨rfl, w, this, rfl⟩
  · rintro E C ⟨hf, hI⟩
    refine ⟨by rw [at_seq, List.getElem?_eq_none (by simp [hl])]; rfl, ?_, hI⟩
    rw [List.take_of_length_le (by omega)] at hf
    exact hf
end Lw
set_option Elab.async false
set_option linter.all false
set_option maxRecDepth 100000
set_option maxHeartbeats 4000000
/-! Shapes are made, told, compared; their places (own work). -/
namespace Lw
open PySem DL
theorem sat2_iff {α : Type} {r : Res α} {Q : Exn → AH → Prop} {P : α → AH → Prop} (h : r.sat2 Q P) : (∃ a B, r = .ok a B ∧ P a B) ∨ ∃ x B, r = .exc x B ∧ Q x B := by
  cases r with
  | ok a B => exact .inl ⟨a, B, rfl, h⟩
  | exc x B => exact .inr ⟨x, B, rfl, h⟩
  | bad => exact h.elim
theorem ssat2_iff {r : SRes} {Q : Exn → AH → Prop} {N : DL.Env → AH → Prop} (h : r.sat2 Q N fun _ _ => False) : (∃ E B, r = .nx E B ∧ N E B) ∨ ∃ x E B, r = .exc x E B ∧ Q x B := by
  cases r with
  | nx E B => exact .inl ⟨E, B, rfl, h⟩
  | exc x E B => exact .inr ⟨x, E, B, rfl, h⟩
  | rt d B => exact h.elim
  | bk E B => exact h.elim
  | ct E B => exact h.elim
  | bad => exact h.elim
noncomputable def rsS : Sx := (sSeq (sFld [0] 0 (eVar 0) (eVar 1))
  (sSeq (sFld [0] 1 (eVar 0) (eVar 2))
  (sSeq (sFld [0] 2 (eVar 0) (eVar 3))
  (sSeq (sFld [0] 3 (eVar 0) (eVar 4))
  (sSeq (sFld [0] 4 (eVar 0) (eVar 5))
  (sSeq (sFld [0] 5 (eVar 0) (eF opAdd (aCons (eC (.int 1)) (aCons (eF (cl F_plates_for []) (aCons (eVar 1) aNil)) aNil))))
  (sSeq (sFld [0] 6 (eVar 0) (eF opAdd (aCons (eF (fFld [0] 5) (aCons (eVar 0) aNil)) (aCons (eF (cl F_plates_for []) (aCons (eVar 2) aNil)) aNil))))
  (sSeq (sFld [0] 7 (eVar 0) (eF opAdd (aCons (eF (fFld [0] 6) (aCons (eVar 0) aNil)) (aCons (eF (cl F_plates_for []) (aCons (eVar 5) aNil)) aNil))))
  (sSeq (sFld [0] 8 (eVar 0) (eF opAdd (aCons (eF (fFld [0] 7) (aCons (eVar 0) aNil)) (aCons (eVar 3) aNil))))
  (sFld [0] 9 (eVar 0) (eF opAdd (aCons (eF (fFld [0] 8) (aCons (eVar 0) aNil)) (aCons (eVar 4) aNil)))))))))))))
theorem b_init_eq : b_Shape_init = sSeq lpS rsS := rfl
theorem shape_init_ok {A : AH} {S : Sh} (o : S.Ok) : F_Shape_init [.ref A.length, .int S.d, .int S.r, .int S.f, .int S.b, .int S.u] (A ++ [.ins 0 []]) = .ok .non (A ++ [shO S]) := by
  have l := lpS_ok (i := A.length) (B := A ++ [O.ins 0 []]) (Plain.int S.d) (Plain.int S.r) (Plain.int S.f) (Plain.int S.b) (Plain.int S.u)
  have hf : first (nms (.int S.d) (.int S.r) (.int S.f) (.int S.b) (.int S.u)) = none := first_none fun q hq => by
    obtain ⟨a0, a1, b0, b1, c0, c1, e0, e1, g0, g1⟩ := o
    simp only [nms, List.mem_cons, List.not_mem_nil, or_false] at hq
    rcases hq with rfl | rfl | rfl | rfl | rfl <;> simp [whole, *]
  refine sat_eq (sat_def rfl ?_)
  rw [b_init_eq, ev_sSeq, ssat_seq]
  simp only [startE]
  rcases ssat2_iff l with ⟨E, B, e, _, e6, e7, e8, e9, rfl, rfl⟩ | ⟨x, E, B, e, _, w, hw, _⟩
  · have e' : lpS (([D.ref A.length, .int S.d, .int S.r, .int S.f, .int S.b, .int S.u].map some) ++ List.replicate 4 none) (A ++ [O.ins 0 []]) = .nx [some (.ref A.length), some (.int S.d), some (.int S.r), some (.int S.f), some (.int S.b), some (.int S.u), e6, e7, e8, e9] (A ++ [O.ins 0 []]) := e
    simp at e'
    simp [e']
    unfold rsS
    simp [cl, plates_for_ok, set_mid, at_mid]
    have q := gc_set (A := A ++ [O.ins 0 []]) (d := .non) (i := A.length) (o := shO S) (by simp) (by simp) (by simp [shO, O.bd])
    rw [set_mid] at q
    rw [show (A ++ [O.ins 0 [(0, D.int S.d), (1, .int S.r), (2, .int S.f), (3, .int S.b), (4, .int S.u), (5, .int (1 + pf S.d)), (6, .int (1 + pf S.d + pf S.r)), (7, .int (1 + pf S.d + pf S.r + pf S.u)), (8, .int (1 + pf S.d + pf S.r + pf S.u + S.f)), (9, .int (1 + pf S.d + pf S.r + pf S.u + S.f + S.b))]]) = A ++ [shO S] from rfl, q]
    exact ⟨rfl, rfl⟩
  · rw [hf] at hw
    cases hw
theorem shape_init_bad {A : AH} {d0 d1 d2 d3 d4 : D} {w : Str} (p0 : Plain d0) (p1 : Plain d1) (p2 : Plain d2) (p3 : Plain d3) (p4 : Plain d4) (hf : first (nms d0 d1 d2 d3 d4) = some w) :
    F_Shape_init [.ref A.length, d0, d1, d2, d3, d4] (A ++ [.ins 0 []]) = .exc (bX w) (A ++ [.ins 0 []]) := by
  have l := lpS_ok (i := A.length) (B := A ++ [O.ins 0 []]) p0 p1 p2 p3 p4
  rcases ssat2_iff l with ⟨E, B, e, hn, _⟩ | ⟨x, E, B, e, rfl, w', hw, rfl⟩
  · rw [hf] at hn
    cases hn
  · rw [hf] at hw
    cases hw
    refine (run_exc (E := E) rfl (show b_Shape_init _ _ = .exc (bX w) E (A ++ [O.ins 0 []]) from ?_)).trans ?_
    · rw [b_init_eq, ev_sSeq]
      have e' : lpS (startE 10 [D.ref A.length, d0, d1, d2, d3, d4]) (A ++ [O.ins 0 []]) = .exc (bX w) E (A ++ [O.ins 0 []]) := e
      rw [e']
      rfl
    · have := gcX_app (A := A ++ [O.ins 0 []]) (x := bX w) [] (by simp [bX])
      rwa [List.append_nil] at this
section
variable {A : AH} {s t : Nat} {S : Sh}
theorem told_ok (hs : A[s]? = some (shO S)) : F_Shape_told [.ref s] A = .ok (.tup [.int S.d, .int S.r, .int S.f, .int S.b, .int S.u]) A := by
  refine sat_eq (sat_def rfl ?_)
  simp only [b_Shape_told, startE]
  simp [hs, shO, line]
theorem eq_ok (hs : A[s]? = some (shO S)) (ht : A[t]? = some (shO S)) : F_Shape_eq [.ref s, .ref t] A = .ok (.bl true) A := by
  have p : (D.tup [.int S.d, .int S.r, .int S.f, .int S.b, .int S.u]).pur 60 = true := by simp
  have ee : opEqX [.tup [.int S.d, .int S.r, .int S.f, .int S.b, .int S.u], .tup [.int S.d, .int S.r, .int S.f, .int S.b, .int S.u]] A = .ok (.bl true) A := by
    rw [ev_eqX rfl, opEq_pur p p, eqD_same]
  refine sat_eq (sat_def rfl ?_)
  simp only [b_Shape_eq, startE]
  simp [-ev_eqX, cl, ev_isO (isIns_of ht), isIns_of hs, isIns_of ht, told_ok hs, told_ok ht, ee]
theorem clock_cell_ok : F_Shape_clock_cell [.ref s] A = .ok (.tup [.int 0, .int 0]) A := by
  refine sat_eq (sat_def rfl ?_)
  simp only [b_Shape_clock_cell, startE]
  simp [line]
theorem dir_cell_ok {n : Int} : F_Shape_dir_cell [.ref s, .int n] A = .ok (.tup [.int (1 + n.fdiv 8), .int (n.fmod 8)]) A := by
  refine sat_eq (sat_def rfl ?_)
  simp only [b_Shape_dir_cell, startE]
  simp [line]
theorem row_cell_ok {n : Int} (hs : A[s]? = some (shO S)) : F_Shape_row_cell [.ref s, .int n] A = .ok (.tup [.int (S.fr + n.fdiv 8), .int (n.fmod 8)]) A := by
  refine sat_eq (sat_def rfl ?_)
  simp only [b_Shape_row_cell, startE]
  simp [hs, shO, line]
theorem user_cell_ok {n : Int} (hs : A[s]? = some (shO S)) : F_Shape_user_cell [.ref s, .int n] A = .ok (.tup [.int (S.fu + n.fdiv 8), .int (n.fmod 8)]) A := by
  refine sat_eq (sat_def rfl ?_)
  simp only [b_Shape_user_cell, startE]
  simp [hs, shO, line]
theorem file_plate_ok {n : Int} (hs : A[s]? = some (shO S)) : F_Shape_file_plate [.ref s, .int n] A = .ok (.int (S.ff + n)) A := by
  refine sat_eq (sat_def rfl ?_)
  simp only [b_Shape_file_plate, startE]
  simp [hs, shO]
theorem block_plate_ok {n : Int} (hs : A[s]? = some (shO S)) : F_Shape_block_plate [.ref s, .int n] A = .ok (.int (S.fb + n)) A := by
  refine sat_eq (sat_def rfl ?_)
  simp only [b_Shape_block_plate, startE]
  simp [hs, shO]
end
end Lw
set_option Elab.async false
set_option linter.all false
set_option maxRecDepth 100000
set_option maxHeartbeats 4000000
/-! Homes; what is met below (own work). -/
namespace Lw
open PySem DL
/-- plates 0 .. n - 1, as told by h -/
def homeL (h : Int → List Int) (n : Nat) : List (D × D) := (List.range n).map fun (i : Nat) => (D.int i, D.tup ((h i).map D.int))
theorem homeL_len (h : Int → List Int) (n : Nat) : (homeL h n).length = n := by simp [homeL]
theorem valF_home {h : Int → List Int} {n : Nat} {k : Int} (h0 : 0 ≤ k) (h1 : k < n) : valF keyD (homeL h n) (.int k) = some (.tup ((h k).map D.int)) := by
  unfold valF homeL
  rw [List.find?_map]
  have : (List.range n).find? ((fun p : D × D => keqF keyD p.1 (D.int k)) ∘ fun i : Nat => (D.int i, D.tup ((h i).map D.int))) = some k.toNat := by
    rw [List.find?_range_eq_some]
    refine ⟨?_, ?_, ?_⟩
    · simp
      omega
    · simp
      omega
    · intro j hj
      simp
      omega
  rw [this]
  show some (D.tup ((h ((k.toNat : Nat) : Int)).map D.int)) = _
  rw [Int.toNat_of_nonneg h0]
def updH (h : Int → List Int) (k : Int) (xs : List Int) : Int → List Int := fun i => if i = k then xs else h i
theorem putF_home {h : Int → List Int} {n : Nat} {k : Int} {xs : List Int} (h0 : 0 ≤ k) (h1 : k < n) : putF' keyD (homeL h n) (.int k) (.tup (xs.map D.int)) = homeL (updH h k xs) n := by
  unfold putF'
  rw [if_pos]
  · unfold homeL
    rw [List.map_map]
    refine List.map_congr_left fun i hi => ?_
    simp only [Function.comp, keqF_int, decide_eq_true_eq, updH]
    by_cases z : (i : Int) = k <;> simp [z]
  · rw [List.any_eq_true]
    refine ⟨(D.int k, D.tup ((h k).map D.int)), ?_, by simp⟩
    unfold homeL
    rw [List.mem_map]
    exact ⟨k.toNat, by simp; omega, by rw [Int.toNat_of_nonneg h0]⟩
/-- a pointer's block -/
def blkD (S : Sh) (p : Int) : D := if 1 ≤ p ∧ p ≤ S.b then .int (p - 1) else .non
/-- blocks met below a pointer -/
def mb (h : Int → List Int) (S : Sh) : Nat → Int → List Int
  | 0, p => if 1 ≤ p ∧ p ≤ S.b then [p - 1] else []
  | l + 1, p => if 1 ≤ p ∧ p ≤ S.b then (p - 1) :: (h (S.fb + (p - 1))).flatMap (mb h S l) else []
def wt : Nat → Nat
  | 0 => 1
  | l + 1 => 1 + 8 * wt l
theorem flat_len {f : Int → List Int} {w : Nat} (hf : ∀ p, (f p).length ≤ w) : ∀ xs : List Int, (xs.flatMap f).length ≤ xs.length * w
  | [] => by simp
  | x :: xs => by
    rw [List.flatMap_cons, List.length_append, List.length_cons, Nat.add_mul, Nat.one_mul]
    have := flat_len hf xs
    have := hf x
    omega
theorem mb_len {h : Int → List Int} {S : Sh} (h8 : ∀ i, (h i).length ≤ 8) : ∀ (l : Nat) (p : Int), (mb h S l p).length ≤ wt l
  | 0, p => by
    unfold mb wt
    split <;> simp
  | l + 1, p => by
    unfold mb wt
    split
    · rw [List.length_cons]
      have q := flat_len (mb_len (S := S) h8 l) (h (S.fb + (p - 1)))
      have := Nat.mul_le_mul_right (wt l) (h8 (S.fb + (p - 1)))
      omega
    · simp
theorem mb_range {h : Int → List Int} {S : Sh} : ∀ (l : Nat) (p x : Int), x ∈ mb h S l p → 0 ≤ x ∧ x < S.b
  | 0, p, x, e => by
    unfold mb at e
    split at e
    · simp at e
      omega
    · cases e
  | l + 1, p, x, e => by
    unfold mb at e
    split at e
    · rcases List.mem_cons.mp e with e | e
      · omega
      · obtain ⟨q, _, hq⟩ := List.mem_flatMap.mp e
        exact mb_range l q x hq
    · cases e
theorem block_of_ok {A : AH} {s : Nat} {S : Sh} {p : Int} (hs : A[s]? = some (shO S)) : F_block_of [.ref s, .int p] A = .ok (blkD S p) A := by
  refine sat_eq (sat_def rfl ?_)
  simp only [b_block_of, startE]
  simp [hs, shO]
  unfold blkD
  by_cases a : 1 ≤ p
  · by_cases b : p ≤ S.b
    · simp [a, b]
    · simp [a, b]
  · simp [a]
theorem ints_bd (n : Nat) (xs : List Int) : (O.lst (xs.map D.int)).bd n = true := by
  show bdAll n (xs.map D.int) = true
  rw [bdAll_iff]
  intro d hd
  obtain ⟨x, _, rfl⟩ := List.mem_map.mp hd
  simp
/-- what stands behind k turns -/
def MbI (A : AH) (hi si : Nat) (p l : Int) (b : Int) (xs : List Int) (f : Int → List Int) (k : Nat) (E : DL.Env) (B : AH) : Prop :=
  ∃ (G : AH) (j : Nat) (e6 : Option D), B = A ++ G ∧ E = [some (.ref hi), some (.ref si), some (.int p), some (.int l), some (.int b), some (.ref (A.length + j)), e6] ∧ G[j]? = some (.lst ((b :: (xs.take k).flatMap f).map D.int))
theorem met_below_ok {h : Int → List Int} {S : Sh} (h8 : ∀ i, (h i).length ≤ 8) (ho : S.Ok) : ∀ (l f : Nat), l < f → l ≤ 4 → ∀ (p : Int) {A : AH} {hi si : Nat}, A[hi]? = some (.dic (homeL h S.pl.toNat)) → A[si]? = some (shO S) →
    F_met_below f [.ref hi, .ref si, .int p, .int l] A = .ok (.ref A.length) (A ++ [.lst ((mb h S l p).map D.int)]) := by
  intro l
  induction l with
  | zero =>
    intro f hf hl p A hi si hH hS
    obtain ⟨f, rfl⟩ : ∃ f', f = f' + 1 := ⟨f - 1, by omega⟩
    refine sat_eq (sat_def rfl ?_)
    simp only [b_met_below, startE]
    simp [cl, block_of_ok hS, line]
    unfold blkD mb
    by_cases a : 1 ≤ p ∧ p ≤ S.b
    · simp [a, line]
      have := gc_new (A := A) (G := [.lst [D.int (p - 1)]]) (j := 0) (o := .lst [D.int (p - 1)]) rfl rfl (by simp [O.bd])
      simp at this
      simp [this]
    · simp [a]
      have := gc_new (A := A) (G := [.lst []]) (j := 0) (o := .lst []) rfl rfl (by simp [O.bd])
      simp at this
      simp [this]
  | succ l ih =>
    intro f hf hl p A hi si hH hS
    obtain ⟨f, rfl⟩ : ∃ f', f = f' + 1 := ⟨f - 1, by omega⟩
    refine sat_eq (sat_def rfl ?_)
    obtain ⟨li, hli⟩ : ∃ li : Int, li = ((l + 1 : Nat) : Int) := ⟨_, rfl⟩
    rw [← hli]
    have l0 : 0 < li := by omega
    have l1 : li - 1 = (l : Int) := by omega
    simp only [b_met_below, startE]
    simp [cl, block_of_ok hS, line]
    unfold blkD
    by_cases a : 1 ≤ p ∧ p ≤ S.b
    · have hv : valF keyD (homeL h S.pl.toNat) (.int (S.fb + (p - 1))) = some (.tup ((h (S.fb + (p - 1))).map D.int)) := valF_home (by have := ho.pl; have := ho.f0; omega) (by have := ho.pl; have := ho.f0; omega)
      obtain ⟨b, hb⟩ : ∃ b : Int, b = p - 1 := ⟨_, rfl⟩
      rw [← hb] at hv ⊢
      have hins : isIns 0 (A ++ [O.lst [D.int b]]) (.ref si) = true := isIns_of (get_left hS)
      simp [a, l0, hins, block_plate_ok (get_left (G := [O.lst [D.int b]]) hS), get_left (G := [O.lst [D.int b]]) hH, hv]
      refine ⟨?_, fun z => by omega⟩
      refine for_sat (h (S.fb + b)).length (MbI A hi si p li b (h (S.fb + b)) (mb h S l)) (by simp [Src.size]) ⟨_, 0, none, rfl, rfl, by simp⟩ ?_ ?_
      · rintro k E B hk ⟨G, j, e6, rfl, rfl, hj⟩
        obtain ⟨q, hq⟩ : ∃ q, (h (S.fb + b))[k]? = some q := ⟨_, List.getElem?_eq_getElem hk⟩
        refine ⟨.int q, by rw [at_seq, List.getElem?_map, hq]; rfl, tsat_of ?_⟩
        have hc := ih f (by omega) (by omega) q (A := A ++ G) (get_left hH) (get_left hS)
        rw [← l1] at hc
        simp [cl, hc]
        have e1 : (A ++ (G ++ [O.lst ((mb h S l q).map D.int)]))[A.length + j]? = some (.lst ((b :: ((h (S.fb + b)).take k).flatMap (mb h S l)).map D.int)) := by
          rw [List.getElem?_append_right (by omega), show A.length + j - A.length = j by omega, List.getElem?_append_left (List.getElem?_eq_some_iff.mp hj).1]
          exact hj
        have e2 : (A ++ (G ++ [O.lst ((mb h S l q).map D.int)]))[A.length + G.length]? = some (.lst ((mb h S l q).map D.int)) := by
          rw [List.getElem?_append_right (by omega), show A.length + G.length - A.length = G.length by omega, List.getElem?_append_right (Nat.le_refl _), Nat.sub_self]
          rfl
        have b1 := mb_len (S := S) h8 l q
        have b2 := flat_len (mb_len (S := S) h8 l) ((h (S.fb + b)).take k)
        have b3 : ((h (S.fb + b)).take k).length ≤ 8 := by
          rw [List.length_take]
          have := h8 (S.fb + b)
          omega
        have b4 : wt l ≤ 600 := by
          have : l = 0 ∨ l = 1 ∨ l = 2 ∨ l = 3 := by omega
          rcases this with rfl | rfl | rfl | rfl <;> decide
        have b5 := Nat.mul_le_mul_right (wt l) b3
        rw [e1]
        simp only [ev_lst2]
        rw [if_pos (by simp only [List.length_map, List.length_cons, line]; omega)]
        refine ⟨G ++ [O.lst ((mb h S l q).map D.int), .lst ((b :: ((h (S.fb + b)).take (k + 1)).flatMap (mb h S l)).map D.int)], G.length + 1, some (.int q), ?_, ?_, ?_⟩
        · rw [List.take_add_one, hq]
          simp
        · simp
        · rw [List.getElem?_append_right (by omega), show G.length + 1 - G.length = 1 by omega]
          rfl
      · rintro E B ⟨G, j, e6, rfl, rfl, hj⟩
        refine ⟨by rw [at_seq, List.getElem?_eq_none (by simp)]; rfl, ?_⟩
        rw [List.take_length] at hj
        simp
        rw [gc_new hj rfl (ints_bd _ _)]
        have : mb h S (l + 1) p = b :: (h (S.fb + b)).flatMap (mb h S l) := by
          show (if 1 ≤ p ∧ p ≤ S.b then _ else _) = _
          rw [if_pos a, hb]
        rw [this]
        exact ⟨rfl, rfl⟩
    · simp [a]
      have e : mb h S (l + 1) p = [] := if_neg a
      have := gc_new (A := A) (G := [.lst []]) (j := 0) (o := .lst []) rfl rfl (by simp [O.bd])
      simp at this
      simp [this, e]
end Lw
set_option Elab.async false
set_option linter.all false
set_option maxRecDepth 100000
set_option maxHeartbeats 4000000
/-! What files meet (own work). -/
namespace Lw
open PySem DL
theorem upto_at {n k : Nat} (A : AH) (h : k < n) : (Src.seq (upto 0 n)).at A k = .item (.int k) := by
  rw [at_seq, upto_get, if_pos h]
  simp [stepO]
theorem upto_end {n : Nat} {lo : Int} (A : AH) : (Src.seq (upto lo n)).at A n = .stop := by
  rw [at_seq, upto_get, if_neg (Nat.lt_irrefl n)]
  rfl
theorem upto_size {n : Nat} {lo : Int} (A : AH) : (Src.seq (upto lo n)).size A = n := upto_len lo n
theorem small_of {i : Int} (h0 : 0 ≤ i) (h : i ≤ 1000000) : small62 i = true := by
  unfold small62
  simp
  omega
theorem ixD_ok {n : Nat} {i : Int} (h0 : 0 ≤ i) (h1 : i < n) : ixD n i = some i.toNat := by
  unfold ixD
  rw [if_pos h0, if_pos h1]
theorem ix_right {A G : AH} {j : Nat} : (A ++ G)[A.length + j]? = G[j]? := by
  rw [List.getElem?_append_right (by omega), show A.length + j - A.length = j by omega]
theorem set_right {A G : AH} {j : Nat} {o : O} : (A ++ G).set (A.length + j) o = A ++ G.set j o := by
  rw [List.set_append_right _ _ (by omega), show A.length + j - A.length = j by omega]
theorem get_grow {G H : AH} {j : Nat} {o : O} (h : G[j]? = some o) : (G ++ H)[j]? = some o := by
  rw [List.getElem?_append_left (List.getElem?_eq_some_iff.mp h).1]
  exact h
/-! pointers of a file's plate -/
def ptrs (xs : List Int) : List (Int × Nat) := (xs.drop 3).zip [0, 0, 0, 1, 2]
def qD (q : Int × Nat) : D := .tup [.int q.1, .int q.2]
theorem zip_ptrs {xs : List Int} (h8 : xs.length = 8) : zipD (cutD (xs.map D.int) (some 3) none) [.int 0, .int 0, .int 0, .int 1, .int 2] = (ptrs xs).map qD := by
  match xs, h8 with
  | [a, b, c, d, e, f, g, i], _ => rfl
theorem ptrs_lev {xs : List Int} {q : Int × Nat} (h : q ∈ ptrs xs) : q.2 ≤ 2 := by
  have := (List.of_mem_zip h).2
  simp at this
  omega
theorem ptrs_len (xs : List Int) : (ptrs xs).length ≤ 5 := by
  unfold ptrs
  rw [List.length_zip]
  exact Nat.min_le_right _ _
theorem pointers_at_ok {h : Int → List Int} {S : Sh} {f : Int} {A : AH} {hi si : Nat} (h8 : ∀ i, (h i).length = 8) (hH : A[hi]? = some (.dic (homeL h S.pl.toNat))) (hS : A[si]? = some (shO S)) (f0 : 0 ≤ f) (f1 : f < S.f) (ho : S.Ok) :
    F_pointers_at [.ref hi, .ref si, .int f] A = .ok (.ref A.length) (A ++ [.lst ((ptrs (h (S.ff + f))).map qD)]) := by
  refine sat_eq (sat_def rfl ?_)
  have hv : valF keyD (homeL h S.pl.toNat) (.int (S.ff + f)) = some (.tup ((h (S.ff + f)).map D.int)) := valF_home (by have := ho.pl; have := ho.f0; have := ho.b0; omega) (by have := ho.pl; have := ho.f0; have := ho.b0; omega)
  have e1 : rep 3 [D.int 0] = [.int 0, .int 0, .int 0] := rfl
  simp only [b_pointers_at, startE]
  simp [cl, isIns_of hS, file_plate_ok hS, hH, hv, line, ev_mulXT, e1]
  rw [ev_zipL, zip_ptrs (h8 _)]
  simp
  have := gc_new (A := A) (G := [.lst ((ptrs (h (S.ff + f))).map qD)]) (j := 0) (o := .lst ((ptrs (h (S.ff + f))).map qD)) rfl rfl (by
    show bdAll A.length _ = true
    rw [bdAll_iff]
    intro d hd
    obtain ⟨x, _, rfl⟩ := List.mem_map.mp hd
    simp [qD])
  simp at this
  simp [this]
def metL (h : Int → List Int) (S : Sh) (xs : List Int) : List Int := (ptrs xs).flatMap fun q => mb h S q.2 q.1
def MeI (A : AH) (hi si : Nat) (f : Int) (qs : List (Int × Nat)) (g : Int × Nat → List Int) (k : Nat) (E : DL.Env) (B : AH) : Prop :=
  ∃ (G : AH) (j : Nat) (e4 e5 : Option D), B = A ++ G ∧ E = [some (.ref hi), some (.ref si), some (.int f), some (.ref (A.length + j)), e4, e5] ∧ G[1]? = some (.lst (qs.map qD)) ∧ G[j]? = some (.lst (((qs.take k).flatMap g).map D.int))
theorem flat_lenQ {f : Int × Nat → List Int} {w : Nat} : ∀ {xs : List (Int × Nat)}, (∀ p ∈ xs, (f p).length ≤ w) → (xs.flatMap f).length ≤ xs.length * w
  | [], _ => by simp
  | x :: xs, hf => by
    rw [List.flatMap_cons, List.length_append, List.length_cons, Nat.add_mul, Nat.one_mul]
    have := flat_lenQ (fun p hp => hf p (List.mem_cons_of_mem x hp))
    have := hf x List.mem_cons_self
    omega
theorem wt_le {l : Nat} (h : l ≤ 2) : wt l ≤ 73 := by
  have : l = 0 ∨ l = 1 ∨ l = 2 := by omega
  rcases this with rfl | rfl | rfl <;> decide
theorem met_ok {h : Int → List Int} {S : Sh} {f : Int} {A : AH} {hi si : Nat} (h8 : ∀ i, (h i).length = 8) (hH : A[hi]? = some (.dic (homeL h S.pl.toNat))) (hS : A[si]? = some (shO S)) (f0 : 0 ≤ f) (f1 : f < S.f) (ho : S.Ok) :
    F_met [.ref hi, .ref si, .int f] A = .ok (.ref A.length) (A ++ [.lst ((metL h S (h (S.ff + f))).map D.int)]) := by
  refine sat_eq (sat_def rfl ?_)
  have hp := pointers_at_ok (A := A ++ [O.lst []]) h8 (get_left hH) (get_left hS) f0 f1 ho
  have h8' : ∀ i, (h i).length ≤ 8 := fun i => Nat.le_of_eq (h8 i)
  simp only [b_met, startE]
  simp [cl, line, hp]
  have el : (A ++ [O.lst [], .lst ((ptrs (h (S.ff + f))).map qD)])[A.length + 1]? = some (.lst ((ptrs (h (S.ff + f))).map qD)) := by rw [ix_right]; rfl
  refine for_sat (ptrs (h (S.ff + f))).length (MeI A hi si f (ptrs (h (S.ff + f))) fun q => mb h S q.2 q.1) (by rw [size_lst (ds := (ptrs (h (S.ff + f))).map qD) (by simp)]; simp) ⟨_, 0, none, none, rfl, rfl, rfl, rfl⟩ ?_ ?_
  · rintro k E B hk ⟨G, j, e4, e5, rfl, rfl, h1, hj⟩
    obtain ⟨q, hq⟩ : ∃ q, (ptrs (h (S.ff + f)))[k]? = some q := ⟨_, List.getElem?_eq_getElem hk⟩
    have h1' : seqO (A ++ G)[A.length + 1]? = some ((ptrs (h (S.ff + f))).map qD) := by rw [ix_right, h1]; rfl
    refine ⟨qD q, by rw [at_lst h1', List.getElem?_map, hq]; rfl, tsat_of ?_⟩
    have hl := ptrs_lev (List.mem_of_getElem? hq)
    have hc := met_below_ok h8' ho q.2 4 (by omega) (by omega) q.1 (A := A ++ G) (get_left hH) (get_left hS)
    have e1 : (A ++ (G ++ [O.lst ((mb h S q.2 q.1).map D.int)]))[A.length + j]? = some (.lst ((((ptrs (h (S.ff + f))).take k).flatMap fun q => mb h S q.2 q.1).map D.int)) := by
      rw [ix_right]
      exact get_grow hj
    have b1 := mb_len (S := S) h8' q.2 q.1
    have b2 := flat_lenQ (f := fun q : Int × Nat => mb h S q.2 q.1) (w := 73) (xs := (ptrs (h (S.ff + f))).take k) (fun p hp => Nat.le_trans (mb_len h8' _ _) (wt_le (ptrs_lev (List.mem_of_mem_take hp))))
    have b3 : ((ptrs (h (S.ff + f))).take k).length ≤ 5 := by
      rw [List.length_take]
      have := ptrs_len (h (S.ff + f))
      omega
    have b4 := wt_le hl
    simp [qD, cl, hc]
    rw [e1]
    simp only [ev_lst2]
    rw [if_pos (by simp only [List.length_map, line]; omega)]
    refine ⟨G ++ [O.lst ((mb h S q.2 q.1).map D.int), .lst ((((ptrs (h (S.ff + f))).take (k + 1)).flatMap fun q => mb h S q.2 q.1).map D.int)], G.length + 1, some (.int q.1), some (.int q.2), ?_, ?_, get_grow h1, ?_⟩
    · rw [List.take_add_one, hq]
      simp
    · simp
    · rw [List.getElem?_append_right (by omega), show G.length + 1 - G.length = 1 by omega]
      rfl
  · rintro E B ⟨G, j, e4, e5, rfl, rfl, h1, hj⟩
    have h1' : seqO (A ++ G)[A.length + 1]? = some ((ptrs (h (S.ff + f))).map qD) := by rw [ix_right, h1]; rfl
    refine ⟨by rw [at_lst h1', List.getElem?_eq_none (by simp)]; rfl, ?_⟩
    rw [List.take_length] at hj
    simp
    rw [gc_new hj rfl (ints_bd _ _)]
    exact ⟨rfl, rfl⟩
end Lw
set_option Elab.async false
set_option linter.all false
set_option maxRecDepth 100000
set_option maxHeartbeats 4000000
/-! What is read of a file (own work). -/
namespace Lw
open PySem DL
theorem getD_ints {cs : List Int} {b : Int} (h0 : 0 ≤ b) (h1 : b < cs.length) : atD (cs.map D.int) b = some (.int (cs.getD b.toNat 0)) := by
  refine atD_of h0 ?_
  rw [List.getElem?_map, List.getElem?_eq_getElem (show b.toNat < cs.length by omega), List.getD_eq_getElem?_getD, List.getElem?_eq_getElem (show b.toNat < cs.length by omega)]
  rfl
def blk (S : Sh) (p : Int) : Option Int := if 1 ≤ p ∧ p ≤ S.b then some (p - 1) else none
def cell (c : List Int) (q : Nat) : Int := c.getD q 0
theorem blk0 (S : Sh) : blk S 0 = none := if_neg (by omega)
theorem blk_some {S : Sh} {p b : Int} (h : blk S p = some b) : b = p - 1 ∧ 0 ≤ b ∧ b < S.b := by
  unfold blk at h
  split at h
  · cases h
    omega
  · cases h
def oD : Option Int → D
  | some b => .int b
  | none => .non
theorem blkD_o (S : Sh) (p : Int) : blkD S p = oD (blk S p) := by
  unfold blkD blk
  split <;> rfl
theorem cell_at {c : List Int} {q : Nat} (hq : q < c.length) : atD (c.map D.int) (q : Int) = some (.int (cell c q)) := by
  have := getD_ints (cs := c) (b := (q : Int)) (by omega) (by omega)
  simpa [cell] using this
def sD (r : List Nat) : List D := r.map fun (i : Nat) => D.int (i : Int)
def spot (n : Nat) : List Nat := if n < 3 then [3 + n] else if n < 11 then [6, n - 3] else [7, (n - 11) / 8, (n - 11) % 8]
theorem spot_len (n : Nat) : (spot n).length ≤ 3 ∧ spot n ≠ [] := by
  unfold spot
  split
  · simp
  · split <;> simp
theorem spot_lt {n : Nat} (hn : n < 75) : ∀ i ∈ spot n, i < 8 := by
  unfold spot
  intro i hi
  split at hi
  · simp at hi
    omega
  · split at hi
    · simp at hi
      omega
    · simp at hi
      omega
theorem fdiv8 (n : Nat) : Int.fdiv (n : Int) 8 = ((n / 8 : Nat) : Int) := by
  rw [Int.fdiv_eq_ediv_of_nonneg _ (by omega)]
  omega
theorem fmod8 (n : Nat) : Int.fmod (n : Int) 8 = ((n % 8 : Nat) : Int) := by
  rw [Int.fmod_eq_emod_of_nonneg _ (by omega)]
  omega
theorem spot_of_ok {A : AH} {n : Nat} : F_spot_of [.int n] A = .ok (.tup (sD (spot n))) A := by
  obtain ⟨ni, hni⟩ : ∃ ni : Int, ni = (n : Int) := ⟨_, rfl⟩
  rw [← hni]
  refine sat_eq (sat_def rfl ?_)
  simp only [b_spot_of, startE]
  by_cases a : n < 3
  · have a' : ni < 3 := by omega
    simp [a', line, spot, a, sD]
    omega
  · by_cases b : n < 11
    · have a' : ¬ ni < 3 := by omega
      have b' : ni < 11 := by omega
      simp [a', b', line, spot, a, b, sD]
      omega
    · have a' : ¬ ni < 3 := by omega
      have b' : ¬ ni < 11 := by omega
      have e1 : ni - 3 - 8 = ((n - 11 : Nat) : Int) := by omega
      simp [a', b', line, spot, a, b, sD, e1, fdiv8, fmod8]
def fol (h : Int → List Int) (S : Sh) : List Int → List Nat → Option Int
  | _, [] => none
  | c, [i] => blk S (cell c i)
  | c, i :: j :: r => match blk S (cell c i) with
    | some b => fol h S (h (S.fb + b)) (j :: r)
    | none => none
theorem fol_none {h : Int → List Int} {S : Sh} {c : List Int} {i : Nat} {r : List Nat} (e : blk S (cell c i) = none) : fol h S c (i :: r) = none := by
  cases r with
  | nil => exact e
  | cons j r =>
    show (match blk S (cell c i) with
      | some b => fol h S (h (S.fb + b)) (j :: r)
      | none => none) = none
    rw [e]
theorem fol_some {h : Int → List Int} {S : Sh} {c : List Int} {i j : Nat} {r : List Nat} {b : Int} (e : blk S (cell c i) = some b) : fol h S c (i :: j :: r) = fol h S (h (S.fb + b)) (j :: r) := by
  show (match blk S (cell c i) with
    | some b => fol h S (h (S.fb + b)) (j :: r)
    | none => none) = _
  rw [e]
theorem fol_one {h : Int → List Int} {S : Sh} {c : List Int} {i : Nat} : fol h S c [i] = blk S (cell c i) := rfl
theorem fol_lt {h : Int → List Int} {S : Sh} : ∀ {r : List Nat} {c : List Int} {b : Int}, fol h S c r = some b → 0 ≤ b ∧ b < S.b
  | [], _, _, e => by cases e
  | [i], c, b, e => by
    have := blk_some (show blk S (cell c i) = some b from e)
    omega
  | i :: j :: r, c, b, e => by
    cases q : blk S (cell c i) with
    | none => rw [fol_none q] at e; cases e
    | some b' => rw [fol_some q] at e; exact fol_lt e
/-- the block of a part -/
def db (h : Int → List Int) (S : Sh) (f n : Nat) : Option Int := fol h S (h (S.ff + (f : Int))) (spot n)
def dc (h : Int → List Int) (S : Sh) (f n k : Nat) : Int := match db h S f n with
  | some b => cell (h (S.fb + b)) k
  | none => 0
def sz (h : Int → List Int) (S : Sh) (f : Nat) : Nat := (min (max (cell (h (S.ff + (f : Int))) 0) 0) 600).toNat
def cont (h : Int → List Int) (S : Sh) (f : Nat) : List Int := (List.range (sz h S f)).map fun k => dc h S f (k / 8) (k % 8)
section
variable {S : Sh} {h : Int → List Int} {A : AH} {hi si : Nat} {f : Nat}
def DbI (h : Int → List Int) (S : Sh) (A : AH) (hi si f n : Nat) (w : List Nat) (T : Option Int) (k : Nat) (E : DL.Env) (B : AH) : Prop :=
  ∃ (c : List Int) (e5 e6 : Option D), E = [some (.ref hi), some (.ref si), some (.int f), some (.int n), some (.tup (c.map D.int)), e5, e6] ∧ B = A ∧ c.length = 8 ∧
    ((k < w.length ∧ fol h S c (w.drop k) = T) ∨ (k = w.length ∧ e5 = some (oD T)))
theorem data_block_ok {n : Nat} (h8 : ∀ i, (h i).length = 8) (hH : A[hi]? = some (.dic (homeL h S.pl.toNat))) (hS : A[si]? = some (shO S)) (hf : (f : Int) < S.f) (hn : n < 75) (ho : S.Ok) :
    F_data_block [.ref hi, .ref si, .int f, .int n] A = .ok (oD (db h S f n)) A := by
  obtain ⟨sl, sn⟩ := spot_len n
  have eT : db h S f n = fol h S (h (S.ff + (f : Int))) (spot n) := rfl
  have hv : valF keyD (homeL h S.pl.toNat) (.int (S.ff + (f : Int))) = some (.tup ((h (S.ff + (f : Int))).map D.int)) := valF_home (by have := ho.pl; have := ho.f0; have := ho.b0; omega) (by have := ho.pl; have := ho.f0; have := ho.b0; omega)
  obtain ⟨T, hT⟩ : ∃ T, T = db h S f n := ⟨_, rfl⟩
  rw [← hT]
  rw [← hT] at eT
  refine sat_eq (sat_def rfl ?_)
  simp only [b_data_block, startE]
  have hfp := file_plate_ok (n := (f : Int)) hS
  simp [cl, isIns_of hS, hfp, hH, hv, spot_of_ok]
  refine for_sat (spot n).length (DbI h S A hi si f n (spot n) T) (by simp [Src.size, sD]) ⟨h (S.ff + (f : Int)), some .non, none, rfl, rfl, h8 _, .inl ⟨List.length_pos_iff.mpr sn, by rw [List.drop_zero]; exact eT.symm⟩⟩ ?_ ?_
  · rintro k E B hk ⟨c, e5, e6, rfl, rfl, hc, hh⟩
    obtain ⟨i, hi'⟩ : ∃ i, (spot n)[k]? = some i := ⟨_, List.getElem?_eq_getElem hk⟩
    have i8 : i < 8 := spot_lt hn i (List.mem_of_getElem? hi')
    have hat := cell_at (c := c) (q := i) (by omega)
    have ed : (spot n).drop k = i :: (spot n).drop (k + 1) := by
      rw [List.drop_eq_getElem_cons hk]
      congr 1
      rw [List.getElem?_eq_getElem hk] at hi'
      exact Option.some.inj hi'
    have hfol : fol h S c (i :: (spot n).drop (k + 1)) = T := by
      rcases hh with ⟨_, e⟩ | ⟨e, _⟩
      · rw [← ed]
        exact e
      · omega
    refine ⟨.int i, by rw [at_seq, sD, List.getElem?_map, hi']; rfl, tsat_of ?_⟩
    obtain ⟨p, hp⟩ : ∃ p, p = cell c i := ⟨_, rfl⟩
    rw [← hp] at hat
    simp [hat, cl, block_of_ok hS, blkD_o]
    cases eb : blk S p with
    | none =>
      have : T = none := by
        rw [← hfol]
        exact fol_none (by rw [← hp]; exact eb)
      subst this
      simp [oD]
    | some b =>
      obtain ⟨b0, b1⟩ : 0 ≤ b ∧ b < S.b := by first | exact fol_lt eb | (have := blk_some eb; omega)
      have hv2 : valF keyD (homeL h S.pl.toNat) (.int (S.fb + b)) = some (.tup ((h (S.fb + b)).map D.int)) := valF_home (by have := ho.pl; have := ho.f0; have := ho.b0; omega) (by have := ho.pl; have := ho.f0; have := ho.b0; omega)
      simp [oD, isIns_of hS, block_plate_ok hS, hH, hv2]
      refine ⟨h (S.fb + b), some (.int b), some (.int i), rfl, rfl, h8 _, ?_⟩
      by_cases y : k + 1 < (spot n).length
      · refine .inl ⟨y, ?_⟩
        rw [List.drop_eq_getElem_cons y] at hfol ⊢
        rw [fol_some (by rw [← hp]; exact eb)] at hfol
        exact hfol
      · have yl : k + 1 = (spot n).length := by omega
        refine .inr ⟨yl, ?_⟩
        rw [yl, List.drop_length, fol_one, ← hp, eb] at hfol
        rw [← hfol]
        rfl
  · rintro E B ⟨c, e5, e6, rfl, rfl, hc, hh⟩
    refine ⟨by rw [at_seq, List.getElem?_eq_none (by simp [sD])]; rfl, ?_⟩
    rcases hh with ⟨e, _⟩ | ⟨_, e⟩
    · omega
    · subst e
      simp
      have hb : (oD T).bd B.length = true := by cases T <;> simp [oD]
      simp [hb]
def szO (h : Int → List Int) (S : Sh) (f : Nat) : Int := ((sz h S f : Nat) : Int)
theorem sz_le (h : Int → List Int) (S : Sh) (f : Nat) : sz h S f ≤ 600 := by
  unfold sz
  omega
theorem size_at_ok (h8 : ∀ i, (h i).length = 8) (hH : A[hi]? = some (.dic (homeL h S.pl.toNat))) (hS : A[si]? = some (shO S)) (hf : (f : Int) < S.f) (ho : S.Ok) :
    F_size_at [.ref hi, .ref si, .int f] A = .ok (.int (szO h S f)) A := by
  have hv : valF keyD (homeL h S.pl.toNat) (.int (S.ff + (f : Int))) = some (.tup ((h (S.ff + (f : Int))).map D.int)) := valF_home (by have := ho.pl; have := ho.f0; have := ho.b0; omega) (by have := ho.pl; have := ho.f0; have := ho.b0; omega)
  have hat : atD ((h (S.ff + (f : Int))).map D.int) 0 = some (.int (cell (h (S.ff + (f : Int))) 0)) := cell_at (q := 0) (by rw [h8]; omega)
  obtain ⟨p, hp⟩ : ∃ p, p = cell (h (S.ff + (f : Int))) 0 := ⟨_, rfl⟩
  obtain ⟨R, hR⟩ : ∃ R, R = szO h S f := ⟨_, rfl⟩
  rw [← hR]
  refine sat_eq (sat_def rfl ?_)
  simp only [b_size_at, startE]
  simp [cl, isIns_of hS, file_plate_ok hS, hH, hv, hat]
  rw [hR, szO, sz, ← hp]
  by_cases a : p < 0
  · rw [if_pos a]
    simp
    omega
  · rw [if_neg a]
    by_cases b : 600 < p
    · simp [b]
      omega
    · simp [b]
      omega
def NuI (h : Int → List Int) (S : Sh) (A : AH) (hi si f m : Nat) (k : Nat) (E : DL.Env) (B : AH) : Prop :=
  ∃ e6 e7, E = [some (.ref hi), some (.ref si), some (.int f), some (.int 0), some (.int m), some (.ref A.length), e6, e7] ∧ B = A ++ [.lst (((List.range k).map fun k => dc h S f (k / 8) (k % 8)).map D.int)]
theorem numbers_at_ok {m : Nat} (h8 : ∀ i, (h i).length = 8) (hH : A[hi]? = some (.dic (homeL h S.pl.toNat))) (hS : A[si]? = some (shO S)) (hf : (f : Int) < S.f) (hm : m ≤ 600) (ho : S.Ok) :
    F_numbers_at [.ref hi, .ref si, .int f, .int 0, .int m] A = .ok (.tup (((List.range m).map fun k => dc h S f (k / 8) (k % 8)).map D.int)) A := by
  obtain ⟨mi, hmi⟩ : ∃ mi : Int, mi = (m : Int) := ⟨_, rfl⟩
  obtain ⟨R, hR⟩ : ∃ R : List Int, R = (List.range m).map fun k => dc h S f (k / 8) (k % 8) := ⟨_, rfl⟩
  rw [← hmi, ← hR]
  refine sat_eq (sat_def rfl ?_)
  simp only [b_numbers_at, startE]
  have em : mi.toNat = m := by omega
  simp [line, small_of (show (0 : Int) ≤ 0 by omega) (by omega), small_of (show 0 ≤ mi by omega) (by omega), em]
  refine for_sat m (fun k E B => ∃ e6 e7, E = [some (.ref hi), some (.ref si), some (.int f), some (.int 0), some (.int mi), some (.ref A.length), e6, e7] ∧ B = A ++ [.lst (((List.range k).map fun k => dc h S f (k / 8) (k % 8)).map D.int)]) (by rw [upto_size]; exact Nat.le_refl _) ⟨none, none, rfl, rfl⟩ ?_ ?_
  · rintro k E B hk ⟨e6, e7, rfl, rfl⟩
    refine ⟨.int k, upto_at _ hk, tsat_of ?_⟩
    have hH' : ∀ G, (A ++ G)[hi]? = some (.dic (homeL h S.pl.toNat)) := fun G => get_left hH
    have hS' : ∀ G, (A ++ G)[si]? = some (shO S) := fun G => get_left hS
    have hd := fun G => data_block_ok (A := A ++ G) (n := k / 8) h8 (hH' G) (hS' G) hf (by omega) ho
    have e8 := fdiv8 k
    have e9 := fmod8 k
    obtain ⟨k8, hk8⟩ : ∃ k8 : Int, k8 = ((k / 8 : Nat) : Int) := ⟨_, rfl⟩
    rw [← hk8] at e8 hd
    simp only [List.map_map]
    simp [e8, cl, hd]
    have fin : ∀ v : Int, v = dc h S f (k / 8) (k % 8) → k < line ∧ (List.range k).map (D.int ∘ fun k => dc h S f (k / 8) (k % 8)) ++ [.int v] = (List.range (k + 1)).map (D.int ∘ fun k => dc h S f (k / 8) (k % 8)) := fun v hv => by
      refine ⟨by unfold line; omega, ?_⟩
      rw [List.range_succ, List.map_append, hv]
      rfl
    cases eb : db h S f (k / 8) with
    | none =>
      have q := fin 0 (by unfold dc; rw [eb])
      simp [oD, kindO, q.1, set_last]
      exact q.2
    | some b =>
      obtain ⟨b0, b1⟩ : 0 ≤ b ∧ b < S.b := by first | exact fol_lt eb | (have := blk_some eb; omega)
      have hv2 : valF keyD (homeL h S.pl.toNat) (.int (S.fb + b)) = some (.tup ((h (S.fb + b)).map D.int)) := valF_home (by have := ho.pl; have := ho.f0; have := ho.b0; omega) (by have := ho.pl; have := ho.f0; have := ho.b0; omega)
      have hat := cell_at (c := h (S.fb + b)) (q := k % 8) (by rw [h8]; omega)
      have q := fin (cell (h (S.fb + b)) (k % 8)) (by unfold dc; rw [eb])
      have hi' := isIns_of (hS' [O.lst ((List.range k).map (D.int ∘ fun k => dc h S f (k / 8) (k % 8)))])
      simp [oD, kindO, hi', block_plate_ok (hS' _), hH', hv2, e9]
      rw [show ((k : Int) % 8) = ((k % 8 : Nat) : Int) by omega, hat]
      have gl : ∀ o : O, (A ++ [o])[A.length]? = some o := fun o => get_last
      have sl : ∀ o o' : O, (A ++ [o]).set A.length o' = A ++ [o'] := fun o o' => set_last
      simp [gl, q.1, sl]
      exact q.2
  · rintro E B ⟨e6, e7, rfl, rfl⟩
    refine ⟨upto_end _, ?_⟩
    simp
    have e : (List.range m).map (D.int ∘ fun k => dc h S f (k / 8) (k % 8)) = R.map D.int := by rw [hR, List.map_map]
    rw [e, gc_app _ (by rw [bd_tup]; exact ints_bd _ R)]
    exact ⟨rfl, rfl⟩
theorem content_of_ok (h8 : ∀ i, (h i).length = 8) (hH : A[hi]? = some (.dic (homeL h S.pl.toNat))) (hS : A[si]? = some (shO S)) (hf : (f : Int) < S.f) (ho : S.Ok) :
    F_content_of [.ref hi, .ref si, .int f] A = .ok (.tup ((cont h S f).map D.int)) A := by
  have q := numbers_at_ok (m := sz h S f) h8 hH hS hf (sz_le h S f) ho
  have q2 := size_at_ok h8 hH hS hf ho
  obtain ⟨R, hR⟩ : ∃ R : List Int, R = cont h S f := ⟨_, rfl⟩
  have q3 : F_numbers_at [.ref hi, .ref si, .int f, .int 0, .int (szO h S f)] A = .ok (.tup (R.map D.int)) A := by rw [hR]; exact q
  obtain ⟨sO, hs⟩ : ∃ sO : Int, sO = szO h S f := ⟨_, rfl⟩
  rw [← hs] at q2 q3
  rw [← hR]
  refine sat_eq (sat_def rfl ?_)
  simp only [b_content_of, startE]
  simp [cl, q2, q3]
  rw [gc_self (by rw [bd_tup]; exact ints_bd _ R)]
  exact ⟨rfl, rfl⟩
end
end Lw
set_option Elab.async false
set_option linter.all false
set_option maxRecDepth 100000
set_option maxHeartbeats 4000000
/-! A dict comprehension evaluated (own work). -/
namespace DL
open PySem
theorem ev_eDc (it : Ix) (g : Gx) (t : Tx) (k e : Ex) (own : List Nat) (E : DL.Env) (A : AH) : eDc it g t k e own E A = (it E A).bind (kDc g t k e (wipeE E own)) := rfl
/-- a dict comprehension; I k A: its dict (at the number A.length) is within -/
theorem dc_sat {src : Src} {g : Gx} {t : Tx} {kx e : Ex} {E : Env} {A : AH} {P : D → AH → Prop} (n : Nat) (I : Nat → AH → Prop) (hn : n ≤ src.size A) (h0 : I 0 (A ++ [.dic []]))
    (hs : ∀ k B, k < n → I k B → ∃ d E5 A5, src.at B k = .item d ∧ g d E B = .nx E5 A5 ∧ (t E5 A5).sat fun c A6 => if c = true then (kx E5 A6).sat (fun y A7 => (e E5 A7).sat fun z A8 => ∃ kvs, A8[A.length]? = some (.dic kvs) ∧ (keyD y).isSome = true ∧ kvs.length < line ∧ I (k + 1) (A8.set A.length (.dic (putF' keyD kvs y z)))) else I (k + 1) A6)
    (he : ∀ B, I n B → src.at B n = .stop ∧ P (.ref A.length) B) : (kDc g t kx e E src A).sat P := by
  have main : ∀ m k B, k + m = n → I k B → ∀ f, m + 1 ≤ f → (dcN src g t kx e E A.length f k B).sat P := by
    intro m
    induction m with
    | zero =>
      intro k B hk hI f hf
      obtain ⟨f, rfl⟩ : ∃ f', f = f' + 1 := ⟨f - 1, by omega⟩
      have e0 : k = n := by omega
      subst e0
      obtain ⟨q1, q2⟩ := he B hI
      show (dcK g t kx e E A.length (dcN src g t kx e E A.length f (k + 1)) B (src.at B k)).sat P
      rw [q1]
      exact q2
    | succ m ih =>
      intro k B hk hI f hf
      obtain ⟨f, rfl⟩ : ∃ f', f = f' + 1 := ⟨f - 1, by omega⟩
      obtain ⟨d, E5, A5, q1, q2, q3⟩ := hs k B (by omega) hI
      show (dcK g t kx e E A.length (dcN src g t kx e E A.length f (k + 1)) B (src.at B k)).sat P
      rw [q1]
      show (kDc1 t kx e A.length (dcN src g t kx e E A.length f (k + 1)) (g d E B)).sat P
      rw [q2]
      show ((t E5 A5).bindN (kDc2 kx e E5 A.length (dcN src g t kx e E A.length f (k + 1)))).sat P
      rw [sat_bindN]
      refine q3.mono fun c A6 z => ?_
      cases c with
      | false => exact ih (k + 1) A6 (by omega) z f (by omega)
      | true =>
        show ((kx E5 A6).bindN (kDc3 e E5 A.length (dcN src g t kx e E A.length f (k + 1)))).sat P
        rw [sat_bindN]
        have z' : (kx E5 A6).sat (fun y A7 => (e E5 A7).sat fun z A8 => ∃ kvs, A8[A.length]? = some (.dic kvs) ∧ (keyD y).isSome = true ∧ kvs.length < line ∧ I (k + 1) (A8.set A.length (.dic (putF' keyD kvs y z)))) := z
        refine z'.mono fun y A7 z2 => ?_
        show ((e E5 A7).bindN (kDc4 A.length (dcN src g t kx e E A.length f (k + 1)) y)).sat P
        rw [sat_bindN]
        refine Res.sat.mono z2 fun v A8 ⟨kvs, r1, r2, r3, r4⟩ => ?_
        show (okA (dcN src g t kx e E A.length f (k + 1)) (addK A.length y v A8 A8[A.length]?)).sat P
        have : addK A.length y v A8 A8[A.length]? = some (A8.set A.length (.dic (putF' keyD kvs y v))) := by
          rw [r1]
          unfold addK
          simp only [r2, r3, and_self, if_true]
        rw [this]
        exact ih (k + 1) _ (by omega) r4 f (by omega)
  exact main n 0 _ (by omega) h0 _ (by omega)
end DL
set_option Elab.async false
set_option linter.all false
set_option maxRecDepth 100000
set_option maxHeartbeats 4000000
/-! What is read of directories and rows (own work). -/
namespace Lw
open PySem DL
abbrev NM : Int := 475254
section
variable {S : Sh} {h : Int → List Int} {A : AH} {hi si : Nat} {n : Int}
theorem cell_at_ok {p q : Int} (h8 : ∀ i, (h i).length = 8) (hH : A[hi]? = some (.dic (homeL h S.pl.toNat))) (p0 : 0 ≤ p) (p1 : p < S.pl) (q0 : 0 ≤ q) (q1 : q < 8) :
    F_cell_at [.ref hi, .tup [.int p, .int q]] A = .ok (.int (cell (h p) q.toNat)) A := by
  have hv : valF keyD (homeL h S.pl.toNat) (.int p) = some (.tup ((h p).map D.int)) := valF_home p0 (by omega)
  have hat : atD ((h p).map D.int) q = some (.int (cell (h p) q.toNat)) := getD_ints q0 (by rw [h8]; omega)
  have t0 : ∀ B : AH, opIx [.tup [.int p, .int q], .int 0] B = .ok (.int p) B := fun _ => rfl
  have t1 : ∀ B : AH, opIx [.tup [.int p, .int q], .int 1] B = .ok (.int q) B := fun _ => rfl
  refine sat_eq (sat_def rfl ?_)
  simp only [b_cell_at, startE]
  simp [t0, t1, hH, hv, hat]
theorem fm8 (n : Int) : 0 ≤ n.fmod 8 ∧ n.fmod 8 < 8 := ⟨Int.fmod_nonneg_of_pos _ (by omega), Int.fmod_lt_of_pos _ (by omega)⟩
theorem fd8 (n : Int) : n.fdiv 8 = n / 8 := Int.fdiv_eq_ediv_of_nonneg _ (by omega)
theorem dirP {S : Sh} (o : S.Ok) (n0 : 0 ≤ n) (n1 : n < S.d) : 0 ≤ 1 + n.fdiv 8 ∧ 1 + n.fdiv 8 < S.pl := by
  have := o.fr; have := o.fu; have := o.ff; have := o.pl; have := o.f0; have := o.b0
  rw [fd8]
  omega
theorem rowP {S : Sh} (o : S.Ok) (n0 : 0 ≤ n) (n1 : n < S.r) : 0 ≤ S.fr + n.fdiv 8 ∧ S.fr + n.fdiv 8 < S.pl := by
  have := o.fr; have := o.fu; have := o.ff; have := o.pl; have := o.f0; have := o.b0
  rw [fd8]
  omega
def dv (h : Int → List Int) (n : Int) : Int := cell (h (1 + n.fdiv 8)) (n.fmod 8).toNat
def rv (h : Int → List Int) (S : Sh) (n : Int) : Int := cell (h (S.fr + n.fdiv 8)) (n.fmod 8).toNat
def dirD (v : Int) : D := if v < 1 then .non else .tup [.int ((v - 1).fdiv NM), .int ((v - 1).fmod NM)]
theorem dir_at_ok (h8 : ∀ i, (h i).length = 8) (hH : A[hi]? = some (.dic (homeL h S.pl.toNat))) (hS : A[si]? = some (shO S)) (o : S.Ok) (n0 : 2 ≤ n) (n1 : n < S.d) :
    F_dir_at [.ref hi, .ref si, .int n] A = .ok (dirD (dv h n)) A := by
  obtain ⟨p0, p1⟩ := dirP o (show 0 ≤ n by omega) n1
  obtain ⟨q0, q1⟩ := fm8 n
  have hc := cell_at_ok (S := S) h8 hH p0 p1 q0 q1
  have e : cell (h (1 + n.fdiv 8)) (n.fmod 8).toNat = dv h n := rfl
  rw [e] at hc
  generalize dv h n = v at hc ⊢
  have nn : ¬ n ≤ 1 := by omega
  refine sat_eq (sat_def rfl ?_)
  simp only [b_dir_at, startE]
  simp [cl, isIns_of hS, dir_cell_ok, hc, nn]
  unfold dirD
  by_cases z : v < 1
  · simp [z]
    exact fun y => absurd y (by omega)
  · simp [z, line]
    omega
/-- (up, name, file) -/
def rowT (S : Sh) (v : Int) : Option (Int × Int × Int) := if v < 1 then none else some (((v - 1).fdiv S.f).fdiv NM, ((v - 1).fdiv S.f).fmod NM, (v - 1).fmod S.f)
def rowD : Option (Int × Int × Int) → D
  | some (a, b, c) => .tup [.int a, .int b, .int c]
  | none => .non
theorem row_at_ok (h8 : ∀ i, (h i).length = 8) (hH : A[hi]? = some (.dic (homeL h S.pl.toNat))) (hS : A[si]? = some (shO S)) (o : S.Ok) (n0 : 0 ≤ n) (n1 : n < S.r) :
    F_row_at [.ref hi, .ref si, .int n] A = .ok (rowD (rowT S (rv h S n))) A := by
  obtain ⟨p0, p1⟩ := rowP o n0 n1
  obtain ⟨q0, q1⟩ := fm8 n
  have hc := cell_at_ok (S := S) h8 hH p0 p1 q0 q1
  have e : cell (h (S.fr + n.fdiv 8)) (n.fmod 8).toNat = rv h S n := rfl
  rw [e] at hc
  generalize rv h S n = v at hc ⊢
  have f0 := o.f0
  have f1 : ¬ S.f = 0 := by omega
  have hrc := row_cell_ok (n := n) hS
  have hins := isIns_of hS
  simp only [shO] at hS
  refine sat_eq (sat_def rfl ?_)
  simp only [b_row_at, startE]
  simp [cl, hins, hrc, hc]
  unfold rowT
  by_cases z : v < 1
  · simp [z, rowD]
    exact fun y => absurd y (by omega)
  · have := o.f1
    simp [z, line, hS, f1, rowD]
    exact ⟨by omega, fun _ => by omega⟩
theorem is_dir_ok (h8 : ∀ i, (h i).length = 8) (hH : A[hi]? = some (.dic (homeL h S.pl.toNat))) (hS : A[si]? = some (shO S)) (o : S.Ok) (n0 : 2 ≤ n) (n1 : n < S.d) :
    F_is_dir [.ref hi, .ref si, .int n] A = .ok (.bl (!decide (dv h n < 1))) A := by
  have hd := dir_at_ok h8 hH hS o n0 n1
  have n00 : 0 ≤ n := by omega
  have nn : ¬ n ≤ 1 := by omega
  simp only [shO] at hS
  refine sat_eq (sat_def rfl ?_)
  simp only [b_is_dir, startE]
  generalize dv h n = v at hd ⊢
  unfold dirD at hd
  by_cases z : v < 1
  · rw [if_pos z] at hd
    simp [cl, hS, n00, n1, nn, hd, z]
  · rw [if_neg z] at hd
    simp [cl, hS, n00, n1, nn, hd, z]
theorem owner_at_ok {f : Int} (h8 : ∀ i, (h i).length = 8) (hH : A[hi]? = some (.dic (homeL h S.pl.toNat))) (hS : A[si]? = some (shO S)) (o : S.Ok) (f0 : 0 ≤ f) (f1 : f < S.f) :
    ∃ w : Int, F_owner_at [.ref hi, .ref si, .int f] A = .ok (.int w) A ∧ 0 ≤ w ∧ w < S.u := by
  have hv : valF keyD (homeL h S.pl.toNat) (.int (S.ff + f)) = some (.tup ((h (S.ff + f)).map D.int)) := valF_home (by have := o.pl; omega) (by have := o.pl; have := o.b0; omega)
  have hat : atD ((h (S.ff + f)).map D.int) 1 = some (.int (cell (h (S.ff + f)) 1)) := getD_ints (by omega) (by rw [h8]; omega)
  have hfp := file_plate_ok (n := f) hS
  have hins := isIns_of hS
  have u0 := o.u0
  generalize cell (h (S.ff + f)) 1 = w at hat
  simp only [shO] at hS
  by_cases z : 0 ≤ w ∧ w < S.u
  · refine ⟨w, sat_eq (sat_def rfl ?_), z.1, z.2⟩
    simp only [b_owner_at, startE]
    simp [cl, hins, hfp, hH, hv, hat, hS, z.1, z.2]
  · refine ⟨0, sat_eq (sat_def rfl ?_), by omega, by omega⟩
    simp only [b_owner_at, startE]
    by_cases y : 0 ≤ w
    · have y2 : ¬ w < S.u := fun x => z ⟨y, x⟩
      simp [cl, hins, hfp, hH, hv, hat, hS, y, y2]
    · simp [cl, hins, hfp, hH, hv, hat, hS, y]
/-! rows -/
def rowAt (h : Int → List Int) (S : Sh) (n : Int) : Option (Int × Int × Int) := rowT S (rv h S n)
def prD (h : Int → List Int) (S : Sh) : D → D
  | .int n => .tup [.int n, rowD (rowAt h S n)]
  | _ => .non
def secS : D → Bool
  | .tup [_, .non] => false
  | _ => true
theorem rowD_non {o : Option (Int × Int × Int)} : rowD o = .non ↔ o = none := by
  cases o with
  | none => simp [rowD]
  | some q => obtain ⟨a, b, c⟩ := q; simp [rowD]
def rowsL (h : Int → List Int) (S : Sh) : List D := ((upto 0 S.r.toNat).map (prD h S)).filter secS
theorem rows_of_ok (h8 : ∀ i, (h i).length = 8) (hH : A[hi]? = some (.dic (homeL h S.pl.toNat))) (hS : A[si]? = some (shO S)) (o : S.Ok) :
    F_rows_of [.ref hi, .ref si] A = .ok (.ref A.length) (A ++ [.lst (rowsL h S)]) := by
  have r0 := o.r0
  have r1 := o.r1
  have mem : ∀ y ∈ upto 0 S.r.toNat, ∃ j : Int, y = .int j ∧ 0 ≤ j ∧ j < S.r := fun y hy => by
    obtain ⟨i, hi, rfl⟩ := List.mem_map.mp hy
    have := List.mem_range.mp hi
    exact ⟨0 + (i : Int), rfl, by omega, by omega⟩
  have q1 := lc_map (src := .seq (upto 0 S.r.toNat)) (g := gName 3) (e := eF mkTup (aCons (eVar 3) (aCons (eF (cl F_row_at []) (aCons (eVar 0) (aCons (eVar 1) (aCons (eVar 3) aNil)))) aNil))) (E := [some (.ref hi), some (.ref si), none, none, none]) (A := A) (ds := upto 0 S.r.toNat)
    (fun d => [some (.ref hi), some (.ref si), none, some d, none]) (prD h S) (by rw [upto_len]; unfold line; omega) rfl (fun _ _ => rfl) (fun d hd G => rfl) (fun d hd G => by
      obtain ⟨j, rfl, j0, j1⟩ := mem d hd
      have hr := row_at_ok (A := A ++ G) h8 (get_left hH) (get_left hS) o j0 j1
      simp [cl, hr, line, prD, rowAt])
  obtain ⟨L, hL⟩ : ∃ L, L = (upto 0 S.r.toNat).map (prD h S) := ⟨_, rfl⟩
  have memL : ∀ d ∈ L, ∃ (j : Int) (t : Option (Int × Int × Int)), d = .tup [.int j, rowD t] := fun d hd => by
    rw [hL] at hd
    obtain ⟨y, hy, rfl⟩ := List.mem_map.mp hd
    obtain ⟨j, rfl, _⟩ := mem y hy
    exact ⟨j, _, rfl⟩
  have lenL : L.length ≤ 100 := by
    rw [hL, List.length_map, upto_len]
    omega
  rw [← hL] at q1
  obtain ⟨B, hB⟩ : ∃ B, B = A ++ [O.lst L] := ⟨_, rfl⟩
  have hLB : B[A.length]? = some (.lst L) := by rw [hB]; exact get_last
  have hLs : ∀ G, seqO (B ++ G)[A.length]? = some L := fun G => by rw [get_left hLB]; rfl
  have hL0 : seqO B[A.length]? = some L := by rw [hLB]; rfl
  rw [← hB] at q1
  have q2 := lc_fm (src := .lst A.length) (g := gTup 2 (gCons (gName 3) (gCons (gName 4) gNil))) (t := tB (eF opNis (aCons (eVar 4) (aCons (eC .non) aNil)))) (e := eF mkTup (aCons (eVar 3) (aCons (eVar 4) aNil))) (E := [some (.ref hi), some (.ref si), some (.ref A.length), none, none]) (A := B) (ds := L)
    (fun d => match d with
      | .tup [x, y] => [some (.ref hi), some (.ref si), some (.ref A.length), some x, some y]
      | _ => []) secS id (by unfold line; omega) (by rw [size_lst hL0]) (fun G k => at_lst (hLs G) k) (fun d hd G => by
      obtain ⟨j, t, rfl⟩ := memL d hd
      simp) (fun d hd G => by
      obtain ⟨j, t, rfl⟩ := memL d hd
      cases t with
      | none => simp [rowD, secS]
      | some q => obtain ⟨a, b, c⟩ := q; simp [rowD, secS]) (fun d hd _ G => by
      obtain ⟨j, t, rfl⟩ := memL d hd
      simp [line])
  have eL : (L.filter secS).map id = rowsL h S := by rw [List.map_id, hL]; rfl
  rw [eL] at q2
  have hS' : A[si]? = some (O.ins 0 [(0, .int S.d), (1, .int S.r), (2, .int S.f), (3, .int S.b), (4, .int S.u), (5, .int S.fr), (6, .int S.fu), (7, .int S.ff), (8, .int S.fb), (9, .int S.pl)]) := hS
  refine sat_eq (sat_def rfl ?_)
  simp only [b_rows_of, startE]
  simp [hS', small_of (show 0 ≤ S.r by omega) (by omega), q1, hLB, q2]
  have bd : (O.lst (rowsL h S)).bd A.length = true := by
    show bdAll A.length _ = true
    rw [bdAll_iff]
    intro d hd
    have : d ∈ L := by rw [hL]; exact (List.mem_filter.mp hd).1
    obtain ⟨j, t, rfl⟩ := memL d this
    cases t with
    | none => simp [rowD]
    | some q => obtain ⟨a, b, c⟩ := q; simp [rowD]
  have := gc_new (A := A) (G := [.lst L, .lst (rowsL h S)]) (j := 1) rfl rfl bd
  have eB : B ++ [O.lst (rowsL h S)] = A ++ [.lst L, .lst (rowsL h S)] := by rw [hB]; simp
  have lB : B.length = A.length + 1 := by rw [hB]; simp
  rw [eB, lB, this]
  exact ⟨rfl, rfl⟩
end
end Lw
set_option Elab.async false
set_option linter.all false
set_option maxRecDepth 100000
set_option maxHeartbeats 4000000
/-! Names are read as the plain rule tells (own work). -/
namespace Lw
open PySem DL
theorem neX_pur {A : AH} {d : D} (h : d.pur 60 = true) (hd : isDic A d = false) : opNeX [d, d] A = .ok (.bl false) A := by
  rw [ev_neX hd, opNe_pur h h, eqD_same]
  rfl
theorem ne_bl (A : AH) (b : Bool) : opNeX [.bl b, .bl b] A = .ok (.bl false) A := neX_pur (by simp) rfl
theorem ne_int (A : AH) (i : Int) : opNeX [.int i, .int i] A = .ok (.bl false) A := neX_pur (by simp) rfl
theorem eqX_pur {A : AH} {d : D} (h : d.pur 60 = true) (hd : isDic A d = false) : opEqX [d, d] A = .ok (.bl true) A := by
  rw [ev_eqX hd, opEq_pur h h, eqD_same]
theorem lst_nd {A : AH} {i : Nat} {ds : List D} (hi : A[i]? = some (.lst ds)) : isDic A (.ref i) = false := by
  show isDicO A[i]? = false
  rw [hi]
  rfl
theorem ne_same {A : AH} {i r : Nat} {ds : List D} (hp : purs 59 ds = true) (hi : A[i]? = some (.lst ds)) (hr : A[r]? = some (.lst ds)) : opNeX [.ref i, .ref r] A = .ok (.bl false) A := by
  rw [ev_neX (lst_nd hi), opNe_lst (xs := ds) (ys := ds) (by rw [ev_seqAt, hi]; rfl) (by rw [ev_seqAt, hr]; rfl) hp hp, eqDs_same]
  rfl
theorem eq_same {A : AH} {i r : Nat} {ds : List D} (hp : purs 59 ds = true) (hi : A[i]? = some (.lst ds)) (hr : A[r]? = some (.lst ds)) : opEqX [.ref i, .ref r] A = .ok (.bl true) A := by
  rw [ev_eqX (lst_nd hi), opEq_lst (xs := ds) (ys := ds) (by rw [ev_seqAt, hi]; rfl) (by rw [ev_seqAt, hr]; rfl) hp hp, eqDs_same]
/-! the keys of a dict that is filled -/
def insK (ks : List Int) (k : Int) : List Int := if k ∈ ks then ks else ks ++ [k]
def insAll (ids : List Int) : List Int := ids.foldl insK []
def dkD (ks : List Int) : List (D × D) := ks.map fun k => (D.int k, D.bl true)
theorem insAll_snoc (ids : List Int) (k : Int) : insAll (ids ++ [k]) = insK (insAll ids) k := by
  unfold insAll
  rw [List.foldl_append]
  rfl
theorem insAll_len (ids : List Int) : (insAll ids).length ≤ ids.length := by
  have : ∀ (ids acc : List Int), (ids.foldl insK acc).length ≤ acc.length + ids.length := by
    intro ids
    induction ids with
    | nil => intro acc; simp
    | cons k ids ih =>
      intro acc
      rw [List.foldl_cons, List.length_cons]
      have h1 := ih (insK acc k)
      have h2 : (insK acc k).length ≤ acc.length + 1 := by
        unfold insK
        split
        · omega
        · simp
      omega
  have := this ids []
  unfold insAll
  simpa using this
theorem putF_dkD (ks : List Int) (k : Int) : putF' keyD (dkD ks) (.int k) (.bl true) = dkD (insK ks k) := by
  unfold putF' insK
  have e : ((dkD ks).any fun p => keqF keyD p.1 (.int k)) = decide (k ∈ ks) := by
    unfold dkD
    rw [List.any_map]
    induction ks with
    | nil => rfl
    | cons a ks ih =>
      rw [List.any_cons, ih]
      simp only [Function.comp, keqF_int, List.mem_cons]
      by_cases z : a = k
      · subst z
        simp
      · have : ¬ k = a := fun y => z y.symm
        simp [z, this]
  rw [e]
  by_cases z : k ∈ ks
  · rw [if_pos (by simpa using z), if_pos z]
    unfold dkD
    rw [List.map_map]
    refine List.map_congr_left fun a _ => ?_
    simp only [Function.comp]
    split <;> rfl
  · rw [if_neg (by simpa using z), if_neg z]
    unfold dkD
    rw [List.map_append]
    rfl
section
variable {S : Sh} {h : Int → List Int} {A : AH} {hi si : Nat} {n : Int}
def fileOf : D → Int
  | .tup [_, .tup [_, _, .int c]] => c
  | _ => 0
def idsN (h : Int → List Int) (S : Sh) (k : Nat) : List Int := ((((upto 0 k).map (prD h S)).filter secS).map fileOf)
theorem upto_succ (k : Nat) : upto 0 (k + 1) = upto 0 k ++ [.int k] := by
  unfold upto
  rw [List.range_succ, List.map_append]
  simp
theorem prD_int (n : Int) : prD h S (.int n) = .tup [.int n, rowD (rowAt h S n)] := rfl
theorem idsN_succ (k : Nat) : idsN h S (k + 1) = idsN h S k ++ (match rowAt h S k with
    | some (_, _, c) => [c]
    | none => []) := by
  unfold idsN
  rw [upto_succ, List.map_append, List.filter_append, List.map_append]
  congr 1
  show (([prD h S (.int k)]).filter secS).map fileOf = _
  rw [prD_int]
  cases rowAt h S (k : Int) with
  | none => rfl
  | some q => obtain ⟨a, b, c⟩ := q; rfl
theorem idsN_len (k : Nat) : (idsN h S k).length ≤ k := by
  unfold idsN
  rw [List.length_map]
  refine Nat.le_trans (List.length_filter_le _ _) ?_
  rw [List.length_map, upto_len]
  exact Nat.le_refl _
def namedL (h : Int → List Int) (S : Sh) : List Int := sortI (insAll (idsN h S S.r.toNat))
theorem sort_len (ns : List Int) : (sortI ns).length = ns.length := (List.mergeSort_perm ns _).length_eq
theorem named_files_ok (h8 : ∀ i, (h i).length = 8) (hH : A[hi]? = some (.dic (homeL h S.pl.toNat))) (hS : A[si]? = some (shO S)) (o : S.Ok) :
    F_named_files [.ref hi, .ref si] A = .ok (.ref A.length) (A ++ [.lst ((namedL h S).map D.int)]) := by
  have r1 := o.r1
  have r0 := o.r0
  have hr := rows_of_ok h8 hH hS o
  obtain ⟨L, hL⟩ : ∃ L, L = rowsL h S := ⟨_, rfl⟩
  have eI : L.map fileOf = idsN h S S.r.toNat := by rw [hL]; rfl
  have shape : ∀ d ∈ L, ∃ j a b c : Int, d = .tup [.int j, .tup [.int a, .int b, .int c]] := fun d hd => by
    rw [hL] at hd
    obtain ⟨h1, h2⟩ := List.mem_filter.mp hd
    obtain ⟨y, hy, rfl⟩ := List.mem_map.mp h1
    obtain ⟨i, _, rfl⟩ := List.mem_map.mp hy
    rw [prD_int] at h2 ⊢
    cases hq : rowAt h S (0 + (i : Int)) with
    | none =>
      rw [hq] at h2
      cases h2
    | some q =>
      obtain ⟨a, b, c⟩ := q
      exact ⟨_, a, b, c, rfl⟩
  have lenL : L.length ≤ 60 := by
    have := idsN_len (h := h) (S := S) S.r.toNat
    rw [← eI, List.length_map] at this
    omega
  rw [← hL] at hr
  obtain ⟨B, hB⟩ : ∃ B, B = A ++ [O.lst L] := ⟨_, rfl⟩
  have hLB : B[A.length]? = some (.lst L) := by rw [hB]; exact get_last
  rw [← hB] at hr
  have fin : (kDc (gTup 2 (gCons (gName 2) (gCons (gName 3) gNil))) tYes (eF opIx (aCons (eVar 3) (aCons (eC (.int 2)) aNil))) (eC (.bl true)) [some (.ref hi), some (.ref si), none, none] (.lst A.length) B).sat fun d C => d = .ref B.length ∧ C = B ++ [.dic (dkD (insAll (idsN h S S.r.toNat)))] := by
    refine dc_sat L.length (fun k C => C = B ++ [.dic (dkD (insAll ((L.take k).map fileOf)))]) (by rw [size_lst (ds := L) (by rw [hLB]; rfl)]; exact Nat.le_refl _) rfl ?_ ?_
    · rintro k C hk rfl
      obtain ⟨d, hd⟩ : ∃ d, L[k]? = some d := ⟨_, List.getElem?_eq_getElem hk⟩
      obtain ⟨j, a, b, c, rfl⟩ := shape d (List.mem_of_getElem? hd)
      refine ⟨_, _, _, by rw [at_lst (ds := L) (by rw [get_left hLB]; rfl), hd]; rfl, by simp; exact ⟨rfl, rfl⟩, ?_⟩
      show (Res.ok true _).sat _
      rw [sat_ok, if_pos rfl]
      have t2 : ∀ C : AH, opIx [.tup [.int a, .int b, .int c], .int 2] C = .ok (.int c) C := fun _ => rfl
      have il := insAll_len ((L.take k).map fileOf)
      rw [List.length_map, List.length_take] at il
      simp [t2]
      rw [List.map_take] at il
      refine ⟨by simp only [dkD, List.length_map, line]; omega, ?_⟩
      rw [putF_dkD, List.take_add_one, List.getElem?_map, hd, Option.map_some, Option.toList_some, insAll_snoc]
      rfl
    · rintro C rfl
      refine ⟨by rw [at_lst (ds := L) (by rw [get_left hLB]; rfl), List.getElem?_eq_none (Nat.le_refl _)]; rfl, rfl, ?_⟩
      rw [List.take_length, eI]
  have q := sat_eq fin
  obtain ⟨ks, hks⟩ : ∃ ks, ks = insAll (idsN h S S.r.toNat) := ⟨_, rfl⟩
  have kl : ks.length < 64 := by
    have h1 := insAll_len (idsN h S S.r.toNat)
    have h2 := idsN_len (h := h) (S := S) S.r.toNat
    rw [hks]
    omega
  rw [← hks] at q
  have qs := ev_sortD (A := B ++ [O.dic (dkD ks)]) (i := B.length) (ks := ks) (v := fun _ => .bl true) get_last kl
  refine sat_eq (sat_def rfl ?_)
  simp only [b_named_files, startE]
  simp [cl, hr, ev_eDc, hLB, q, qs]
  have := gc_new (A := A) (G := [.lst L, .dic (dkD ks), .lst ((sortI ks).map D.int)]) (j := 2) rfl rfl (ints_bd _ _)
  have eB : B ++ [O.dic (dkD ks), .lst ((sortI ks).map D.int)] = A ++ [.lst L, .dic (dkD ks), .lst ((sortI ks).map D.int)] := by rw [hB]; simp
  have lB : B.length + 1 = A.length + 2 := by rw [hB]; simp
  rw [eB, lB, this]
  exact ⟨rfl, by rw [hks]; rfl⟩
end
end Lw
set_option Elab.async false
set_option linter.all false
set_option maxRecDepth 100000
set_option maxHeartbeats 4000000
/-! The law asks names (own work). -/
namespace Lw
open PySem DL
theorem dm (a b : Int) (hb : 0 < b) : a.fdiv b * b + a.fmod b = a := by
  rw [Int.fdiv_eq_ediv_of_nonneg _ (by omega), Int.fmod_eq_emod_of_nonneg _ (by omega), Int.mul_comm]
  exact Int.mul_ediv_add_emod a b
theorem tw : tooWide 475254 = false := by decide
theorem tooW {i : Int} (h0 : 1 ≤ i) (h1 : i ≤ 40) : tooWide i = false := by
  unfold tooWide
  have a : decide (-(2 ^ 64) < i) = true := decide_eq_true (by omega)
  have b : decide (i < 2 ^ 64) = true := decide_eq_true (by omega)
  rw [a, b]
  rfl
section
variable {S : Sh} {h : Int → List Int} {A : AH} {hi si : Nat} {n : Int} {R : D → AH → Prop}
def N0 (hi si : Nat) (A : AH) (E : DL.Env) (B : AH) : Prop := ∃ e2 e3 e4 e5 e6, E = [some (.ref hi), some (.ref si), e2, e3, e4, e5, e6, none] ∧ B = A
theorem names0 (h8 : ∀ i, (h i).length = 8) (hH : A[hi]? = some (.dic (homeL h S.pl.toNat))) (hS : A[si]? = some (shO S)) (o : S.Ok) (n0 : 2 ≤ n) (n1 : n < S.d) {e3 e4 e5 e6 : Option D} :
    (bd_L_are_names_0 [some (.ref hi), some (.ref si), some (.int n), e3, e4, e5, e6, none] A).sat (N0 hi si A) R := by
  obtain ⟨p0, p1⟩ := dirP o (show 0 ≤ n by omega) n1
  obtain ⟨q0, q1⟩ := fm8 n
  have hd := dir_at_ok h8 hH hS o n0 n1
  have hs := is_dir_ok h8 hH hS o n0 n1
  have hv : valF keyD (homeL h S.pl.toNat) (.int (1 + n.fdiv 8)) = some (.tup ((h (1 + n.fdiv 8)).map D.int)) := valF_home p0 (by omega)
  have hat : atD ((h (1 + n.fdiv 8)).map D.int) (n.fmod 8) = some (.int (dv h n)) := getD_ints q0 (by rw [h8]; omega)
  have hins := isIns_of hS
  generalize dv h n = v at hd hs hat
  generalize (h (1 + n.fdiv 8)).map D.int = row at hv hat
  unfold bd_L_are_names_0
  unfold dirD at hd
  by_cases z : v < 1
  · rw [if_pos z] at hd
    have z2 : ¬ 1 ≤ v := by omega
    simp [-ev_neX, cl, hins, dir_cell_ok, hH, hv, hat, hd, hs, z, z2, ne_bl]
    exact ⟨_, _, _, _, _, rfl, rfl⟩
  · rw [if_neg z] at hd
    have z2 : 1 ≤ v := by omega
    have e0 := dm (v - 1) NM (by decide)
    have m0 : 0 ≤ (v - 1).fmod NM := Int.fmod_nonneg_of_pos _ (by decide)
    have m1 : (v - 1).fmod NM < NM := Int.fmod_lt_of_pos _ (by decide)
    generalize (v - 1).fmod NM = y at hd e0 m0 m1
    generalize (v - 1).fdiv NM = x at hd e0
    have t0 : ∀ B : AH, opIx [.tup [.int x, .int y], .int 0] B = .ok (.int x) B := fun _ => rfl
    have t1 : ∀ B : AH, opIx [.tup [.int x, .int y], .int 1] B = .ok (.int y) B := fun _ => rfl
    have e0' : x * 475254 + y = v - 1 := e0
    have ev : x * 475254 + y + 1 = v := by omega
    have m1' : y < 475254 := m1
    simp [-ev_neX, cl, hins, dir_cell_ok, hH, hv, hat, hd, hs, z, z2, ne_bl, t0, t1, ev, ne_int, m0, m1', tw]
    exact ⟨_, _, _, _, _, rfl, rfl⟩
theorem st0 (h8 : ∀ i, (h i).length = 8) (hH : A[hi]? = some (.dic (homeL h S.pl.toNat))) (hS : A[si]? = some (shO S)) (o : S.Ok) :
    (st_L_are_names_0 [some (.ref hi), some (.ref si), none, none, none, none, none, none] A).sat (N0 hi si A) (fun _ _ => False) := by
  have d0 := o.d0
  have d1 := o.d1
  have hS' : A[si]? = some (O.ins 0 [(0, .int S.d), (1, .int S.r), (2, .int S.f), (3, .int S.b), (4, .int S.u), (5, .int S.fr), (6, .int S.fu), (7, .int S.ff), (8, .int S.fb), (9, .int S.pl)]) := hS
  unfold st_L_are_names_0
  simp [hS', small_of (show (0 : Int) ≤ 2 by omega) (by omega), small_of (show 0 ≤ S.d by omega) (by omega)]
  obtain ⟨m, hm⟩ : ∃ m : Nat, m = (S.d - 2).toNat := ⟨_, rfl⟩
  rw [← hm]
  refine for_sat m (fun _ => N0 hi si A) (by rw [upto_size]; exact Nat.le_refl _) ⟨_, _, _, _, _, rfl, rfl⟩ ?_ ?_
  · rintro k E B hk ⟨e2, e3, e4, e5, e6, rfl, rfl⟩
    obtain ⟨ki, hki⟩ : ∃ ki : Int, ki = 2 + (k : Int) := ⟨_, rfl⟩
    refine ⟨.int ki, ?_, tsat_of ?_⟩
    · rw [at_seq, upto_get, if_pos hk, hki]
      rfl
    simp only [ev_gName, only_nx, seq_nx]
    exact names0 h8 hH hS o (by omega) (by omega)
  · rintro E B hI
    exact ⟨upto_end _, hI⟩
def N2 (h : Int → List Int) (S : Sh) (hi si : Nat) (A : AH) (k : Nat) (E : DL.Env) (B : AH) : Prop := ∃ e2 e3 e4 e5 e6, E = [some (.ref hi), some (.ref si), e2, e3, e4, e5, e6, some (.ref A.length)] ∧ B = A ++ [.dic (dkD (insAll (idsN h S k)))]
theorem names2 (h8 : ∀ i, (h i).length = 8) (hH : A[hi]? = some (.dic (homeL h S.pl.toNat))) (hS : A[si]? = some (shO S)) (o : S.Ok) {k : Nat} (n1 : (k : Int) < S.r) {e3 e4 e5 e6 : Option D} {ni : Int} (hn : ni = (k : Int)) :
    (bd_L_are_names_2 [some (.ref hi), some (.ref si), some (.int ni), e3, e4, e5, e6, some (.ref A.length)] (A ++ [.dic (dkD (insAll (idsN h S k)))])).sat (N2 h S hi si A (k + 1)) R := by
  have r1 := o.r1
  have f0 := o.f0
  have f1 := o.f1
  obtain ⟨p0, p1⟩ := rowP o (show 0 ≤ ni by omega) (show ni < S.r by omega)
  obtain ⟨q0, q1⟩ := fm8 ni
  have eS := idsN_succ (h := h) (S := S) k
  have il := insAll_len (idsN h S k)
  have il2 := idsN_len (h := h) (S := S) k
  obtain ⟨ks, hks⟩ : ∃ ks, ks = idsN h S k := ⟨_, rfl⟩
  rw [← hks] at eS il il2 ⊢
  obtain ⟨B, hB⟩ : ∃ B, B = A ++ [O.dic (dkD (insAll ks))] := ⟨_, rfl⟩
  have hHB : B[hi]? = some (.dic (homeL h S.pl.toNat)) := by rw [hB]; exact get_left hH
  have hSB : B[si]? = some (shO S) := by rw [hB]; exact get_left hS
  have hDB : B[A.length]? = some (.dic (dkD (insAll ks))) := by rw [hB]; exact get_last
  rw [← hB]
  have hr := row_at_ok (n := ni) h8 hHB hSB o (by omega) (by omega)
  have hrc := row_cell_ok (n := ni) hSB
  have hv : valF keyD (homeL h S.pl.toNat) (.int (S.fr + ni.fdiv 8)) = some (.tup ((h (S.fr + ni.fdiv 8)).map D.int)) := valF_home p0 (by omega)
  have hat : atD ((h (S.fr + ni.fdiv 8)).map D.int) (ni.fmod 8) = some (.int (rv h S ni)) := getD_ints q0 (by rw [h8]; omega)
  have hins := isIns_of hSB
  have eR : rowAt h S (k : Int) = rowT S (rv h S ni) := by rw [hn]; rfl
  rw [eR] at eS
  generalize rv h S ni = v at hr hat eS
  generalize (h (S.fr + ni.fdiv 8)).map D.int = row at hv hat
  have hSf : B[si]? = some (O.ins 0 [(0, .int S.d), (1, .int S.r), (2, .int S.f), (3, .int S.b), (4, .int S.u), (5, .int S.fr), (6, .int S.fu), (7, .int S.ff), (8, .int S.fb), (9, .int S.pl)]) := hSB
  unfold bd_L_are_names_2
  unfold rowT at hr eS
  by_cases z : v < 1
  · rw [if_pos z] at hr eS
    have z2 : ¬ 1 ≤ v := by omega
    have eS' : idsN h S (k + 1) = ks := by rw [eS]; exact List.append_nil _
    simp [-ev_neX, cl, hins, hrc, hHB, hv, hat, hr, rowD, line, z, ne_bl]
    exact ⟨_, _, _, _, _, rfl, by rw [eS', hB]⟩
  · rw [if_neg z] at hr eS
    have z2 : 1 ≤ v := by omega
    have e0 := dm (v - 1) S.f (by omega)
    generalize (v - 1).fmod S.f = c at hr eS e0
    generalize (v - 1).fdiv S.f = a at hr eS e0
    have e1 := dm a NM (by decide)
    generalize a.fmod NM = y at hr e1 eS
    generalize a.fdiv NM = x at hr e1 eS
    have eS' : idsN h S (k + 1) = ks ++ [c] := eS
    have t0 : ∀ B : AH, opIx [.tup [.int x, .int y, .int c], .int 0] B = .ok (.int x) B := fun _ => rfl
    have t1 : ∀ B : AH, opIx [.tup [.int x, .int y, .int c], .int 1] B = .ok (.int y) B := fun _ => rfl
    have t2 : ∀ B : AH, opIx [.tup [.int x, .int y, .int c], .int 2] B = .ok (.int c) B := fun _ => rfl
    have e1' : x * 475254 + y = a := e1
    have ev : 1 + (x * 475254 + y) * S.f + c = v := by rw [e1']; omega
    obtain ⟨C, hC⟩ : ∃ C, C = A ++ [O.dic (dkD (insAll (ks ++ [c])))] := ⟨_, rfl⟩
    have hp : stPut (.ref A.length) (.int c) (.bl true) B = some C := by
      have l1 : (dkD (insAll ks)).length < line := by simp only [dkD, List.length_map, line]; omega
      simp [hDB, l1, putF_dkD, ← insAll_snoc]
      rw [hB, set_last, hC]
    have hHC : C[hi]? = some (.dic (homeL h S.pl.toNat)) := by rw [hC]; exact get_left hH
    have hSC : C[si]? = some (O.ins 0 [(0, .int S.d), (1, .int S.r), (2, .int S.f), (3, .int S.b), (4, .int S.u), (5, .int S.fr), (6, .int S.fu), (7, .int S.ff), (8, .int S.fb), (9, .int S.pl)]) := by rw [hC]; exact get_left hS
    simp [-ev_neX, -ev_stPut, cl, hins, hrc, hHB, hv, hat, hr, rowD, line, z, ne_bl, t0, t1, t2, hp, hSC, hHC, ev, ne_int, tw, tooW o.f0 o.f1]
    exact ⟨_, _, _, _, _, rfl, by rw [eS', hC]⟩
end
end Lw
set_option Elab.async false
set_option linter.all false
set_option maxRecDepth 100000
set_option maxHeartbeats 4000000
/-! The law asks names, whole (own work). -/
namespace Lw
open PySem DL
section
variable {S : Sh} {h : Int → List Int} {A : AH} {hi si : Nat} {n : Int} {R : D → AH → Prop}
theorem st2 (h8 : ∀ i, (h i).length = 8) (hH : A[hi]? = some (.dic (homeL h S.pl.toNat))) (hS : A[si]? = some (shO S)) (o : S.Ok) {e2 e3 e4 e5 e6 : Option D} :
    (st_L_are_names_2 [some (.ref hi), some (.ref si), e2, e3, e4, e5, e6, some (.ref A.length)] (A ++ [.dic []])).sat (N2 h S hi si A S.r.toNat) (fun _ _ => False) := by
  have r0 := o.r0
  have r1 := o.r1
  have hS' : ∀ G, (A ++ G)[si]? = some (O.ins 0 [(0, .int S.d), (1, .int S.r), (2, .int S.f), (3, .int S.b), (4, .int S.u), (5, .int S.fr), (6, .int S.fu), (7, .int S.ff), (8, .int S.fb), (9, .int S.pl)]) := fun G => get_left hS
  unfold st_L_are_names_2
  simp [hS', small_of (show 0 ≤ S.r by omega) (by omega)]
  refine for_sat S.r.toNat (N2 h S hi si A) (by rw [upto_size]; exact Nat.le_refl _) ⟨_, _, _, _, _, rfl, rfl⟩ ?_ ?_
  · rintro k E B hk ⟨e2, e3, e4, e5, e6, rfl, rfl⟩
    obtain ⟨ki, hki⟩ : ∃ ki : Int, ki = (k : Int) := ⟨_, rfl⟩
    refine ⟨.int ki, by rw [hki]; exact upto_at _ hk, tsat_of ?_⟩
    simp only [ev_gName, only_nx, seq_nx]
    exact names2 h8 hH hS o (by omega) hki
  · rintro E B hI
    exact ⟨upto_end _, hI⟩
theorem ev_sortD' {i : Nat} {ks : List Int} (h : A[i]? = some (.dic (dkD ks))) (l : ks.length < 64) : biSortD [.ref i] A = .ok (.ref A.length) (A ++ [.lst ((sortI ks).map D.int)]) := ev_sortD (v := fun _ => .bl true) h l
theorem L_are_names_ok (h8 : ∀ i, (h i).length = 8) (hH : A[hi]? = some (.dic (homeL h S.pl.toNat))) (hS : A[si]? = some (shO S)) (o : S.Ok) :
    F_L_are_names [.ref hi, .ref si] A = .ok (.bl true) A := by
  have r1 := o.r1
  refine sat_eq (sat_def rfl ?_)
  unfold b_L_are_names
  simp only [startE]
  refine seq_sat (N0 hi si A) ((st0 h8 hH hS o).mono (fun _ _ z => z) fun _ _ z => z.elim) ?_
  rintro E B ⟨e2, e3, e4, e5, e6, rfl, rfl⟩
  refine seq_sat (fun E C => E = [some (.ref hi), some (.ref si), e2, e3, e4, e5, e6, some (.ref B.length)] ∧ C = B ++ [.dic []]) (by unfold st_L_are_names_1; simp) ?_
  rintro E C ⟨rfl, rfl⟩
  refine seq_sat (N2 h S hi si B S.r.toNat) ((st2 h8 hH hS o).mono (fun _ _ z => z) fun _ _ z => z.elim) ?_
  rintro E C ⟨e2, e3, e4, e5, e6, rfl, rfl⟩
  have il := insAll_len (idsN h S S.r.toNat)
  have il2 := idsN_len (h := h) (S := S) S.r.toNat
  have eN : sortI (insAll (idsN h S S.r.toNat)) = namedL h S := rfl
  obtain ⟨C, hC⟩ : ∃ C, C = B ++ [O.dic (dkD (insAll (idsN h S S.r.toNat)))] := ⟨_, rfl⟩
  rw [← hC]
  have hn := named_files_ok (A := C) h8 (by rw [hC]; exact get_left hH) (by rw [hC]; exact get_left hS) o
  have hs := ev_sortD' (A := C ++ [O.lst ((namedL h S).map D.int)]) (i := B.length) (ks := insAll (idsN h S S.r.toNat)) (get_left (by rw [hC]; exact get_last)) (by omega)
  rw [eN] at hs
  have he : opEqX [.ref C.length, .ref (C.length + 1)] (C ++ [O.lst ((namedL h S).map D.int), O.lst ((namedL h S).map D.int)]) = .ok (.bl true) (C ++ [O.lst ((namedL h S).map D.int), O.lst ((namedL h S).map D.int)]) :=
    eq_same (ds := (namedL h S).map D.int) (purs_ints 58 _) get_last (by rw [ix_right]; rfl)
  unfold st_L_are_names_3
  generalize O.lst ((namedL h S).map D.int) = X at hn hs he
  simp [-ev_eqX, cl, hn, hs, he]
  rw [hC, List.append_assoc, gc_app _ (by simp)]
  exact ⟨rfl, rfl⟩
end
end Lw
set_option Elab.async false
set_option linter.all false
set_option maxRecDepth 100000
set_option maxHeartbeats 4000000
/-! The law reads a file (own work). -/
namespace Lw
open PySem DL
theorem cut_take {xs : List D} {k : Nat} : cutD xs none (some (k : Int)) = xs.take k := by
  unfold cutD
  have e : sIxD xs.length xs.length (some (k : Int)) = min k xs.length := by
    show (if (k : Int) < 0 then ((k : Int) + (xs.length : Int)).toNat else min (k : Int).toNat xs.length) = _
    rw [if_neg (by omega)]
    rfl
  rw [e]
  show ((xs.drop 0).take (min k xs.length - 0)) = _
  rw [List.drop_zero, Nat.sub_zero]
  rw [Nat.min_def]
  split
  · rfl
  · rw [List.take_of_length_le (Nat.le_refl _), List.take_of_length_le (by omega)]
theorem cells8 {c : List Int} (h8 : c.length = 8) : c = (List.range 8).map (cell c) := by
  match c, h8 with
  | [a, b, c, d, e, f, g, i], _ => rfl
theorem oD_pur (o : Option Int) : (oD o).pur 60 = true := by cases o <;> simp [oD]
theorem oD_nd (A : AH) (o : Option Int) : isDic A (oD o) = false := by cases o <;> rfl
section
variable {S : Sh} {h : Int → List Int} {A : AH} {hi si f n : Nat} {R : D → AH → Prop}
/-- the numbers of k parts -/
def fnd (h : Int → List Int) (S : Sh) (f k : Nat) : List Int := (List.range (8 * k)).map fun i => dc h S f (i / 8) (i % 8)
def prt (h : Int → List Int) (S : Sh) (f k : Nat) : List Int := (List.range 8).map fun j => dc h S f k j
theorem fnd_succ (k : Nat) : fnd h S f (k + 1) = fnd h S f k ++ prt h S f k := by
  unfold fnd prt
  rw [show 8 * (k + 1) = 8 * k + 8 by omega, List.range_add, List.map_append, List.map_map]
  congr 1
  refine List.map_congr_left fun j hj => ?_
  have := List.mem_range.mp hj
  simp only [Function.comp]
  rw [show (8 * k + j) / 8 = k by omega, show (8 * k + j) % 8 = j by omega]
theorem fnd_len (k : Nat) : (fnd h S f k).length = 8 * k := by unfold fnd; simp
theorem prt_len (k : Nat) : (prt h S f k).length = 8 := by unfold prt; simp
theorem prt_none {k : Nat} (e : db h S f k = none) : prt h S f k = [0, 0, 0, 0, 0, 0, 0, 0] := by
  unfold prt dc
  rw [e]
  rfl
theorem prt_some (h8 : ∀ i, (h i).length = 8) {k : Nat} {b : Int} (e : db h S f k = some b) : prt h S f k = h (S.fb + b) := by
  unfold prt dc
  rw [e]
  exact (cells8 (h8 _)).symm
def WkI (h : Int → List Int) (S : Sh) (hi si : Nat) (fi ni : Int) (pl : D) (fd : Nat) (A : AH) (w : List Nat) (T : Option Int) (k : Nat) (E : DL.Env) (B : AH) : Prop :=
  ∃ (c : List Int) (e6 e8 : Option D), E = [some (.ref hi), some (.ref si), some (.int fi), some pl, some (.ref fd), some (.int ni), e6, some (.tup (c.map D.int)), e8, none] ∧ B = A ∧ c.length = 8 ∧
    ((k < w.length ∧ fol h S c (w.drop k) = T) ∨ (k = w.length ∧ e6 = some (oD T)))
def WkN (hi si : Nat) (fi ni : Int) (pl : D) (fd : Nat) (A : AH) (T : Option Int) (E : DL.Env) (B : AH) : Prop :=
  ∃ (e7 e8 : Option D), E = [some (.ref hi), some (.ref si), some (.int fi), some pl, some (.ref fd), some (.int ni), some (oD T), e7, e8, none] ∧ B = A
noncomputable def bdW : Sx := (sSeq (sAsg (eIf (tB (eChain opLe opLe (eC (.int 1)) (eF opIx (aCons (eVar 7) (aCons (eVar 8) aNil))) (eF (fFld [0] 3) (aCons (eVar 1) aNil)))) (eF opSub (aCons (eF opIx (aCons (eVar 7) (aCons (eVar 8) aNil))) (aCons (eC (.int 1)) aNil))) (eC .non)) (gName 6))
  (sSeq (sIf (tB (eF opIs (aCons (eVar 6) (aCons (eC .non) aNil)))) sBrk sNop)
  (sAsg (eF opGet (aCons (eVar 0) (aCons (eM 0 (cl F_Shape_block_plate []) (eVar 1) (aCons (eVar 6) aNil)) aNil))) (gName 7))))
theorem walk_ok {fi ni : Int} {fd : Nat} {pl : D} {e8 : Option D} {w : List Nat} {T : Option Int} {c : List Int} (h8 : ∀ i, (h i).length = 8) (hH : A[hi]? = some (.dic (homeL h S.pl.toNat))) (hS : A[si]? = some (shO S)) (o : S.Ok) (hc : c.length = 8) (hw : w ≠ []) (hl : ∀ i ∈ w, i < 8) (hT : fol h S c w = T) :
    (kFor (gName 8) bdW [some (.ref hi), some (.ref si), some (.int fi), some pl, some (.ref fd), some (.int ni), some .non, some (.tup (c.map D.int)), e8, none] (.seq (sD w)) A).sat (WkN hi si fi ni pl fd A T) R := by
  have hS' : A[si]? = some (O.ins 0 [(0, .int S.d), (1, .int S.r), (2, .int S.f), (3, .int S.b), (4, .int S.u), (5, .int S.fr), (6, .int S.fu), (7, .int S.ff), (8, .int S.fb), (9, .int S.pl)]) := hS
  refine for_sat w.length (WkI h S hi si fi ni pl fd A w T) (by simp [Src.size, sD]) ⟨c, _, _, rfl, rfl, hc, .inl ⟨List.length_pos_iff.mpr hw, by rw [List.drop_zero]; exact hT⟩⟩ ?_ ?_
  · rintro k E B hk ⟨c, e6, e8, rfl, rfl, hc, hh⟩
    obtain ⟨i, hi'⟩ : ∃ i, w[k]? = some i := ⟨_, List.getElem?_eq_getElem hk⟩
    have i8 : i < 8 := hl i (List.mem_of_getElem? hi')
    have hat := cell_at (c := c) (q := i) (by omega)
    have ed : w.drop k = i :: w.drop (k + 1) := by
      rw [List.drop_eq_getElem_cons hk]
      congr 1
      rw [List.getElem?_eq_getElem hk] at hi'
      exact Option.some.inj hi'
    have hfol : fol h S c (i :: w.drop (k + 1)) = T := by
      rcases hh with ⟨_, e⟩ | ⟨e, _⟩
      · rw [← ed]
        exact e
      · omega
    refine ⟨.int i, by rw [at_seq, sD, List.getElem?_map, hi']; rfl, ?_⟩
    obtain ⟨p, hp⟩ : ∃ p, p = cell c i := ⟨_, rfl⟩
    obtain ⟨ii, hii⟩ : ∃ ii : Int, ii = (i : Int) := ⟨_, rfl⟩
    rw [← hp, ← hii] at hat
    rw [← hii]
    unfold bdW
    cases eb : blk S p with
    | none =>
      have hT0 : T = none := by
        rw [← hfol]
        exact fol_none (by rw [← hp]; exact eb)
      have np : ¬ (1 ≤ p ∧ p ≤ S.b) := by
        unfold blk at eb
        split at eb
        · cases eb
        · assumption
      by_cases a : 1 ≤ p
      · have b : ¬ p ≤ S.b := fun y => np ⟨a, y⟩
        simp [hat, hS', a, b, tsat]
        exact ⟨_, _, by rw [hT0]; rfl, rfl⟩
      · simp [hat, hS', a, tsat]
        exact ⟨_, _, by rw [hT0]; rfl, rfl⟩
    | some b =>
      obtain ⟨e, b0, b1⟩ := blk_some eb
      have hv2 : valF keyD (homeL h S.pl.toNat) (.int (S.fb + b)) = some (.tup ((h (S.fb + b)).map D.int)) := valF_home (by have := o.pl; have := o.f0; omega) (by have := o.pl; omega)
      have a1 : 1 ≤ p := by omega
      have a2 : p ≤ S.b := by omega
      have e' : p - 1 = b := e.symm
      have hbp := block_plate_ok (n := b) hS
      have hins := isIns_of hS
      simp [hat, hS', a1, a2, e', cl, hins, hbp, hH, hv2, tsat]
      refine ⟨h (S.fb + b), some (.int b), some (.int ii), rfl, rfl, h8 _, ?_⟩
      by_cases y : k + 1 < w.length
      · refine .inl ⟨y, ?_⟩
        rw [List.drop_eq_getElem_cons y] at hfol ⊢
        rw [fol_some (by rw [← hp]; exact eb)] at hfol
        exact hfol
      · have yl : k + 1 = w.length := by omega
        refine .inr ⟨yl, ?_⟩
        rw [yl, List.drop_length, fol_one, ← hp, eb] at hfol
        rw [← hfol]
        rfl
  · rintro E B ⟨c, e6, e8, rfl, rfl, hc, hh⟩
    refine ⟨by rw [at_seq, List.getElem?_eq_none (by simp [sD])]; rfl, ?_⟩
    rcases hh with ⟨e, _⟩ | ⟨_, e⟩
    · omega
    · subst e
      exact ⟨_, _, rfl, rfl⟩
end
end Lw
set_option Elab.async false
set_option linter.all false
set_option maxRecDepth 100000
set_option maxHeartbeats 4000000
/-! The law reads a file, whole (own work). -/
namespace Lw
open PySem DL
theorem iadd_lst {A : AH} {i j : Nat} {xs ys : List D} (h1 : A[i]? = some (.lst xs)) (h2 : A[j]? = some (.lst ys)) (l : xs.length + ys.length ≤ line) : opIAdd [.ref i, .ref j] A = .ok (.ref i) (A.set i (.lst (xs ++ ys))) := by
  show extO i A A[i]? A[j]? = _
  rw [h1, h2]
  show (if xs.length + ys.length ≤ line then _ else _) = _
  rw [if_pos l]
section
variable {S : Sh} {h : Int → List Int} {A : AH} {hi si f n : Nat} {R : D → AH → Prop}
def RdI (h : Int → List Int) (S : Sh) (hi si f : Nat) (A : AH) (k : Nat) (E : DL.Env) (B : AH) : Prop :=
  ∃ (G : AH) (e5 e6 e7 e8 : Option D), E = [some (.ref hi), some (.ref si), some (.int f), some (.tup ((h (S.ff + (f : Int))).map D.int)), some (.ref A.length), e5, e6, e7, e8, none] ∧ B = A ++ .lst ((fnd h S f k).map D.int) :: G
theorem rd_turn {fi ki : Int} {k : Nat} {G : AH} {e6 e7 e8 : Option D} (h8 : ∀ i, (h i).length = 8) (hH : A[hi]? = some (.dic (homeL h S.pl.toNat))) (hS : A[si]? = some (shO S)) (o : S.Ok) (hf : (f : Int) < S.f) (hk : k < 75) (hfi : fi = (f : Int)) (hki : ki = (k : Int)) :
    (bd_L_is_read_1 [some (.ref hi), some (.ref si), some (.int fi), some (.tup ((h (S.ff + (f : Int))).map D.int)), some (.ref A.length), some (.int ki), e6, e7, e8, none] (A ++ .lst ((fnd h S f k).map D.int) :: G)).sat (RdI h S hi si f A (k + 1)) R := by
  obtain ⟨B, hB⟩ : ∃ B, B = A ++ O.lst ((fnd h S f k).map D.int) :: G := ⟨_, rfl⟩
  have hHB : B[hi]? = some (.dic (homeL h S.pl.toNat)) := by rw [hB]; exact get_left hH
  have hSB : B[si]? = some (shO S) := by rw [hB]; exact get_left hS
  have hFB : B[A.length]? = some (.lst ((fnd h S f k).map D.int)) := by rw [hB]; exact at_mid _ _ _
  have lB : A.length < B.length := (List.getElem?_eq_some_iff.mp hFB).1
  have hw := walk_ok (R := R) (fi := fi) (ni := ki) (fd := A.length) (pl := .tup ((h (S.ff + (f : Int))).map D.int)) (e8 := e8) (w := spot k) (T := db h S f k) h8 hHB hSB o (h8 _) (spot_len k).2 (spot_lt hk) rfl
  have hd := data_block_ok (n := k) h8 hHB hSB hf hk o
  have hsp := spot_of_ok (A := B) (n := k)
  rw [← hki] at hd hsp
  rw [← hfi] at hd
  rw [← hB]
  have ne := neX_pur (A := B) (oD_pur (db h S f k)) (oD_nd B _)
  have fl := fnd_len (h := h) (S := S) (f := f) k
  have fs := fnd_succ (h := h) (S := S) (f := f) k
  have p8 := prt_len (h := h) (S := S) (f := f) k
  unfold bd_L_is_read_1
  refine seq_sat (fun E C => E = [some (.ref hi), some (.ref si), some (.int fi), some (.tup ((h (S.ff + (f : Int))).map D.int)), some (.ref A.length), some (.int ki), some .non, some (.tup ((h (S.ff + (f : Int))).map D.int)), e8, none] ∧ C = B) (by simp) ?_
  rintro E C ⟨rfl, rfl⟩
  refine seq_sat (WkN hi si fi ki (.tup ((h (S.ff + (f : Int))).map D.int)) A.length C (db h S f k)) ?_ ?_
  · show (sFor _ _ bdW _ _).sat _ _
    generalize (h (S.ff + (f : Int))).map D.int = pl at hw ⊢
    generalize sD (spot k) = sp at hw hsp
    simp only [ev_sFor]
    simp [cl, hsp]
    exact hw
  rintro E C' ⟨e7, e8, rfl, rfl⟩
  refine seq_sat (fun E C2 => E = [some (.ref hi), some (.ref si), some (.int fi), some (.tup ((h (S.ff + (f : Int))).map D.int)), some (.ref A.length), some (.int ki), some (oD (db h S f k)), e7, e8, none] ∧ C2 = C') (by
    generalize (h (S.ff + (f : Int))).map D.int = pl
    generalize oD (db h S f k) = T at hd ne ⊢
    simp [-ev_neX, cl, hd, ne]) ?_
  rintro E C'' ⟨rfl, rfl⟩
  have ll : (fnd h S f k).length + 8 ≤ 16777216 := by omega
  have ex : ∀ (xs : List Int) (X : AH), (C'' ++ X).set A.length (.lst (xs.map D.int)) = A ++ .lst (xs.map D.int) :: (G ++ X) := fun xs X => by
    rw [hB, List.append_assoc, List.cons_append, set_mid]
  have fin : ∀ (T : D) (X : AH), RdI h S hi si f A (k + 1) [some (.ref hi), some (.ref si), some (.int fi), some (.tup ((h (S.ff + (f : Int))).map D.int)), some (.ref A.length), some (.int ki), some T, e7, e8, none] (A ++ O.lst ((fnd h S f (k + 1)).map D.int) :: X) := fun T X => ⟨X, _, _, _, _, by rw [hfi], rfl⟩
  have hFX : ∀ X, (C'' ++ X)[A.length]? = some (.lst ((fnd h S f k).map D.int)) := fun X => get_left hFB
  have hl : line = 16777216 := rfl
  obtain ⟨fo, hfo⟩ : ∃ fo, fo = fnd h S f k := ⟨_, rfl⟩
  rw [← hfo] at hFB hFX ll fs
  cases eb : db h S f k with
  | none =>
    have ep := prt_none eb
    have q := fin .non (G ++ [.lst [.int 0], .lst (List.replicate 8 (.int 0))])
    rw [fs, ep] at q
    have e2 := ex (fo ++ [0, 0, 0, 0, 0, 0, 0, 0]) [.lst [.int 0], .lst (List.replicate 8 (.int 0))]
    rw [← e2] at q
    have e8 : rep 8 [D.int 0] = List.replicate 8 (.int 0) := rfl
    generalize RdI h S hi si f A (k + 1) = P at q ⊢
    simp [oD, line, hFX, e8, ll]
    have ei := iadd_lst (A := C'' ++ [O.lst [D.int 0], O.lst [D.int 0, D.int 0, D.int 0, D.int 0, D.int 0, D.int 0, D.int 0, D.int 0]]) (i := A.length) (j := C''.length + 1) (hFX _) (by rw [ix_right]; rfl) (by rw [List.length_map]; exact ll)
    rw [ei]
    have em : (fo ++ [0, 0, 0, 0, 0, 0, 0, 0]).map D.int = fo.map D.int ++ [D.int 0, D.int 0, D.int 0, D.int 0, D.int 0, D.int 0, D.int 0, D.int 0] := by rw [List.map_append]; rfl
    rw [em] at q
    exact q
  | some b =>
    obtain ⟨b0, b1⟩ := fol_lt (show fol h S _ _ = some b from eb)
    have ep := prt_some h8 eb
    have hv2 : valF keyD (homeL h S.pl.toNat) (.int (S.fb + b)) = some (.tup ((h (S.fb + b)).map D.int)) := valF_home (by have := o.pl; have := o.f0; omega) (by have := o.pl; omega)
    have hbp := block_plate_ok (n := b) hSB
    have hins := isIns_of hSB
    have l8 := h8 (S.fb + b)
    generalize h (S.fb + b) = row at ep hv2 l8
    have q := fin (.int b) (G ++ [.lst (row.map D.int)])
    rw [fs, ep] at q
    have e2 := ex (fo ++ row) [.lst (row.map D.int)]
    rw [← e2] at q
    have ei := iadd_lst (A := C'' ++ [O.lst (row.map D.int)]) (i := A.length) (j := C''.length) (hFX _) get_last (by rw [List.length_map, List.length_map, l8]; exact ll)
    rw [← List.map_append] at ei
    generalize RdI h S hi si f A (k + 1) = P at q ⊢
    simp [oD, line, hFX, cl, hins, hbp, hHB, hv2, ei]
    rwa [List.map_append] at q
end
end Lw
set_option Elab.async false
set_option linter.all false
set_option maxRecDepth 100000
set_option maxHeartbeats 4000000
/-! The law reads a file: what it answers (own work). -/
namespace Lw
open PySem DL
section
variable {S : Sh} {h : Int → List Int} {A : AH} {hi si f n : Nat} {R : D → AH → Prop}
theorem cont_fnd : cont h S f = (fnd h S f 75).take (sz h S f) := by
  have := sz_le h S f
  unfold cont fnd
  rw [← List.map_take, List.take_range]
  congr 2
  omega
theorem nums_fnd : ((List.range 600).map fun k => dc h S f (k / 8) (k % 8)) = fnd h S f 75 := rfl
theorem L_is_read_ok {fi : Int} (h8 : ∀ i, (h i).length = 8) (hH : A[hi]? = some (.dic (homeL h S.pl.toNat))) (hS : A[si]? = some (shO S)) (o : S.Ok) (hf : (f : Int) < S.f) (hfi : fi = (f : Int)) :
    F_L_is_read [.ref hi, .ref si, .int fi] A = .ok (.bl true) A := by
  have hfp := file_plate_ok (n := fi) hS
  have hins := isIns_of hS
  have hv : valF keyD (homeL h S.pl.toNat) (.int (S.ff + fi)) = some (.tup ((h (S.ff + (f : Int))).map D.int)) := by
    rw [hfi]
    exact valF_home (by have := o.pl; omega) (by have := o.pl; have := o.b0; omega)
  refine sat_eq (sat_def rfl ?_)
  unfold b_L_is_read
  simp only [startE]
  refine seq_sat (RdI h S hi si f A 0) ?_ ?_
  · have fin : RdI h S hi si f A 0 [some (.ref hi), some (.ref si), some (.int fi), some (.tup ((h (S.ff + (f : Int))).map D.int)), some (.ref A.length), none, none, none, none, none] (A ++ [.lst []]) := ⟨[], _, _, _, _, by rw [hfi], rfl⟩
    generalize RdI h S hi si f A 0 = P at fin ⊢
    generalize (h (S.ff + (f : Int))).map D.int = pl at hv fin
    unfold st_L_is_read_0
    simp [cl, hins, hfp, hH, hv, line]
    exact fin
  rintro E B ⟨G, e5, e6, e7, e8, rfl, rfl⟩
  refine seq_sat (RdI h S hi si f A 75) ?_ ?_
  · unfold st_L_is_read_1
    simp [small_of (show (0 : Int) ≤ 75 by omega) (by omega)]
    refine for_sat 75 (RdI h S hi si f A) (by rw [upto_size]; exact Nat.le_refl _) ⟨G, _, _, _, _, rfl, rfl⟩ ?_ ?_
    · rintro k E B hk ⟨G, e5, e6, e7, e8, rfl, rfl⟩
      obtain ⟨ki, hki⟩ : ∃ ki : Int, ki = (k : Int) := ⟨_, rfl⟩
      refine ⟨.int ki, by rw [hki]; exact upto_at _ hk, tsat_of ?_⟩
      simp only [ev_gName, only_nx, seq_nx]
      have q := rd_turn (R := fun a B => (gc A a B).sat fun a B => a = .bl true ∧ B = A) (G := G) (e6 := e6) (e7 := e7) (e8 := e8) h8 hH hS o hf hk hfi hki
      rw [hfi] at q
      exact q
    · rintro E B hI
      exact ⟨upto_end _, hI⟩
  rintro E B ⟨G, e5, e6, e7, e8, rfl, rfl⟩
  obtain ⟨B, hB⟩ : ∃ B, B = A ++ O.lst ((fnd h S f 75).map D.int) :: G := ⟨_, rfl⟩
  have hHB : B[hi]? = some (.dic (homeL h S.pl.toNat)) := by rw [hB]; exact get_left hH
  have hSB : B[si]? = some (shO S) := by rw [hB]; exact get_left hS
  have hFB : B[A.length]? = some (.lst ((fnd h S f 75).map D.int)) := by rw [hB]; exact at_mid _ _ _
  rw [← hB, ← hfi]
  have hat : atD ((h (S.ff + fi)).map D.int) 0 = some (.int (cell (h (S.ff + fi)) 0)) := getD_ints (by omega) (by rw [h8]; omega)
  have hz := size_at_ok (f := f) h8 hHB hSB hf o
  have hco := content_of_ok (f := f) h8 hHB hSB hf o
  rw [← hfi] at hz hco
  have esz : szO h S f = max 0 (min (cell (h (S.ff + fi)) 0) 600) := by
    rw [hfi]
    unfold szO sz
    generalize cell (h (S.ff + (f : Int))) 0 = p
    omega
  have zl : ((sz h S f : Nat) : Int) = szO h S f := rfl
  have ecf := cont_fnd (h := h) (S := S) (f := f)
  have hSB0 : B[si]? = some (O.ins 0 [(0, .int S.d), (1, .int S.r), (2, .int S.f), (3, .int S.b), (4, .int S.u), (5, .int S.fr), (6, .int S.fu), (7, .int S.ff), (8, .int S.fb), (9, .int S.pl)]) := hSB
  clear hSB0
  generalize (h (S.ff + fi)).map D.int = pl at hat ⊢
  refine seq_sat (fun E C => E = [some (.ref hi), some (.ref si), some (.int fi), some (.tup pl), some (.ref A.length), e5, e6, e7, e8, some (.int (szO h S f))] ∧ C = B) ?_ ?_
  · rw [esz]
    generalize cell (h (S.ff + fi)) 0 = p at hat
    unfold st_L_is_read_2
    simp [hat]
    split <;> split <;> omega
  rintro E C ⟨rfl, rfl⟩
  have ctk := cut_take (xs := (fnd h S f 75).map D.int) (k := sz h S f)
  rw [zl, ← List.map_take, ← ecf] at ctk
  have fl := fnd_len (h := h) (S := S) (f := f) 75
  have cl6 : (cont h S f).length ≤ 600 := by
    rw [ecf, List.length_take, fl]
    omega
  have hFX : ∀ X, (C ++ X)[A.length]? = some (.lst ((fnd h S f 75).map D.int)) := fun X => get_left hFB
  have ne1 := ne_int C (szO h S f)
  generalize szO h S f = z at *
  obtain ⟨co, hcc⟩ : ∃ co, co = (cont h S f).map D.int := ⟨_, rfl⟩
  have cop : (D.tup co).pur 60 = true := by rw [hcc, pur_tup]; exact purs_ints 58 _
  have col : co.length ≤ 600 := by rw [hcc, List.length_map]; exact cl6
  obtain ⟨fo, hfo⟩ : ∃ fo, fo = (fnd h S f 75).map D.int := ⟨_, rfl⟩
  have fop : (D.tup fo).pur 60 = true := by rw [hfo, pur_tup]; exact purs_ints 58 _
  rw [← hfo] at hFB hFX ctk
  rw [← hcc] at hco ctk
  obtain ⟨C2, hC2⟩ : ∃ C2, C2 = C ++ [O.lst co] := ⟨_, rfl⟩
  have ne2 : opNeX [.tup co, .tup co] C2 = .ok (.bl false) C2 := neX_pur cop rfl
  have hco2 : C2[C.length]? = some (.lst co) := by rw [hC2]; exact get_last
  refine seq_sat (fun E X => E = [some (.ref hi), some (.ref si), some (.int fi), some (.tup pl), some (.ref A.length), e5, e6, e7, e8, some (.int z)] ∧ X = C2) ?_ ?_
  · unfold st_L_is_read_3
    simp [-ev_neX, cl, hz, ne1, hco, hFB, ctk, line]
    rw [← hC2, ne2]
    simp
  rintro E X ⟨rfl, rfl⟩
  have hHX : X[hi]? = some (.dic (homeL h S.pl.toNat)) := by rw [hC2]; exact get_left hHB
  have hSX : X[si]? = some (shO S) := by rw [hC2]; exact get_left hSB
  have hnu := numbers_at_ok (f := f) (m := 600) h8 hHX hSX hf (by omega) o
  rw [nums_fnd, ← hfi, ← hfo] at hnu
  have e6 : ((600 : Nat) : Int) = 600 := rfl
  rw [e6] at hnu
  obtain ⟨w, how, w0, w1⟩ := owner_at_ok (f := fi) h8 hHX hSX o (by omega) (by omega)
  have hFX2 : X[A.length]? = some (.lst fo) := by rw [hC2]; exact hFX _
  have eq2 : opEqX [.tup fo, .tup fo] X = .ok (.bl true) X := eqX_pur fop rfl
  have hSX' : X[si]? = some (O.ins 0 [(0, .int S.d), (1, .int S.r), (2, .int S.f), (3, .int S.b), (4, .int S.u), (5, .int S.fr), (6, .int S.fu), (7, .int S.ff), (8, .int S.fb), (9, .int S.pl)]) := hSX
  unfold st_L_is_read_4
  simp [-ev_eqX, cl, hnu, hFX2, eq2, ev_eInRg, ev_kInRg, ev_kInRg2, how, hSX', w0, w1]
  rw [hC2, hB, List.append_assoc, gc_app _ (by simp)]
  exact ⟨rfl, rfl⟩
end
end Lw
set_option Elab.async false
set_option linter.all false
set_option maxRecDepth 100000
set_option maxHeartbeats 4000000
/-! The law asks what files meet (own work). -/
namespace Lw
open PySem DL
section
variable {S : Sh} {h : Int → List Int} {A : AH} {hi si f n : Nat} {R : D → AH → Prop}
/-- how many are met below each of some pointers -/
def lens (h : Int → List Int) (S : Sh) (l : Nat) (xs : List Int) : List Int := xs.map fun p => ((mb h S l p).length : Int)
theorem lens_sum (l : Nat) : ∀ xs : List Int, (lens h S l xs).sum = ((xs.flatMap (mb h S l)).length : Int)
  | [] => rfl
  | x :: xs => by
    have := lens_sum l xs
    unfold lens at this ⊢
    rw [List.map_cons, List.sum_cons, this, List.flatMap_cons, List.length_append]
    omega
theorem mb_more {l : Nat} {p b : Int} (e : blk S p = some b) : ((mb h S (l + 1) p).length : Int) = 1 + (lens h S l (h (S.fb + b))).sum := by
  unfold blk at e
  split at e
  · rename_i z
    cases e
    show ((if 1 ≤ p ∧ p ≤ S.b then _ else _ : List Int).length : Int) = _
    rw [if_pos z, lens_sum, List.length_cons]
    omega
  · cases e
theorem mb_zero {p b : Int} (e : blk S p = some b) : ((mb h S 0 p).length : Int) = 1 := by
  unfold blk at e
  split at e
  · rename_i z
    show ((if 1 ≤ p ∧ p ≤ S.b then _ else _ : List Int).length : Int) = _
    rw [if_pos z]
    rfl
  · cases e
theorem mb_none {l : Nat} {p : Int} (e : blk S p = none) : mb h S l p = [] := by
  unfold blk at e
  split at e
  · cases e
  · rename_i z
    cases l with
    | zero => exact if_neg z
    | succ l => exact if_neg z
def LnP (h : Int → List Int) (S : Sh) (l : Nat) (xs : List Int) (A : AH) (d : D) (B : AH) : Prop := d = .ref A.length ∧ ∃ G, B = A ++ .lst ((lens h S l xs).map D.int) :: G
theorem lens_lc {l : Nat} {xs : List Int} (h8 : ∀ i, (h i).length = 8) (hH : A[hi]? = some (.dic (homeL h S.pl.toNat))) (hS : A[si]? = some (shO S)) (o : S.Ok) (hl : l < 4) (hx : xs.length ≤ 8) {e2 e3 e4 e6 e7 : Option D} {li : Int} (hli : li - 1 = (l : Int)) :
    (kLc (gName 8) tYes (eF biLen (aCons (eF (cl (F_met_below 4) []) (aCons (eVar 0) (aCons (eVar 1) (aCons (eVar 8) (aCons (eF opSub (aCons (eVar 5) (aCons (eC (.int 1)) aNil))) aNil))))) aNil)) [some (.ref hi), some (.ref si), e2, e3, e4, some (.int li), e6, e7, none] (.seq (xs.map D.int)) A).sat (LnP h S l xs A) := by
  have h8' : ∀ i, (h i).length ≤ 8 := fun i => Nat.le_of_eq (h8 i)
  refine lc_sat xs.length (fun k B => ∃ G, B = A ++ .lst ((lens h S l (xs.take k)).map D.int) :: G) (by simp [Src.size]) ⟨[], rfl⟩ ?_ ?_
  · rintro k B hk ⟨G, rfl⟩
    obtain ⟨p, hp⟩ : ∃ p, xs[k]? = some p := ⟨_, List.getElem?_eq_getElem hk⟩
    refine ⟨.int p, _, _, by rw [at_seq, List.getElem?_map, hp]; rfl, rfl, ?_⟩
    show (Res.ok true _).sat _
    rw [sat_ok, if_pos rfl]
    have hm := met_below_ok h8' o l 4 hl (by omega) p (A := A ++ .lst ((lens h S l (xs.take k)).map D.int) :: G) (get_left hH) (get_left hS)
    rw [← hli] at hm
    obtain ⟨B, hB⟩ : ∃ B, B = A ++ O.lst ((lens h S l (xs.take k)).map D.int) :: G := ⟨_, rfl⟩
    rw [← hB] at hm ⊢
    obtain ⟨ms, hms⟩ : ∃ ms, ms = mb h S l p := ⟨_, rfl⟩
    rw [← hms] at hm
    have hl1 : (lens h S l (xs.take k)).length < line := by
      unfold lens line
      rw [List.length_map, List.length_take]
      omega
    have ek : lens h S l (xs.take (k + 1)) = lens h S l (xs.take k) ++ [(ms.length : Int)] := by
      unfold lens
      rw [List.take_add_one, hp, hms]
      simp
    simp [cl, hm]
    refine ⟨(lens h S l (xs.take k)).map D.int, ?_, by rw [List.length_map]; exact hl1, ?_⟩
    · rw [hB, List.append_assoc]
      exact at_mid _ _ _
    · rw [ek, hB, List.append_assoc, List.cons_append, set_mid]
      exact ⟨_, by simp; rfl⟩
  · rintro B ⟨G, rfl⟩
    refine ⟨by rw [at_seq, List.getElem?_eq_none (by simp)]; rfl, rfl, G, ?_⟩
    rw [List.take_length]
end
end Lw
set_option Elab.async false
set_option linter.all false
set_option maxRecDepth 100000
set_option maxHeartbeats 4000000
/-! The law asks what files meet, whole (own work). -/
namespace Lw
open PySem DL
section
variable {S : Sh} {h : Int → List Int} {A : AH} {hi si f n : Nat} {R : D → AH → Prop}
theorem ints_of : ∀ ns : List Int, intsOf (ns.map D.int) = some ns
  | [] => rfl
  | n :: ns => by
    have ih := ints_of ns
    unfold intsOf at ih ⊢
    rw [List.map_cons, List.map_cons]
    show (allSome ((ns.map D.int).map D.int?)).map (n :: ·) = _
    rw [ih]
    rfl
theorem blkD_o' (p : Int) : blkD S p = oD (blk S p) := by
  unfold blkD blk
  split <;> rfl
def MtI (h : Int → List Int) (S : Sh) (hi si : Nat) (fi : Int) (qs : List (Int × Nat)) (A : AH) (k : Nat) (E : DL.Env) (B : AH) : Prop :=
  ∃ (G : AH) (e4 e5 e6 e7 : Option D), E = [some (.ref hi), some (.ref si), some (.int fi), some (.ref A.length), e4, e5, e6, e7, none] ∧ B = A ++ .lst (((qs.take k).flatMap fun q => mb h S q.2 q.1).map D.int) :: .lst (qs.map qD) :: G
theorem met_turn {fi li : Int} {qs : List (Int × Nat)} {k : Nat} {G : AH} {p : Int} {l : Nat} {e6 e7 : Option D} (h8 : ∀ i, (h i).length = 8) (hH : A[hi]? = some (.dic (homeL h S.pl.toNat))) (hS : A[si]? = some (shO S)) (o : S.Ok) (hq : qs[k]? = some (p, l)) (ql : qs.length ≤ 5) (hll : ∀ q ∈ qs, q.2 ≤ 2) (hli : li = (l : Int)) :
    (bd_L_are_met_1 [some (.ref hi), some (.ref si), some (.int fi), some (.ref A.length), some (.int p), some (.int li), e6, e7, none] (A ++ .lst (((qs.take k).flatMap fun q => mb h S q.2 q.1).map D.int) :: .lst (qs.map qD) :: G)).sat (MtI h S hi si fi qs A (k + 1)) R := by
  have h8' : ∀ i, (h i).length ≤ 8 := fun i => Nat.le_of_eq (h8 i)
  have l2 : l ≤ 2 := hll _ (List.mem_of_getElem? hq)
  obtain ⟨acc, hacc⟩ : ∃ acc, acc = (qs.take k).flatMap fun q => mb h S q.2 q.1 := ⟨_, rfl⟩
  have b2 : acc.length ≤ 5 * 73 := by
    have b := flat_lenQ (f := fun q : Int × Nat => mb h S q.2 q.1) (w := 73) (xs := qs.take k) (fun q hq => Nat.le_trans (mb_len h8' _ _) (wt_le (hll q (List.mem_of_mem_take hq))))
    have b3 : (qs.take k).length ≤ 5 := by rw [List.length_take]; omega
    have := Nat.mul_le_mul_right 73 b3
    rw [hacc]
    omega
  have b4 : (mb h S l p).length ≤ 73 := Nat.le_trans (mb_len h8' _ _) (wt_le l2)
  have eacc : (qs.take (k + 1)).flatMap (fun q => mb h S q.2 q.1) = acc ++ mb h S l p := by
    rw [List.take_add_one, hq, Option.toList_some, List.flatMap_append, ← hacc, List.flatMap_cons, List.flatMap_nil, List.append_nil]
  rw [← hacc]
  obtain ⟨ms, hms⟩ : ∃ ms, ms = mb h S l p := ⟨_, rfl⟩
  rw [← hms] at b4 eacc
  have hm : ∀ X : AH, F_met_below 4 [.ref hi, .ref si, .int p, .int li] (A ++ X) = .ok (.ref (A ++ X).length) ((A ++ X) ++ [.lst (ms.map D.int)]) := fun X => by
    have q := met_below_ok h8' o l 4 (by omega) (by omega) p (A := A ++ X) (get_left hH) (get_left hS)
    rwa [← hli, ← hms] at q
  have hl : line = 16777216 := rfl
  unfold bd_L_are_met_1
  refine seq_sat (fun E C => E = [some (.ref hi), some (.ref si), some (.int fi), some (.ref A.length), some (.int p), some (.int li), e6, e7, none] ∧ C = A ++ .lst ((acc ++ ms).map D.int) :: .lst (qs.map qD) :: (G ++ [.lst (ms.map D.int)])) ?_ ?_
  · have q := hm (.lst (acc.map D.int) :: .lst (qs.map qD) :: G)
    obtain ⟨B, hB⟩ : ∃ B, B = A ++ O.lst (acc.map D.int) :: .lst (qs.map qD) :: G := ⟨_, rfl⟩
    rw [← hB] at q ⊢
    have ei := iadd_lst (A := B ++ [O.lst (ms.map D.int)]) (i := A.length) (j := B.length) (get_left (by rw [hB]; exact at_mid _ _ _)) get_last (by rw [List.length_map, List.length_map]; omega)
    have es : (B ++ [O.lst (ms.map D.int)]).set A.length (.lst (acc.map D.int ++ ms.map D.int)) = A ++ .lst ((acc ++ ms).map D.int) :: .lst (qs.map qD) :: (G ++ [.lst (ms.map D.int)]) := by
      rw [hB, List.append_assoc, List.cons_append, set_mid, List.map_append]
      rfl
    rw [es] at ei
    generalize A ++ O.lst ((acc ++ ms).map D.int) :: .lst (qs.map qD) :: (G ++ [.lst (ms.map D.int)]) = C at ei ⊢
    simp [cl, q, ei]
  rintro E C ⟨rfl, hC⟩
  have hHC : C[hi]? = some (.dic (homeL h S.pl.toNat)) := by rw [hC]; exact get_left hH
  have hSC : C[si]? = some (shO S) := by rw [hC]; exact get_left hS
  have hb := block_of_ok (p := p) hSC
  rw [blkD_o'] at hb
  refine seq_sat (fun E C2 => E = [some (.ref hi), some (.ref si), some (.int fi), some (.ref A.length), some (.int p), some (.int li), some (oD (blk S p)), e7, none] ∧ C2 = C) (by simp [cl, hb]) ?_
  rintro E C2 ⟨rfl, rfl⟩
  -- the count is told
  have last : ∀ (m : Int) (X : AH) (e7 : D), m = (ms.length : Int) → e7 = .int m → ((sIf (tB (eF opNeX (aCons (eF biLen (aCons (eF (cl (F_met_below 4) []) (aCons (eVar 0) (aCons (eVar 1) (aCons (eVar 4) (aCons (eVar 5) aNil))))) aNil)) (aCons (eVar 7) aNil)))) (sRet (eC (.bl false))) sNop)
      [some (.ref hi), some (.ref si), some (.int fi), some (.ref A.length), some (.int p), some (.int li), some (oD (blk S p)), some e7, none] (C2 ++ X)).sat (MtI h S hi si fi qs A (k + 1)) R := by
    rintro m X e7 rfl rfl
    have eX : C2 ++ X = A ++ (.lst ((acc ++ ms).map D.int) :: .lst (qs.map qD) :: (G ++ [.lst (ms.map D.int)] ++ X)) := by rw [hC]; simp
    have q := hm (.lst ((acc ++ ms).map D.int) :: .lst (qs.map qD) :: (G ++ [.lst (ms.map D.int)] ++ X))
    rw [← eX] at q
    have fin : ∀ Y e6 e7, MtI h S hi si fi qs A (k + 1) [some (.ref hi), some (.ref si), some (.int fi), some (.ref A.length), some (.int p), some (.int li), e6, e7, none] ((C2 ++ X) ++ Y) := fun Y e6 e7 => ⟨G ++ [.lst (ms.map D.int)] ++ X ++ Y, _, _, _, _, rfl, by rw [eX, eacc]; simp⟩
    obtain ⟨Z, hZ⟩ : ∃ Z, Z = C2 ++ X := ⟨_, rfl⟩
    rw [← hZ] at q fin ⊢
    have ne := ne_int (Z ++ [O.lst (ms.map D.int)]) (ms.length : Int)
    generalize MtI h S hi si fi qs A (k + 1) = P at fin ⊢
    generalize oD (blk S p) = ob
    simp [-ev_neX, cl, q, ne]
    exact fin _ _ _
  cases eb : blk S p with
  | none =>
    have e0 : ms = [] := by rw [hms]; exact mb_none eb
    rw [eb] at last
    refine seq_sat (fun E C3 => E = [some (.ref hi), some (.ref si), some (.int fi), some (.ref A.length), some (.int p), some (.int li), some .non, some (.int 0), none] ∧ C3 = C2) (by simp [oD]) ?_
    rintro E C3 ⟨rfl, rfl⟩
    refine seq_sat (fun E C4 => E = [some (.ref hi), some (.ref si), some (.int fi), some (.ref A.length), some (.int p), some (.int li), some .non, some (.int 0), none] ∧ C4 = C3) (by simp) ?_
    rintro E C4 ⟨rfl, rfl⟩
    have q := last 0 [] (.int 0) (by rw [e0]; rfl) rfl
    rw [List.append_nil] at q
    exact q
  | some b =>
    obtain ⟨_, b0, b1⟩ := blk_some eb
    rw [eb] at last
    refine seq_sat (fun E C3 => E = [some (.ref hi), some (.ref si), some (.int fi), some (.ref A.length), some (.int p), some (.int li), some (.int b), some (.int 1), none] ∧ C3 = C2) (by simp [oD]) ?_
    rintro E C3 ⟨rfl, rfl⟩
    cases l with
    | zero =>
      have e1 : (ms.length : Int) = 1 := by rw [hms]; exact mb_zero eb
      have lz : ¬ 0 < li := by omega
      refine seq_sat (fun E C4 => E = [some (.ref hi), some (.ref si), some (.int fi), some (.ref A.length), some (.int p), some (.int li), some (.int b), some (.int 1), none] ∧ C4 = C3) (by simp; intro z; exact absurd z lz) ?_
      rintro E C4 ⟨rfl, rfl⟩
      have q := last 1 [] (.int 1) e1.symm rfl
      rw [List.append_nil] at q
      exact q
    | succ l =>
      have e1 : (ms.length : Int) = 1 + (lens h S l (h (S.fb + b))).sum := by rw [hms]; exact mb_more eb
      have lz : 0 < li := by omega
      have hv2 : valF keyD (homeL h S.pl.toNat) (.int (S.fb + b)) = some (.tup ((h (S.fb + b)).map D.int)) := valF_home (by have := o.pl; have := o.f0; omega) (by have := o.pl; omega)
      have hbp := block_plate_ok (n := b) hSC
      have hins := isIns_of hSC
      have r8 := h8 (S.fb + b)
      generalize h (S.fb + b) = row at e1 hv2 r8
      have lc := lens_lc (A := C3) (l := l) (xs := row) h8 hHC hSC o (by omega) (by omega) (e2 := some (.int fi)) (e3 := some (.ref A.length)) (e4 := some (.int p)) (e6 := some (.int b)) (e7 := some (.int 1)) (li := li) (by omega)
      obtain ⟨d, C5, ec, rfl, G2, hC5⟩ := sat_iff.mp lc
      obtain ⟨ln, hln⟩ : ∃ ln, ln = lens h S l row := ⟨_, rfl⟩
      rw [← hln] at e1 hC5
      have s5 : seqAt C5 C3.length = some (ln.map D.int) := by
        rw [ev_seqAt, hC5, at_mid]
        rfl
      refine seq_sat (fun E C4 => E = [some (.ref hi), some (.ref si), some (.int fi), some (.ref A.length), some (.int p), some (.int li), some (.int b), some (.int (1 + ln.sum)), none] ∧ C4 = C5) ?_ ?_
      · have hat5 : C5[C3.length]? = some (.lst (ln.map D.int)) := by rw [hC5]; exact at_mid _ _ _
        simp [lz, cl, hins, hbp, hHC, hv2, ec, hat5, ints_of]
      rintro E C4 ⟨rfl, rfl⟩
      have q := last (1 + ln.sum) (.lst (ln.map D.int) :: G2) (.int (1 + ln.sum)) e1.symm rfl
      rw [hC5]
      exact q
theorem L_are_met_ok {fi : Int} (h8 : ∀ i, (h i).length = 8) (hH : A[hi]? = some (.dic (homeL h S.pl.toNat))) (hS : A[si]? = some (shO S)) (o : S.Ok) (f0 : 0 ≤ fi) (f1 : fi < S.f) :
    F_L_are_met [.ref hi, .ref si, .int fi] A = .ok (.bl true) A := by
  have hp := pointers_at_ok (A := A ++ [.lst []]) (f := fi) h8 (get_left hH) (get_left hS) f0 f1 o
  obtain ⟨qs, hqs⟩ : ∃ qs, qs = ptrs (h (S.ff + fi)) := ⟨_, rfl⟩
  have ql : qs.length ≤ 5 := by rw [hqs]; exact ptrs_len _
  have hll : ∀ q ∈ qs, q.2 ≤ 2 := fun q hq => by rw [hqs] at hq; exact ptrs_lev hq
  have eM : metL h S (h (S.ff + fi)) = qs.flatMap fun q => mb h S q.2 q.1 := by rw [hqs]; rfl
  rw [← hqs] at hp
  refine sat_eq (sat_def rfl ?_)
  unfold b_L_are_met
  simp only [startE]
  refine seq_sat (fun E B => E = [some (.ref hi), some (.ref si), some (.int fi), some (.ref A.length), none, none, none, none, none] ∧ B = A ++ [.lst []]) (by unfold st_L_are_met_0; simp [line]) ?_
  rintro E B ⟨rfl, rfl⟩
  refine seq_sat (MtI h S hi si fi qs A qs.length) ?_ ?_
  · have lA : (A ++ [O.lst []]).length = A.length + 1 := by simp
    have eA : A ++ [O.lst []] ++ [O.lst (qs.map qD)] = A ++ [.lst [], .lst (qs.map qD)] := by simp
    rw [lA, eA] at hp
    unfold st_L_are_met_1
    simp [cl, hp]
    have hs : ∀ (o1 : O) (G : AH), seqO (A ++ o1 :: .lst (qs.map qD) :: G)[A.length + 1]? = some (qs.map qD) := fun o1 G => by rw [ix_right]; rfl
    have hg1 : (A ++ [O.lst [], O.lst (qs.map qD)])[A.length + 1]? = some (.lst (qs.map qD)) := by rw [ix_right]; rfl
    refine for_sat qs.length (MtI h S hi si fi qs A) (by rw [size_lst (hs _ [])]; simp) ⟨[], _, _, _, _, rfl, by simp⟩ ?_ ?_
    · rintro k E B hk ⟨G, e4, e5, e6, e7, rfl, rfl⟩
      obtain ⟨q, hq⟩ : ∃ q, qs[k]? = some q := ⟨_, List.getElem?_eq_getElem hk⟩
      obtain ⟨p, l⟩ := q
      obtain ⟨li, hli⟩ : ∃ li : Int, li = (l : Int) := ⟨_, rfl⟩
      refine ⟨.tup [.int p, .int li], by rw [at_lst (hs _ G), List.getElem?_map, hq, hli]; rfl, tsat_of ?_⟩
      have q := met_turn (R := fun a B => (gc A a B).sat fun a B => a = .bl true ∧ B = A) (fi := fi) (G := G) (e6 := e6) (e7 := e7) h8 hH hS o hq ql hll hli
      simp
      exact q
    · rintro E B ⟨G, e4, e5, e6, e7, rfl, rfl⟩
      exact ⟨by rw [at_lst (hs _ G), List.getElem?_eq_none (by simp)]; rfl, G, _, _, _, _, rfl, rfl⟩
  rintro E B ⟨G, e4, e5, e6, e7, rfl, rfl⟩
  rw [List.take_length, ← eM]
  obtain ⟨mt, hmt⟩ : ∃ mt, mt = metL h S (h (S.ff + fi)) := ⟨_, rfl⟩
  rw [← hmt]
  obtain ⟨B, hB⟩ : ∃ B, B = A ++ O.lst (mt.map D.int) :: .lst (qs.map qD) :: G := ⟨_, rfl⟩
  have hm := met_ok (A := B) (f := fi) h8 (by rw [hB]; exact get_left hH) (by rw [hB]; exact get_left hS) f0 f1 o
  rw [← hmt] at hm
  rw [← hB]
  have he : opEqX [.ref A.length, .ref B.length] (B ++ [O.lst (mt.map D.int)]) = .ok (.bl true) (B ++ [O.lst (mt.map D.int)]) := eq_same (ds := mt.map D.int) (purs_ints 58 _) (get_left (by rw [hB]; exact at_mid _ _ _)) get_last
  unfold st_L_are_met_2
  simp [-ev_eqX, cl, hm, he]
  rw [hB, List.append_assoc, gc_app _ (by simp)]
  exact ⟨rfl, rfl⟩
end
end Lw
set_option Elab.async false
set_option linter.all false
set_option maxRecDepth 100000
set_option maxHeartbeats 4000000
/-! Drawn homes of any numbers (own work). -/
namespace Lw
open PySem DL
section
variable {ns : List Int} {A B : AH} {S : Sh} {si : Nat}
def DrI (A : AH) (k : Nat) (B : AH) : Prop := ∃ (A' : AH) (js : List Int), Nx1 A A' ∧ B = A' ++ [.lst (js.map D.int)] ∧ js.length = k
theorem draw_lc {E : DL.Env} {e : DL.Ex} {i n : Nat} (hD : Drw ns A) (hn : n ≤ 1000) (hi : i < E.length)
    (he : ∀ (k : Nat) B, Drw ns B → (∀ j, j ≠ 1 → j < A.length → B[j]? = A[j]?) → (e (E.set i (some (.int k))) B).sat fun y C => (∃ v, y = .int v) ∧ Nx1 B C) :
    (kLc (gName i) tYes e E (.seq (upto 0 n)) A).sat fun d B => d = .ref A.length ∧ DrI A n B := by
  refine lc_sat n (DrI A) (by rw [upto_size]; exact Nat.le_refl _) ⟨A, [], .refl hD, rfl, rfl⟩ ?_ ?_
  · rintro k B hk ⟨A', js, x, rfl, hl⟩
    refine ⟨.int k, E.set i (some (.int k)), _, upto_at _ hk, rfl, ?_⟩
    have hlt := (hD.nx x).lt
    show (Res.ok true _).sat _
    rw [sat_ok, if_pos rfl]
    refine (he k _ ((hD.nx x).app _) fun j hj hj2 => by rw [List.getElem?_append_left (by rw [x.len]; exact hj2)]; exact x.get hj).mono ?_
    rintro y C ⟨⟨v, rfl⟩, z⟩
    obtain ⟨A2, rfl, x2⟩ := z.split hlt
    have x3 := x.trans x2
    refine ⟨js.map D.int, get_at x3.len, by simp [line]; omega, A2, js ++ [v], x3, ?_, by simp [hl]⟩
    rw [set_at x3.len]
    simp
  · rintro B hI
    exact ⟨upto_end _, rfl, hI⟩
theorem shape_ne1 (h : Drw ns A) (hS : A[si]? = some (shO S)) : si ≠ 1 := by
  obtain ⟨n, _, e⟩ := h.d
  intro z
  rw [z, e] at hS
  cases hS
theorem homeL_add {h : Int → List Int} {k : Nat} {xs : List Int} : putF' keyD (homeL h k) (.int (k : Int)) (.tup (xs.map D.int)) = homeL (updH h k xs) (k + 1) := by
  unfold putF'
  rw [if_neg]
  · unfold homeL
    rw [List.range_succ, List.map_append]
    congr 1
    · refine List.map_congr_left fun i hi => ?_
      have := List.mem_range.mp hi
      unfold updH
      rw [if_neg (by omega)]
    · unfold updH
      simp
  · rw [List.any_eq_true]
    rintro ⟨p, hp, e⟩
    unfold homeL at hp
    obtain ⟨i, hi, rfl⟩ := List.mem_map.mp hp
    have := List.mem_range.mp hi
    rw [keqF_int] at e
    simp at e
    omega
theorem updH_len {h : Int → List Int} {k : Int} {xs : List Int} (h8 : ∀ i, (h i).length = 8) (hx : xs.length = 8) : ∀ i, (updH h k xs i).length = 8 := fun i => by
  unfold updH
  split
  · exact hx
  · exact h8 i
theorem home_bd (n : Nat) (h : Int → List Int) (k : Nat) : (O.dic (homeL h k)).bd n = true := by
  show (homeL h k).all (fun p => p.1.bd n && p.2.bd n) = true
  rw [List.all_eq_true]
  intro p hp
  unfold homeL at hp
  obtain ⟨i, _, rfl⟩ := List.mem_map.mp hp
  simp
  rw [bdAll_iff]
  intro d hd
  obtain ⟨x, _, rfl⟩ := List.mem_map.mp hd
  rfl
def AnI (A : AH) (si : Nat) (ks : List D) (k : Nat) (E : DL.Env) (B : AH) : Prop :=
  ∃ (A' G : AH) (h : Int → List Int) (e4 e5 : Option D), Nx1 A A' ∧ (∀ i, (h i).length = 8) ∧ B = A' ++ .lst ks :: .dic (homeL h k) :: G ∧ E = [some (.ref 1), some (.ref si), some (.ref A.length), some (.ref (A.length + 1)), e4, e5]
def AnP (A : AH) (S : Sh) (d : D) (B : AH) : Prop := ∃ (A' : AH) (h : Int → List Int), Nx1 A A' ∧ (∀ i, (h i).length = 8) ∧ d = .ref A.length ∧ B = A' ++ [.dic (homeL h S.pl.toNat)]
theorem get_at1 {A A' G : AH} {o o' : O} (h : A'.length = A.length) : (A' ++ o :: o' :: G)[A.length + 1]? = some o' := by
  rw [← h, ix_right]
  rfl
theorem set_at1 {A A' G : AH} {o o' o2 : O} (h : A'.length = A.length) : (A' ++ o :: o' :: G).set (A.length + 1) o2 = A' ++ o :: o2 :: G := by
  rw [← h, set_right]
  rfl
theorem an_turn {ks : List D} {k : Nat} {A1 G1 : AH} {h1 : Int → List Int} {e4 e5 : Option D} {ki : Int} (hD : Drw ns A) (hk : k < 255) (hki : ki = (k : Int)) (hks : ∀ d ∈ ks, ∃ v : Int, d = .int v) (hne : ks ≠ []) (x1 : Nx1 A A1) (h8 : ∀ i, (h1 i).length = 8) :
    ((sAsg (eF biTuple (aCons (eLc (iRng1 (aCons (eC (.int 8)) aNil)) (gName 5) tYes (eF (cl F_L_pick []) (aCons (eVar 0) (aCons (eVar 2) aNil))) [5]) aNil)) (gSub (eVar 3) (eVar 4) stPut)) [some (.ref 1), some (.ref si), some (.ref A.length), some (.ref (A.length + 1)), some (.int ki), e5] (A1 ++ .lst ks :: .dic (homeL h1 k) :: G1)).sat (AnI A si ks (k + 1)) fun _ _ => False := by
  have hlt := hD.lt
  have hkb : ∀ n, bdAll n ks = true := fun n => by
    rw [bdAll_iff]
    intro d hd
    obtain ⟨v, rfl⟩ := hks d hd
    rfl
  obtain ⟨C0, hC0⟩ : ∃ C0 : AH, C0 = A1 ++ .lst ks :: .dic (homeL h1 k) :: G1 := ⟨_, rfl⟩
  have hD0 : Drw ns C0 := by rw [hC0]; exact (hD.nx x1).app _
  have k0 : C0[A.length]? = some (.lst ks) := by rw [hC0]; exact get_at x1.len
  have lC : A.length < C0.length := (List.getElem?_eq_some_iff.mp k0).1
  rw [← hC0]
  have q := draw_lc (E := [some (.ref 1), some (.ref si), some (.ref A.length), some (.ref (A.length + 1)), some (.int ki), none]) (e := eF (cl F_L_pick []) (aCons (eVar 0) (aCons (eVar 2) aNil))) (i := 5) (n := 8) hD0 (by omega) (by simp) (by
    intro j B hB hj
    have hkB : B[A.length]? = some (.lst ks) := (hj _ (by omega) lC).trans k0
    simp [cl]
    refine (pick_sat hB hkB (by omega) hne (hkb _)).mono ?_
    rintro d C2 ⟨hd, y2⟩
    exact ⟨hks d hd, y2⟩)
  have hE : wipeE [some (.ref 1), some (.ref si), some (.ref A.length), some (.ref (A.length + 1)), some (.int ki), e5] [5] = [some (.ref 1), some (.ref si), some (.ref A.length), some (.ref (A.length + 1)), some (.int ki), none] := rfl
  generalize eF (cl F_L_pick []) (aCons (eVar 0) (aCons (eVar 2) aNil)) = X at q ⊢
  rw [ev_sAsg, ssat_then]
  simp [small_of (show (0 : Int) ≤ 8 by omega) (by omega), hE]
  refine q.mono ?_
  rintro d B ⟨rfl, A2, js, y, rfl, hl⟩
  have lC2 := y.len
  rw [hC0] at y
  obtain ⟨A3, rfl, x3⟩ := y.split (hD.nx x1).lt
  have x13 := x1.trans x3
  have eB : A3 ++ O.lst ks :: O.dic (homeL h1 k) :: G1 ++ [O.lst (js.map D.int)] = A3 ++ O.lst ks :: O.dic (homeL h1 k) :: (G1 ++ [O.lst (js.map D.int)]) := by simp
  have hj : (A3 ++ O.lst ks :: O.dic (homeL h1 k) :: (G1 ++ [O.lst (js.map D.int)]))[C0.length]? = some (.lst (js.map D.int)) := by
    rw [← eB, ← lC2]
    exact get_last
  have hh : (A3 ++ O.lst ks :: O.dic (homeL h1 k) :: (G1 ++ [O.lst (js.map D.int)]))[A.length + 1]? = some (.dic (homeL h1 k)) := get_at1 x13.len
  have hp : stPut (.ref (A.length + 1)) (.int ki) (.tup (js.map D.int)) (A3 ++ O.lst ks :: O.dic (homeL h1 k) :: (G1 ++ [O.lst (js.map D.int)])) = some (A3 ++ O.lst ks :: O.dic (homeL (updH h1 k js) (k + 1)) :: (G1 ++ [O.lst (js.map D.int)])) := by
    have ll : (homeL h1 k).length < line := by rw [homeL_len]; unfold line; omega
    rw [hki]
    simp [hh, ll, homeL_add]
    exact set_at1 x13.len
  rw [eB]
  generalize A3 ++ O.lst ks :: O.dic (homeL h1 k) :: (G1 ++ [O.lst (js.map D.int)]) = Z at hj hp ⊢
  have hp2 : putO (A.length + 1) (.int ki) (.tup (js.map D.int)) Z Z[A.length + 1]? = some (A3 ++ O.lst ks :: O.dic (homeL (updH h1 k js) (k + 1)) :: (G1 ++ [O.lst (js.map D.int)])) := hp
  simp [-ev_stPut, hj, hp2]
  exact ⟨A3, G1 ++ [O.lst (js.map D.int)], _, _, _, x13, updH_len h8 hl, rfl, rfl⟩
end
end Lw
set_option Elab.async false
set_option linter.all false
set_option maxRecDepth 100000
set_option maxHeartbeats 4000000
/-! Drawn homes of any numbers, whole (own work). -/
namespace Lw
open PySem DL
section
variable {ns : List Int} {A B : AH} {S : Sh} {si : Nat}
def An0 (A : AH) (si : Nat) (E : DL.Env) (B : AH) : Prop := ∃ ks : List D, (∀ d ∈ ks, ∃ v : Int, d = .int v) ∧ ks ≠ [] ∧ E = [some (.ref 1), some (.ref si), some (.ref A.length), none, none, none] ∧ B = A ++ [.lst ks]
theorem L_any_ok (hD : Drw ns A) (hS : A[si]? = some (shO S)) (o : S.Ok) : (F_L_any [.ref 1, .ref si] A).sat (AnP A S) := by
  have hs1 := shape_ne1 hD hS
  have hlt := hD.lt
  have op := o.pl
  have hS' : ∀ {A' : AH} (x : Nx1 A A') (G : AH), (A' ++ G)[si]? = some (O.ins 0 [(0, .int S.d), (1, .int S.r), (2, .int S.f), (3, .int S.b), (4, .int S.u), (5, .int S.fr), (6, .int S.fu), (7, .int S.ff), (8, .int S.fb), (9, .int S.pl)]) := fun x G => get_left ((x.get hs1).trans hS)
  have hS0 : A[si]? = some (O.ins 0 [(0, .int S.d), (1, .int S.r), (2, .int S.f), (3, .int S.b), (4, .int S.u), (5, .int S.fr), (6, .int S.fu), (7, .int S.ff), (8, .int S.fb), (9, .int S.pl)]) := hS
  refine sat_def rfl ?_
  simp only [b_L_any, startE]
  refine seq_sat (An0 A si) ?_ ?_
  · have fin : ∀ ks : List D, (∀ d ∈ ks, ∃ v : Int, d = .int v) → ks ≠ [] → An0 A si [some (.ref 1), some (.ref si), some (.ref A.length), none, none, none] (A ++ [.lst ks]) := fun ks a b => ⟨ks, a, b, rfl, rfl⟩
    generalize An0 A si = P at fin ⊢
    have t1 := tooW o.f0 o.f1
    simp [hS0, line, tw, t1]
    refine fin _ ?_ (by simp)
    intro d hd
    simp at hd
    rcases hd with h | h | h | h | h | h | h | h | h | h | h | h <;> exact ⟨_, h⟩
  rintro E B ⟨ks, hks, hne, rfl, rfl⟩
  refine seq_sat (AnI A si ks 0) ?_ ?_
  · have fin : AnI A si ks 0 [some (.ref 1), some (.ref si), some (.ref A.length), some (.ref (A.length + 1)), none, none] (A ++ [.lst ks, .dic []]) := ⟨A, [], fun _ => [0, 0, 0, 0, 0, 0, 0, 0], none, none, .refl hD, fun _ => rfl, rfl, rfl⟩
    generalize AnI A si ks 0 = P at fin ⊢
    simp
    exact fin
  rintro E B ⟨A', G, h, e4, e5, x, h8, rfl, rfl⟩
  refine seq_sat (AnI A si ks S.pl.toNat) ?_ ?_
  · have hSx := hS' x (.lst ks :: .dic (homeL h 0) :: G)
    have hit : iRng1 (aCons (eF (fFld [0] 9) (aCons (eVar 1) aNil)) aNil) [some (.ref 1), some (.ref si), some (.ref A.length), some (.ref (A.length + 1)), e4, e5] (A' ++ .lst ks :: .dic (homeL h 0) :: G) = .ok (.seq (upto 0 S.pl.toNat)) (A' ++ .lst ks :: .dic (homeL h 0) :: G) := by
      simp [hSx, small_of (show (0 : Int) ≤ S.pl by have := o.f0; have := o.b0; omega) (by omega)]
    rw [ev_sFor, hit, then_ok]
    refine for_sat S.pl.toNat (AnI A si ks) (by rw [upto_size]; exact Nat.le_refl _) ⟨A', G, h, e4, e5, x, h8, rfl, rfl⟩ ?_ ?_
    · rintro k E B hk ⟨A1, G1, h1, e4, e5, x1, h81, rfl, rfl⟩
      obtain ⟨ki, hki⟩ : ∃ ki : Int, ki = (k : Int) := ⟨_, rfl⟩
      refine ⟨.int ki, by rw [hki]; exact upto_at _ hk, tsat_of ?_⟩
      simp only [ev_gName, only_nx, seq_nx]
      exact (an_turn (si := si) (G1 := G1) (e4 := e4) (e5 := e5) hD (by omega) hki hks hne x1 h81).mono (fun _ _ z => z) fun _ _ z => z.elim
    · rintro E B hI
      exact ⟨upto_end _, hI⟩
  rintro E B ⟨A', G, h, e4, e5, x, h8, rfl, rfl⟩
  have q := gc_new1 (A := A) (B := A') (G := .lst ks :: O.dic (homeL h S.pl.toNat) :: G) (j := 1) x hlt rfl rfl (home_bd _ _ _)
  simp
  rw [q]
  exact ⟨A', h, x, h8, rfl, rfl⟩
end
end Lw
set_option Elab.async false
set_option linter.all false
set_option maxRecDepth 100000
set_option maxHeartbeats 4000000
/-! The places of a shape stand in order, each once: plain Lean (own work). -/
namespace Lw
open PySem DL STX
def cl8 (m : Int) : List L2.Key := [.inl (m / 8), .inl (m % 8)]
theorem cl8_lt {m n : Int} (h : m < n) : lexA (cl8 n) (cl8 m) = false ∧ cl8 m ≠ cl8 n := by
  unfold cl8
  refine ⟨?_, fun e => ?_⟩
  · unfold lexA
    by_cases z : (Sum.inl (n / 8) : L2.Key) = .inl (m / 8)
    · rw [if_pos z]
      have z' : n / 8 = m / 8 := by injection z
      unfold lexA
      by_cases y : (Sum.inl (n % 8) : L2.Key) = .inl (m % 8)
      · rw [if_pos y]
        rfl
      · rw [if_neg y]
        show decide (n % 8 < m % 8) = false
        rw [decide_eq_false_iff_not]
        omega
    · rw [if_neg z]
      show decide (n / 8 < m / 8) = false
      rw [decide_eq_false_iff_not]
      omega
  · injection e with e1 e2
    injection e2 with e2 _
    injection e1 with e1
    injection e2 with e2
    omega
/-- rising -/
def Up (ms : List Int) : Prop := ms.Pairwise (· < ·)
theorem cl8_up {ms : List Int} (h : Up ms) : (ms.map cl8).Pairwise leK ∧ (ms.map cl8).Nodup := by
  refine ⟨List.pairwise_map.mpr (h.imp fun {a b} l => (cl8_lt l).1), List.pairwise_map.mpr (h.imp fun {a b} l => (cl8_lt l).2)⟩
theorem cl8_fit (ms : List Int) : fitA (ms.map cl8) = true := by
  unfold fitA
  rw [List.all_eq_true]
  intro a ha
  obtain ⟨m, _, rfl⟩ := List.mem_map.mp ha
  have : ((ms.map cl8).all fun b => alike (cl8 m) b) = true := by
    rw [List.all_eq_true]
    intro b hb
    obtain ⟨n, _, rfl⟩ := List.mem_map.mp hb
    rfl
  rw [this]
  rfl
def rg (n : Int) (f : Int → Int) : List Int := (List.range n.toNat).map fun (i : Nat) => f (i : Int)
theorem rg_mem {n : Int} {f : Int → Int} {x : Int} (h : x ∈ rg n f) : ∃ i : Int, 0 ≤ i ∧ i < n ∧ x = f i := by
  obtain ⟨i, hi, rfl⟩ := List.mem_map.mp h
  have := List.mem_range.mp hi
  exact ⟨i, by omega, by omega, rfl⟩
theorem rg_up {n : Int} {f : Int → Int} (h : ∀ i j, i < j → f i < f j) : Up (rg n f) := by
  unfold Up rg
  rw [List.pairwise_map]
  have q : (List.range n.toNat).Pairwise (· < ·) := List.pairwise_lt_range
  refine q.imp ?_
  intro a b l
  have l' : a < b := l
  exact h (a : Int) (b : Int) (by omega)
def msS (S : Sh) : List Int := [0] ++ (rg S.d (fun i => 8 + i) ++ rg S.r (fun i => 8 * S.fr + i) ++ rg S.u fun i => 8 * S.fu + i) ++ rg S.f (fun i => 8 * (S.ff + i)) ++ rg S.b (fun i => 8 * (S.fb + i))
theorem msS_up {S : Sh} (o : S.Ok) : Up (msS S) := by
  have a1 := o.fr; have a2 := o.fu; have a3 := o.ff; have a4 := o.pl
  have u0 := o.u0; have u1 := o.u1; have f0 := o.f0; have b0 := o.b0
  unfold msS Up
  rw [List.pairwise_append, List.pairwise_append, List.pairwise_append, List.pairwise_append, List.pairwise_append]
  refine ⟨⟨⟨by simp, ⟨⟨rg_up fun i j h => by omega, rg_up fun i j h => by omega, ?_⟩, rg_up fun i j h => by omega, ?_⟩, ?_⟩, rg_up fun i j h => by omega, ?_⟩, rg_up fun i j h => by omega, ?_⟩
  · intro x hx y hy
    obtain ⟨i, i0, i1, rfl⟩ := rg_mem hx
    obtain ⟨j, j0, j1, rfl⟩ := rg_mem hy
    omega
  · intro x hx y hy
    obtain ⟨j, j0, j1, rfl⟩ := rg_mem hy
    rcases List.mem_append.mp hx with hx | hx
    · obtain ⟨i, i0, i1, rfl⟩ := rg_mem hx
      omega
    · obtain ⟨i, i0, i1, rfl⟩ := rg_mem hx
      omega
  · intro x hx y hy
    have : x = 0 := by simpa using hx
    subst this
    rcases List.mem_append.mp hy with hy | hy
    · rcases List.mem_append.mp hy with hy | hy
      · obtain ⟨i, i0, i1, rfl⟩ := rg_mem hy
        omega
      · obtain ⟨i, i0, i1, rfl⟩ := rg_mem hy
        omega
    · obtain ⟨i, i0, i1, rfl⟩ := rg_mem hy
      omega
  · intro x hx y hy
    obtain ⟨j, j0, j1, rfl⟩ := rg_mem hy
    rcases List.mem_append.mp hx with hx | hx
    · have : x = 0 := by simpa using hx
      omega
    · rcases List.mem_append.mp hx with hx | hx
      · rcases List.mem_append.mp hx with hx | hx
        · obtain ⟨i, i0, i1, rfl⟩ := rg_mem hx
          omega
        · obtain ⟨i, i0, i1, rfl⟩ := rg_mem hx
          omega
      · obtain ⟨i, i0, i1, rfl⟩ := rg_mem hx
        omega
  · intro x hx y hy
    obtain ⟨j, j0, j1, rfl⟩ := rg_mem hy
    rcases List.mem_append.mp hx with hx | hx
    · rcases List.mem_append.mp hx with hx | hx
      · have : x = 0 := by simpa using hx
        omega
      · rcases List.mem_append.mp hx with hx | hx
        · rcases List.mem_append.mp hx with hx | hx
          · obtain ⟨i, i0, i1, rfl⟩ := rg_mem hx
            omega
          · obtain ⟨i, i0, i1, rfl⟩ := rg_mem hx
            omega
        · obtain ⟨i, i0, i1, rfl⟩ := rg_mem hx
          omega
    · obtain ⟨i, i0, i1, rfl⟩ := rg_mem hx
      omega
/-- the places of a shape -/
def ceK (S : Sh) : List (List L2.Key) := (msS S).map cl8
theorem ceK_sort {S : Sh} (o : S.Ok) : sortK (ceK S) = ceK S := (sortK_eq (List.Perm.refl _) (cl8_up (msS_up o)).1).symm
theorem ceK_len (S : Sh) : (ceK S).length = 1 + (S.d.toNat + S.r.toNat + S.u.toNat) + S.f.toNat + S.b.toNat := by
  unfold ceK msS rg
  simp
  omega
/-! unlike ones -/
def insT (ks : List (List L2.Key)) (k : List L2.Key) : List (List L2.Key) := if (ks.any fun a => decide (a = k)) = true then ks else ks ++ [k]
def insTs (ids : List (List L2.Key)) : List (List L2.Key) := ids.foldl insT []
theorem insTs_snoc (ids : List (List L2.Key)) (k : List L2.Key) : insTs (ids ++ [k]) = insT (insTs ids) k := by
  unfold insTs
  rw [List.foldl_append]
  rfl
theorem insTs_nd {ids : List (List L2.Key)} (h : ids.Nodup) : insTs ids = ids := by
  have : ∀ (ids acc : List (List L2.Key)), (acc ++ ids).Nodup → ids.foldl insT acc = acc ++ ids := by
    intro ids
    induction ids with
    | nil => intro acc _; simp
    | cons k ids ih =>
      intro acc hn
      rw [List.foldl_cons]
      have hk : k ∉ acc := fun hk => by
        have := List.nodup_append.mp hn
        exact this.2.2 k hk k List.mem_cons_self rfl
      have : insT acc k = acc ++ [k] := if_neg fun z => by
        obtain ⟨a, ha, e⟩ := List.any_eq_true.mp z
        have e : a = k := by simpa using e
        exact hk (e ▸ ha)
      rw [this, ih (acc ++ [k]) (by simpa using hn)]
      simp
  have := this ids [] (by simpa using h)
  simpa [insTs] using this
def dtD (ks : List (List L2.Key)) : List (D × D) := ks.map fun k => (tupK k, D.bl true)
theorem keqT (a b : List L2.Key) : keqF keyT (tupK a) (tupK b) = decide (a = b) := keqF_eq (keyT_tupK a) (keyT_tupK b)
theorem putF_dtD (ks : List (List L2.Key)) (k : List L2.Key) : putF' keyT (dtD ks) (tupK k) (.bl true) = dtD (insT ks k) := by
  unfold putF' insT
  have e : ((dtD ks).any fun p => keqF keyT p.1 (tupK k)) = ks.any fun a => decide (a = k) := by
    unfold dtD
    rw [List.any_map]
    congr 1
    funext a
    exact keqT a k
  rw [e]
  by_cases z : (ks.any fun a => decide (a = k)) = true
  · rw [if_pos z, if_pos z]
    unfold dtD
    rw [List.map_map]
    refine List.map_congr_left fun a _ => ?_
    simp only [Function.comp]
    split <;> rfl
  · rw [if_neg z, if_neg z]
    unfold dtD
    rw [List.map_append]
    rfl
end Lw
set_option Elab.async false
set_option linter.all false
set_option maxRecDepth 100000
set_option maxHeartbeats 4000000
/-! The places of a shape (own work). -/
namespace Lw
open PySem DL STX
theorem fm8' (n : Int) : n.fmod 8 = n % 8 := Int.fmod_eq_emod_of_nonneg _ (by omega)
theorem tup_cl8 (m : Int) : tupK (cl8 m) = .tup [.int (m / 8), .int (m % 8)] := rfl
section
variable {S : Sh} {A X : AH} {si : Nat}
theorem cells_lc {E : DL.Env} {e : DL.Ex} {n : Int} {f : Int → Int} (h0 : 0 ≤ n) (h1 : n ≤ 1000) (he : ∀ m G, 0 ≤ m → m < n → e (E.set 2 (some (.int m))) (X ++ G) = .ok (tupK (cl8 (f m))) (X ++ G)) :
    kLc (gName 2) tYes e E (.seq (upto 0 n.toNat)) X = .ok (.ref X.length) (X ++ [.lst (((rg n f).map cl8).map tupK)]) := by
  have q := lc_map (src := .seq (upto 0 n.toNat)) (g := gName 2) (e := e) (E := E) (A := X) (ds := upto 0 n.toNat) (fun d => E.set 2 (some d)) (fun d => match d with
    | .int m => tupK (cl8 (f m))
    | _ => .non) (by rw [upto_len]; unfold line; omega) rfl (fun _ _ => rfl) (fun d hd G => rfl) (fun d hd G => by
      obtain ⟨i, hi, rfl⟩ := List.mem_map.mp hd
      have := List.mem_range.mp hi
      exact he (0 + (i : Int)) G (by omega) (by omega))
  have e2 : (upto 0 n.toNat).map (fun d => match d with
    | .int m => tupK (cl8 (f m))
    | _ => .non) = ((rg n f).map cl8).map tupK := by
    unfold upto rg
    rw [List.map_map, List.map_map, List.map_map]
    refine List.map_congr_left fun i _ => ?_
    simp only [Function.comp, Int.zero_add]
  rw [e2] at q
  exact q
theorem add_lst {B : AH} {i j : Nat} {xs ys : List D} (h1 : B[i]? = some (.lst xs)) (h2 : B[j]? = some (.lst ys)) (l : xs.length + ys.length ≤ line) : opAdd [.ref i, .ref j] B = .ok (.ref B.length) (B ++ [.lst (xs ++ ys)]) := by
  show lst2 B B[i]? B[j]? = _
  rw [h1, h2, ev_lst2, if_pos l]
theorem rgl {n : Int} {f : Int → Int} : (((rg n f).map cl8).map tupK).length = n.toNat := by simp [rg]
def Ce1 (A : AH) (si : Nat) (xs : List D) (E : DL.Env) (B : AH) : Prop := ∃ (G : AH) (j : Nat), E = [some (.ref si), some (.ref (A.length + j)), none] ∧ B = A ++ G ∧ G[j]? = some (.lst xs)
theorem L_cells_of_ok (hS : A[si]? = some (shO S)) (o : S.Ok) : F_L_cells_of [.ref si] A = .ok (.ref A.length) (A ++ [.lst ((ceK S).map tupK)]) := by
  have d0 := o.d0; have d1 := o.d1; have r0 := o.r0; have r1 := o.r1; have u0 := o.u0; have u1 := o.u1; have f0 := o.f0; have f1 := o.f1; have b0 := o.b0; have b1 := o.b1
  have hl : line = 16777216 := rfl
  have hSG : ∀ G, (A ++ G)[si]? = some (shO S) := fun G => get_left hS
  have hSf : ∀ G, (A ++ G)[si]? = some (O.ins 0 [(0, .int S.d), (1, .int S.r), (2, .int S.f), (3, .int S.b), (4, .int S.u), (5, .int S.fr), (6, .int S.fu), (7, .int S.ff), (8, .int S.fb), (9, .int S.pl)]) := fun G => get_left hS
  have ins : ∀ G, isIns 0 (A ++ G) (.ref si) = true := fun G => isIns_of (hSG G)
  obtain ⟨xd, hxd⟩ : ∃ xd, xd = ((rg S.d (fun i => 8 + i)).map cl8).map tupK := ⟨_, rfl⟩
  obtain ⟨xr, hxr⟩ : ∃ xr, xr = ((rg S.r (fun i => 8 * S.fr + i)).map cl8).map tupK := ⟨_, rfl⟩
  obtain ⟨xu, hxu⟩ : ∃ xu, xu = ((rg S.u (fun i => 8 * S.fu + i)).map cl8).map tupK := ⟨_, rfl⟩
  obtain ⟨xf, hxf⟩ : ∃ xf, xf = ((rg S.f (fun i => 8 * (S.ff + i))).map cl8).map tupK := ⟨_, rfl⟩
  obtain ⟨xb, hxb⟩ : ∃ xb, xb = ((rg S.b (fun i => 8 * (S.fb + i))).map cl8).map tupK := ⟨_, rfl⟩
  have lxd : xd.length ≤ 40 := by rw [hxd, rgl]; omega
  have lxr : xr.length ≤ 60 := by rw [hxr, rgl]; omega
  have lxu : xu.length ≤ 4 := by rw [hxu, rgl]; omega
  have lxf : xf.length ≤ 40 := by rw [hxf, rgl]; omega
  have lxb : xb.length ≤ 200 := by rw [hxb, rgl]; omega
  have eall : (ceK S).map tupK = [D.tup [.int 0, .int 0]] ++ (xd ++ xr ++ xu) ++ xf ++ xb := by
    rw [hxd, hxr, hxu, hxf, hxb]
    unfold ceK msS
    simp only [List.map_append, List.map_cons, List.map_nil]
    rfl
  have cd : ∀ G (E1 : Option D), kLc (gName 2) tYes (eM 0 (cl F_Shape_dir_cell []) (eVar 0) (aCons (eVar 2) aNil)) [some (.ref si), E1, none] (.seq (upto 0 S.d.toNat)) (A ++ G) = .ok (.ref (A ++ G).length) ((A ++ G) ++ [.lst xd]) := fun G E1 => by
    rw [hxd]
    refine cells_lc (by omega) (by omega) fun m G2 m0 m1 => ?_
    have e1 : (8 + m) / 8 = 1 + m / 8 := by omega
    have e2 : (8 + m) % 8 = m % 8 := by omega
    rw [tup_cl8, e1, e2, List.append_assoc]
    simp [cl, ins, dir_cell_ok, fd8, fm8']
  have cr : ∀ G (E1 : Option D), kLc (gName 2) tYes (eM 0 (cl F_Shape_row_cell []) (eVar 0) (aCons (eVar 2) aNil)) [some (.ref si), E1, none] (.seq (upto 0 S.r.toNat)) (A ++ G) = .ok (.ref (A ++ G).length) ((A ++ G) ++ [.lst xr]) := fun G E1 => by
    rw [hxr]
    refine cells_lc (by omega) (by omega) fun m G2 m0 m1 => ?_
    have e1 : (8 * S.fr + m) / 8 = S.fr + m / 8 := by omega
    have e2 : (8 * S.fr + m) % 8 = m % 8 := by omega
    rw [tup_cl8, e1, e2, List.append_assoc]
    simp [cl, ins, row_cell_ok (hSG _), fd8, fm8']
  have cu : ∀ G (E1 : Option D), kLc (gName 2) tYes (eM 0 (cl F_Shape_user_cell []) (eVar 0) (aCons (eVar 2) aNil)) [some (.ref si), E1, none] (.seq (upto 0 S.u.toNat)) (A ++ G) = .ok (.ref (A ++ G).length) ((A ++ G) ++ [.lst xu]) := fun G E1 => by
    rw [hxu]
    refine cells_lc (by omega) (by omega) fun m G2 m0 m1 => ?_
    have e1 : (8 * S.fu + m) / 8 = S.fu + m / 8 := by omega
    have e2 : (8 * S.fu + m) % 8 = m % 8 := by omega
    rw [tup_cl8, e1, e2, List.append_assoc]
    simp [cl, ins, user_cell_ok (hSG _), fd8, fm8']
  have cf : ∀ G (E1 : Option D), kLc (gName 2) tYes (eF mkTup (aCons (eM 0 (cl F_Shape_file_plate []) (eVar 0) (aCons (eVar 2) aNil)) (aCons (eC (.int 0)) aNil))) [some (.ref si), E1, none] (.seq (upto 0 S.f.toNat)) (A ++ G) = .ok (.ref (A ++ G).length) ((A ++ G) ++ [.lst xf]) := fun G E1 => by
    rw [hxf]
    refine cells_lc (by omega) (by omega) fun m G2 m0 m1 => ?_
    have e1 : (8 * (S.ff + m)) / 8 = S.ff + m := by omega
    have e2 : (8 * (S.ff + m)) % 8 = 0 := by omega
    rw [tup_cl8, e1, e2, List.append_assoc]
    simp [cl, ins, file_plate_ok (hSG _), line]
  have cb : ∀ G (E1 : Option D), kLc (gName 2) tYes (eF mkTup (aCons (eM 0 (cl F_Shape_block_plate []) (eVar 0) (aCons (eVar 2) aNil)) (aCons (eC (.int 0)) aNil))) [some (.ref si), E1, none] (.seq (upto 0 S.b.toNat)) (A ++ G) = .ok (.ref (A ++ G).length) ((A ++ G) ++ [.lst xb]) := fun G E1 => by
    rw [hxb]
    refine cells_lc (by omega) (by omega) fun m G2 m0 m1 => ?_
    have e1 : (8 * (S.fb + m)) / 8 = S.fb + m := by omega
    have e2 : (8 * (S.fb + m)) % 8 = 0 := by omega
    rw [tup_cl8, e1, e2, List.append_assoc]
    simp [cl, ins, block_plate_ok (hSG _), line]
  rw [eall]
  have hSf0 : A[si]? = some (O.ins 0 [(0, .int S.d), (1, .int S.r), (2, .int S.f), (3, .int S.b), (4, .int S.u), (5, .int S.fr), (6, .int S.fu), (7, .int S.ff), (8, .int S.fb), (9, .int S.pl)]) := hS
  have sd := small_of (show 0 ≤ S.d by omega) (by omega)
  have sr := small_of (show 0 ≤ S.r by omega) (by omega)
  have su := small_of (show 0 ≤ S.u by omega) (by omega)
  have sf := small_of (show 0 ≤ S.f by omega) (by omega)
  have sb := small_of (show 0 ≤ S.b by omega) (by omega)
  have bdx : ∀ xs : List (List L2.Key), (O.lst (xs.map tupK)).bd A.length = true := fun xs => by
    show bdAll A.length _ = true
    rw [bdAll_iff]
    intro d hd
    obtain ⟨x, _, rfl⟩ := List.mem_map.mp hd
    exact keyT_bd (keyT_tupK x)
  have bdl := bdx (ceK S)
  rw [eall] at bdl
  clear hxd hxr hxu hxf hxb eall
  have c1 := cd [] none
  rw [List.append_nil] at c1
  have c2 := cr [.lst xd] none
  have a1 := add_lst (B := A ++ [O.lst xd, .lst xr]) (i := A.length) (j := A.length + 1) (xs := xd) (ys := xr) (by rw [get_last]) (by rw [ix_right]; rfl) (by omega)
  refine sat_eq (sat_def rfl ?_)
  simp only [b_L_cells_of, startE]
  refine seq_sat (fun E B => E = [some (.ref si), some (.ref (A.length + 2)), none] ∧ B = A ++ [.lst xd, .lst xr, .lst (xd ++ xr)]) ?_ ?_
  · simp at c1 c2 a1
    simp [hSf0, hSf, sd, sr, c1, c2, a1]
  rintro E B ⟨rfl, rfl⟩
  have c3 := cu [.lst xd, .lst xr, .lst (xd ++ xr)] (some (.ref (A.length + 2)))
  have a3 := iadd_lst (A := A ++ [O.lst xd, .lst xr, .lst (xd ++ xr), .lst xu]) (i := A.length + 2) (j := A.length + 3) (xs := xd ++ xr) (ys := xu) (by rw [ix_right]; rfl) (by rw [ix_right]; rfl) (by rw [List.length_append]; omega)
  rw [set_right] at a3
  refine seq_sat (fun E B => E = [some (.ref si), some (.ref (A.length + 2)), none] ∧ B = A ++ [.lst xd, .lst xr, .lst (xd ++ xr ++ xu), .lst xu]) ?_ ?_
  · have a3' : opIAdd [D.ref (A.length + 2), D.ref (A.length + 3)] (A ++ [O.lst xd, .lst xr, .lst (xd ++ xr), .lst xu]) = .ok (.ref (A.length + 2)) (A ++ [.lst xd, .lst xr, .lst (xd ++ xr ++ xu), .lst xu]) := a3
    simp at c3 a3'
    simp [hSf, su, c3, a3']
  rintro E B ⟨rfl, rfl⟩
  obtain ⟨P, hP⟩ : ∃ P, P = xd ++ xr ++ xu := ⟨_, rfl⟩
  have lP : P.length ≤ 104 := by rw [hP, List.length_append, List.length_append]; omega
  rw [← hP] at bdl ⊢
  obtain ⟨R3, hR3⟩ : ∃ R3, R3 = D.tup [.int 0, .int 0] :: P := ⟨_, rfl⟩
  have e3 : [D.tup [.int 0, .int 0]] ++ P = R3 := hR3.symm
  have l3 : R3.length ≤ 105 := by rw [hR3, List.length_cons]; omega
  rw [e3] at bdl ⊢
  have l2 : (R3 ++ xf).length ≤ 145 := by rw [List.length_append]; omega
  have b2 := cf [.lst xd, .lst xr, .lst P, .lst xu, .lst [D.tup [.int 0, .int 0]], .lst R3] (some (.ref (A.length + 2)))
  have b4 := cb [.lst xd, .lst xr, .lst P, .lst xu, .lst [D.tup [.int 0, .int 0]], .lst R3, .lst xf, .lst (R3 ++ xf)] (some (.ref (A.length + 2)))
  have gq := gc_new (A := A) (G := [.lst xd, .lst xr, .lst P, .lst xu, .lst [D.tup [.int 0, .int 0]], .lst R3, .lst xf, .lst (R3 ++ xf), .lst xb, .lst (R3 ++ xf ++ xb)]) (j := 9) rfl rfl bdl
  have ck := clock_cell_ok (A := A ++ [O.lst xd, .lst xr, .lst P, .lst xu]) (s := si)
  have ins4 := ins [.lst xd, .lst xr, .lst P, .lst xu]
  simp at b2 b4 gq
  simp [cl, ins4, ck, line, hSf, sf, sb]
  rw [← hR3]
  refine ⟨fun _ => ?_, by omega⟩
  simp [b2, hSf, sf, sb]
  have q1 : R3.length + xf.length ≤ line := by omega
  have q2 : R3.length + (xf.length + xb.length) ≤ line := by omega
  have q3 : R3.length + xf.length + xb.length ≤ line := by omega
  simp [q1, q2, q3, b4, hSf, sf, sb]
  rw [gq]
  exact ⟨rfl, rfl⟩
end
end Lw
set_option Elab.async false
set_option linter.all false
set_option maxRecDepth 100000
set_option maxHeartbeats 4000000
/-! Unlike ones; shapes that are refused (own work). -/
namespace Lw
open PySem DL STX
theorem ev_mkDit0 (A : AH) : mkDit [] A = .ok (.ref A.length) (A ++ [.dit []]) := rfl
section
variable {A : AH} {i : Nat}
theorem put_dit {B : AH} {j : Nat} {ks : List (List L2.Key)} {k : List L2.Key} (h : B[j]? = some (.dit (dtD ks))) (l : ks.length < 1000) : stPut (.ref j) (tupK k) (.bl true) B = some (B.set j (.dit (dtD (insT ks k)))) := by
  show putO j (tupK k) (.bl true) B B[j]? = _
  rw [h]
  show (if (keyT (tupK k)).isSome = true ∧ (dtD ks).length < line then some (B.set j (.dit (putF' keyT (dtD ks) (tupK k) (.bl true)))) else none) = _
  rw [if_pos ⟨by rw [keyT_tupK]; rfl, by simp only [dtD, List.length_map, line]; omega⟩, putF_dtD]
theorem L_unlike_ok {kss : List (List L2.Key)} (hi : A[i]? = some (.lst (kss.map tupK))) (hl : kss.length < 1000) (nd : kss.Nodup) (ft : fitA kss = true) :
    F_L_unlike [.ref i] A = .ok (.ref A.length) (A ++ [.lst ((sortK kss).map tupK)]) := by
  refine sat_eq (sat_def rfl ?_)
  simp only [b_L_unlike, startE]
  refine seq_sat (fun E B => E = [some (.ref i), some (.ref A.length), none] ∧ B = A ++ [.dit []]) (by simp [ev_mkDit0]) ?_
  rintro E B ⟨rfl, rfl⟩
  have ndk : ∀ k, (kss.take k).Nodup := fun k => nd.sublist (List.take_sublist k kss)
  refine seq_sat (fun E B => (∃ e2, E = [some (.ref i), some (.ref A.length), e2]) ∧ B = A ++ [.dit (dtD kss)]) ?_ ?_
  · have hs : ∀ G, seqO (A ++ G)[i]? = some (kss.map tupK) := fun G => by rw [get_left hi]; rfl
    have hg : (A ++ [O.dit []])[i]? = some (.lst (kss.map tupK)) := get_left hi
    simp [hg]
    refine for_sat kss.length (fun k E B => (∃ e2, E = [some (.ref i), some (.ref A.length), e2]) ∧ B = A ++ [.dit (dtD (kss.take k))]) (by rw [size_lst (hs _)]; simp) ⟨⟨_, rfl⟩, by simp [dtD]⟩ ?_ ?_
    · rintro k E B hk ⟨⟨e2, rfl⟩, rfl⟩
      obtain ⟨q, hq⟩ : ∃ q, kss[k]? = some q := ⟨_, List.getElem?_eq_getElem hk⟩
      refine ⟨tupK q, by rw [at_lst (hs _), List.getElem?_map, hq]; rfl, tsat_of ?_⟩
      have hp := put_dit (B := A ++ [O.dit (dtD (kss.take k))]) (j := A.length) (k := q) get_last (by rw [List.length_take]; omega)
      have ei : insT (kss.take k) q = kss.take (k + 1) := by
        have h1 := insTs_nd (ndk (k + 1))
        have h2 := insTs_nd (ndk k)
        rw [List.take_add_one, hq, Option.toList_some, insTs_snoc, h2] at h1
        rw [h1, List.take_add_one, hq]
        rfl
      rw [ei, set_last] at hp
      generalize tupK q = tq at hp ⊢
      simp only [ev_gName, only_nx, seq_nx]
      have hp2 : putO A.length tq (.bl true) (A ++ [O.dit (dtD (kss.take k))]) (A ++ [O.dit (dtD (kss.take k))])[A.length]? = some (A ++ [.dit (dtD (kss.take (k + 1)))]) := hp
      generalize A ++ [O.dit (dtD (kss.take k))] = Z at hp hp2 ⊢
      generalize A ++ [O.dit (dtD (kss.take (k + 1)))] = Z2 at hp hp2 ⊢
      simp [-ev_stPut, hp]
    · rintro E B ⟨⟨e2, rfl⟩, rfl⟩
      refine ⟨by rw [at_lst (hs _), List.getElem?_eq_none (by simp)]; rfl, ⟨_, rfl⟩, ?_⟩
      rw [List.take_length]
  rintro E B ⟨⟨e2, rfl⟩, rfl⟩
  have es := ev_sortKd (A := A ++ [O.dit (dtD kss)]) (i := A.length) (kvs := dtD kss) (kss := kss) get_last (by unfold dtD; rw [List.map_map]; rfl) ft
  have bdl : (O.lst ((sortK kss).map tupK)).bd A.length = true := by
    show bdAll A.length _ = true
    rw [bdAll_iff]
    intro d hd
    obtain ⟨x, _, rfl⟩ := List.mem_map.mp hd
    exact keyT_bd (keyT_tupK x)
  have gq := gc_new (A := A) (G := [.dit (dtD kss), .lst ((sortK kss).map tupK)]) (j := 1) rfl rfl bdl
  have e1 : (A ++ [O.dit (dtD kss)]).length = A.length + 1 := by simp
  have e2 : A ++ [O.dit (dtD kss)] ++ [.lst ((sortK kss).map tupK)] = A ++ [.dit (dtD kss), .lst ((sortK kss).map tupK)] := by simp
  rw [e1, e2] at es
  simp [es, gq]
end
end Lw
set_option Elab.async false
set_option linter.all false
set_option maxRecDepth 100000
set_option maxHeartbeats 4000000
/-! The law's statements, the first ones (own work). -/
namespace Lw
open PySem DL STX
section
variable {ns : List Int} {A B C : AH} {S : Sh} {si ci : Nat} {E : DL.Env} {R : D → AH → Prop}
theorem L_is_refused_ok {bi : Nat} {w : Str} {d0 d1 d2 d3 d4 : D} (hb : A[bi]? = some (.lst [d0, d1, d2, d3, d4])) (p0 : Plain d0) (p1 : Plain d1) (p2 : Plain d2) (p3 : Plain d3) (p4 : Plain d4) (hf : first (nms d0 d1 d2 d3 d4) = some w) (hw : (PyData.str w).canLay0 = true) :
    F_L_is_refused [.ref bi, .str w] A = .ok (.bl true) A := by
  have hi := shape_init_bad (A := A) p0 p1 p2 p3 p4 hf
  have a0 : atD [d0, d1, d2, d3, d4] 0 = some d0 := rfl
  have a1 : atD [d0, d1, d2, d3, d4] 1 = some d1 := rfl
  have a2 : atD [d0, d1, d2, d3, d4] 2 = some d2 := rfl
  have a3 : atD [d0, d1, d2, d3, d4] 3 = some d3 := rfl
  have a4 : atD [d0, d1, d2, d3, d4] 4 = some d4 := rfl
  have eq : opEqX [.str w, .str w] (A ++ [O.ins 0 []]) = .ok (.bl true) (A ++ [O.ins 0 []]) := eqX_pur (by simp [D.pur, hw]) rfl
  refine sat_eq (sat_def rfl ?_)
  simp only [b_L_is_refused, startE]
  rw [ev_sSeq, ev_sTryAs]
  have em : (sDrop (eF (mkIns 0 (cl F_Shape_init [])) (aCons (eF opIx (aCons (eVar 0) (aCons (eC (.int 0)) aNil))) (aCons (eF opIx (aCons (eVar 0) (aCons (eC (.int 1)) aNil))) (aCons (eF opIx (aCons (eVar 0) (aCons (eC (.int 2)) aNil))) (aCons (eF opIx (aCons (eVar 0) (aCons (eC (.int 3)) aNil))) (aCons (eF opIx (aCons (eVar 0) (aCons (eC (.int 4)) aNil))) aNil))))))) [some (.ref bi), some (.str w), none] A = .exc (bX w) [some (.ref bi), some (.str w), none] (A ++ [.ins 0 []]) := by
    simp [hb, a0, a1, a2, a3, a4, cl, hi]
  have em' : (sDrop (eF (mkIns 0 (cl F_Shape_init [])) (aCons (eF opIx (aCons (eVar 0) (aCons (eC (.int 0)) aNil))) (aCons (eF opIx (aCons (eVar 0) (aCons (eC (.int 1)) aNil))) (aCons (eF opIx (aCons (eVar 0) (aCons (eC (.int 2)) aNil))) (aCons (eF opIx (aCons (eVar 0) (aCons (eC (.int 3)) aNil))) (aCons (eF opIx (aCons (eVar 0) (aCons (eC (.int 4)) aNil))) aNil))))))) (([D.ref bi, D.str w].map some) ++ List.replicate (3 - [D.ref bi, D.str w].length) none) A = .exc (bX w) [some (.ref bi), some (.str w), none] (A ++ [.ins 0 []]) := em
  rw [em']
  unfold bX
  rw [tryK_exc _ _ _ _ _ _ (by simp)]
  simp [-ev_eqX, eq]
  rw [gc_app _ (by simp)]
  exact ⟨rfl, rfl⟩
/-! the law's heap -/
structure HP (ns : List Int) (S : Sh) (si : Nat) (A : AH) : Prop where
  drw : Drw ns A
  sh : A[si]? = some (shO S)
  ok : S.Ok
theorem HP.app (l : HP ns S si A) (G : AH) : HP ns S si (A ++ G) := ⟨l.drw.app G, get_left l.sh, l.ok⟩
theorem HP.nx (l : HP ns S si A) (y : Nx1 A B) : HP ns S si B := ⟨l.drw.nx y, (y.get (shape_ne1 l.drw l.sh)).trans l.sh, l.ok⟩
def P1 (ns : List Int) (E : DL.Env) (A : AH) : Prop := E = [some (.ref 0), some (.ref 1), none, none, none, none, none, none, none, none, none] ∧ A = [.rol (ns.map D.int), .lst [.ref 0, .int 0]]
def P2 (ns : List Int) (E : DL.Env) (A : AH) : Prop := ∃ (S : Sh) (si : Nat), E = [some (.ref 0), some (.ref 1), some (.ref si), none, none, none, none, none, none, none, none] ∧ HP ns S si A
def P3 (ns : List Int) (E : DL.Env) (A : AH) : Prop := ∃ (S : Sh) (si ci : Nat), E = [some (.ref 0), some (.ref 1), some (.ref si), some (.ref ci), none, none, none, none, none, none, none] ∧ HP ns S si A ∧ A[ci]? = some (.lst ((ceK S).map tupK))
def P4 (ns : List Int) (E : DL.Env) (A : AH) : Prop := ∃ (S : Sh) (si : Nat) (e3 : Option D), E = [some (.ref 0), some (.ref 1), some (.ref si), e3, none, none, none, none, none, none, none] ∧ HP ns S si A
theorem s0 : (st_law_0 [some (.ref 0), none, none, none, none, none, none, none, none, none, none] [.rol (ns.map D.int)]).sat (P1 ns) R := by
  unfold st_law_0
  simp [line]
  exact ⟨rfl, rfl⟩
theorem s1 (h : P1 ns E A) : (st_law_1 E A).sat (P2 ns) R := by
  obtain ⟨rfl, rfl⟩ := h
  have hD : Drw ns [O.rol (ns.map D.int), .lst [.ref 0, .int 0]] := ⟨rfl, 0, by omega, rfl⟩
  unfold st_law_1
  simp [cl]
  refine (take_sat hD (by decide)).mono ?_
  rintro v B ⟨⟨v0, rfl, a0, a1⟩, y⟩
  have hD := hD.nx y
  simp
  refine (take_sat hD (by decide)).mono ?_
  rintro v B ⟨⟨v1, rfl, b0, b1⟩, y⟩
  have hD := hD.nx y
  simp
  refine (take_sat hD (by decide)).mono ?_
  rintro v B ⟨⟨v2, rfl, c0, c1⟩, y⟩
  have hD := hD.nx y
  simp
  refine (take_sat hD (by decide)).mono ?_
  rintro v B ⟨⟨v3, rfl, d0, d1⟩, y⟩
  have hD := hD.nx y
  simp
  refine (take_sat hD (by decide)).mono ?_
  rintro v B ⟨⟨v4, rfl, e0, e1⟩, y⟩
  have hD := hD.nx y
  obtain ⟨S, hS⟩ : ∃ S : Sh, S = ⟨2 + v0, 1 + v1, 1 + v2, 1 + v3, 1 + v4⟩ := ⟨_, rfl⟩
  have o : S.Ok := by
    rw [hS]
    constructor <;> (simp only; omega)
  have q := shape_init_ok (A := B) o
  rw [show S.d = 2 + v0 from by rw [hS], show S.r = 1 + v1 from by rw [hS], show S.f = 1 + v2 from by rw [hS], show S.b = 1 + v3 from by rw [hS], show S.u = 1 + v4 from by rw [hS]] at q
  simp [q]
  exact ⟨S, B.length, rfl, hD.app _, get_last, o⟩
theorem s2 (h : P2 ns E A) : (st_law_2 E A).sat (P3 ns) R := by
  obtain ⟨S, si, rfl, hp⟩ := h
  have q := L_cells_of_ok hp.sh hp.ok
  unfold st_law_2
  simp [cl, q]
  exact ⟨S, si, A.length, rfl, hp.app _, get_last⟩
end
end Lw
set_option Elab.async false
set_option linter.all false
set_option maxRecDepth 100000
set_option maxHeartbeats 4000000
/-! The law's statements: places and spots (own work). -/
namespace Lw
open PySem DL STX
theorem atD_last {xs : List D} {d : D} : atD (xs ++ [d]) (-1) = some d := by
  unfold atD ixD
  have l : (xs ++ [d]).length = xs.length + 1 := by simp
  rw [l]
  rw [if_neg (by omega), if_pos (by omega)]
  show (xs ++ [d])[_]? = some d
  have : ((-1 : Int) + ((xs.length + 1 : Nat) : Int)).toNat = xs.length := by omega
  first
    | (rw [this]; simp)
    | simp
theorem rg_last {n : Int} {f : Int → Int} (h : 1 ≤ n) : rg n f = rg (n - 1) f ++ [f (n - 1)] := by
  unfold rg
  have e : n.toNat = (n - 1).toNat + 1 := by omega
  rw [e, List.range_succ, List.map_append]
  have e2 : (((n - 1).toNat : Nat) : Int) = n - 1 := by omega
  rw [List.map_cons, List.map_nil, e2]
theorem ceK_last {S : Sh} (o : S.Ok) : ∃ xs, (ceK S).map tupK = xs ++ [.tup [.int (S.pl - 1), .int 0]] := by
  have b0 := o.b0
  have a := o.pl
  have e1 : (8 * (S.fb + (S.b - 1))) / 8 = S.pl - 1 := by omega
  have e2 : (8 * (S.fb + (S.b - 1))) % 8 = 0 := by omega
  obtain ⟨M, hM⟩ : ∃ M, msS S = M ++ [8 * (S.fb + (S.b - 1))] := by
    unfold msS
    rw [rg_last (n := S.b) b0, ← List.append_assoc]
    exact ⟨_, rfl⟩
  unfold ceK
  rw [hM, List.map_append, List.map_append]
  refine ⟨(M.map cl8).map tupK, ?_⟩
  show _ ++ [tupK (cl8 _)] = _
  rw [tup_cl8, e1, e2]
/-! spots -/
def spK (n : Nat) : List L2.Key := (spot n).map fun (i : Nat) => (.inl (i : Int) : L2.Key)
theorem tup_spK (n : Nat) : tupK (spK n) = .tup (sD (spot n)) := by
  unfold tupK spK sD
  rw [List.map_map]
  rfl
def spL : List (List L2.Key) := (List.range 75).map spK
theorem spots_nd : ((List.range 75).map spot).Nodup := by decide +kernel
theorem spK_inj {l m : List Nat} (h : (l.map fun (i : Nat) => (.inl (i : Int) : L2.Key)) = m.map fun (i : Nat) => (.inl (i : Int) : L2.Key)) : l = m := by
  induction l generalizing m with
  | nil =>
    cases m with
    | nil => rfl
    | cons _ _ => cases h
  | cons a l ih =>
    cases m with
    | nil => cases h
    | cons b m =>
      rw [List.map_cons, List.map_cons] at h
      injection h with h1 h2
      injection h1 with h1
      rw [ih h2]
      congr 1
      omega
theorem spL_nd : spL.Nodup := by
  have q := spots_nd
  unfold List.Nodup at q ⊢
  unfold spL
  rw [List.pairwise_map] at q ⊢
  refine q.imp ?_
  intro a b h e
  exact h (spK_inj e)
theorem spL_fit : fitA spL = true := by decide +kernel
theorem spL_len : spL.length = 75 := by simp [spL]
section
variable {ns : List Int} {A B C : AH} {S : Sh} {si ci : Nat} {E : DL.Env} {R : D → AH → Prop}
theorem sK_len (kss : List (List L2.Key)) : (sortK kss).length = kss.length := (sortK_perm kss).length_eq
theorem s3 (h : P3 ns E A) : (st_law_3 E A).sat (P4 ns) R := by
  obtain ⟨S, si, ci, rfl, hp, hc⟩ := h
  have o := hp.ok
  have lc := ceK_len S
  have l9 : (ceK S).length < 1000 := by
    have := o.d1; have := o.r1; have := o.u1; have := o.f1; have := o.b1
    omega
  have es := ev_sortK (A := A) (i := ci) (kss := ceK S) (by rw [hc]; rfl) (cl8_fit _)
  rw [ceK_sort o] at es
  have n1 : opNeX [.ref ci, .ref A.length] (A ++ [O.lst ((ceK S).map tupK)]) = .ok (.bl false) (A ++ [O.lst ((ceK S).map tupK)]) := by
    have pu : purs 59 ((ceK S).map tupK) = true := by
      unfold ceK
      rw [List.map_map]
      generalize msS S = ms
      induction ms with
      | nil => rfl
      | cons m ms ih =>
        rw [List.map_cons]
        simp only [purs_cons, ih, Bool.and_true]
        show (tupK (cl8 m)).pur 59 = true
        rw [tup_cl8]
        simp
    exact ne_same pu (get_left hc) get_last
  have eu := L_unlike_ok (A := A ++ [O.lst ((ceK S).map tupK)]) (i := ci) (kss := ceK S) (get_left hc) l9 (cl8_up (msS_up o)).2 (cl8_fit _)
  rw [ceK_sort o] at eu
  obtain ⟨xs, hxs⟩ := ceK_last o
  obtain ⟨L, hL⟩ : ∃ L, L = (ceK S).map tupK := ⟨_, rfl⟩
  rw [← hL] at es n1 eu hxs hc
  have hcX : ∀ X, (A ++ X)[ci]? = some (.lst L) := fun X => get_left hc
  have hl1 : atD L (-1) = some (.tup [.int (S.pl - 1), .int 0]) := by rw [hxs]; exact atD_last
  have t0 : ∀ B : AH, opIx [.tup [.int (S.pl - 1), .int 0], .int 0] B = .ok (.int (S.pl - 1)) B := fun _ => rfl
  have hS' : ∀ X, (A ++ X)[si]? = some (O.ins 0 [(0, .int S.d), (1, .int S.r), (2, .int S.f), (3, .int S.b), (4, .int S.u), (5, .int S.fr), (6, .int S.fu), (7, .int S.ff), (8, .int S.fb), (9, .int S.pl)]) := fun X => get_left hp.sh
  have eu' : F_L_unlike [.ref ci] (A ++ [O.lst L]) = .ok (.ref (A.length + 1)) (A ++ [O.lst L, O.lst L]) := by
    rw [eu]
    simp
  have hu : (A ++ [O.lst L, O.lst L])[A.length + 1]? = some (.lst L) := by rw [ix_right]; rfl
  have n2 := ne_int (A ++ [O.lst L, O.lst L]) (L.length : Int)
  have n3 := ne_int (A ++ [O.lst L, O.lst L]) (S.pl - 1)
  have hp2 := hp.app [O.lst L, O.lst L]
  unfold st_law_3
  simp [-ev_neX, hc, es, n1, cl, eu', hu, hcX, n2, hl1, t0, hS', n3]
  exact ⟨S, si, _, rfl, hp2⟩
theorem s4 (h : P4 ns E A) : (st_law_4 E A).sat (P4 ns) R := by
  obtain ⟨S, si, e3, rfl, hp⟩ := h
  have q := lc_map (src := .seq (upto 0 75)) (g := gName 9) (e := eF (cl F_spot_of []) (aCons (eVar 9) aNil)) (E := [some (.ref 0), some (.ref 1), some (.ref si), e3, none, none, none, none, none, none, none]) (A := A) (ds := upto 0 75)
    (fun d => [some (.ref 0), some (.ref 1), some (.ref si), e3, none, none, none, none, none, some d, none]) (fun d => match d with
    | .int m => tupK (spK m.toNat)
    | _ => .non) (by rw [upto_len]; unfold line; omega) rfl (fun _ _ => rfl) (fun d hd G => rfl) (fun d hd G => by
      obtain ⟨i, hi, rfl⟩ := List.mem_map.mp hd
      have hs := spot_of_ok (A := A ++ G) (n := i)
      rw [← tup_spK] at hs
      have e1 : (0 + (i : Int)).toNat = i := by omega
      have e2 : (i : Int) = 0 + (i : Int) := by omega
      rw [e2] at hs
      obtain ⟨j, hj⟩ : ∃ j : Int, j = 0 + (i : Int) := ⟨_, rfl⟩
      rw [← hj] at hs e1 ⊢
      simp only []
      rw [e1]
      generalize tupK (spK i) = T at hs ⊢
      simp [cl, hs])
  have e2 : (upto 0 75).map (fun d => match d with
    | .int m => tupK (spK m.toNat)
    | _ => .non) = spL.map tupK := by
    unfold upto spL
    rw [List.map_map, List.map_map]
    refine List.map_congr_left fun i _ => ?_
    show tupK (spK (0 + (i : Int)).toNat) = tupK (spK i)
    have e1 : (0 + (i : Int)).toNat = i := by omega
    rw [e1]
  rw [e2] at q
  have eu := L_unlike_ok (A := A ++ [O.lst (spL.map tupK)]) (i := A.length) (kss := spL) get_last (by rw [spL_len]; omega) spL_nd spL_fit
  have eL : ((sortK spL).map tupK).length = 75 := by rw [List.length_map, sK_len, spL_len]
  generalize spL.map tupK = L at q eu
  generalize (sortK spL).map tupK = L2 at eu eL
  have eu' : F_L_unlike [.ref A.length] (A ++ [O.lst L]) = .ok (.ref (A.length + 1)) (A ++ [O.lst L, O.lst L2]) := by
    rw [eu]
    simp
  have hu : (A ++ [O.lst L, O.lst L2])[A.length + 1]? = some (.lst L2) := by rw [ix_right]; rfl
  have n2 := ne_int (A ++ [O.lst L, O.lst L2]) 75
  have hp2 := hp.app [O.lst L, O.lst L2]
  unfold st_law_4
  simp [-ev_neX, small_of (show (0 : Int) ≤ 75 by omega) (by omega), q, cl, eu', hu, eL, n2]
  exact ⟨S, si, _, rfl, hp2⟩
end
end Lw
set_option Elab.async false
set_option linter.all false
set_option maxRecDepth 100000
set_option maxHeartbeats 4000000
/-! The law's statements: shapes made anew and refused (own work). -/
namespace Lw
open PySem DL STX
section
variable {ns : List Int} {A B C : AH} {S : Sh} {si ci : Nat} {E : DL.Env} {R : D → AH → Prop}
def P5 (ns : List Int) (E : DL.Env) (A : AH) : Prop := ∃ (S : Sh) (si : Nat) (e3 : Option D), E = [some (.ref 0), some (.ref 1), some (.ref si), e3, some (.tup [.int S.d, .int S.r, .int S.f, .int S.b, .int S.u]), none, none, none, none, none, none] ∧ HP ns S si A
def P7 (ns : List Int) (E : DL.Env) (A : AH) : Prop := ∃ (S : Sh) (si : Nat) (e3 e4 : Option D) (a : Int), E = [some (.ref 0), some (.ref 1), some (.ref si), e3, e4, some (.int a), none, none, none, none, none] ∧ HP ns S si A ∧ 0 ≤ a ∧ a < 5
def P8 (ns : List Int) (E : DL.Env) (A : AH) : Prop := ∃ (S : Sh) (si bi : Nat) (e3 e4 : Option D) (a : Int), E = [some (.ref 0), some (.ref 1), some (.ref si), e3, e4, some (.int a), some (.ref bi), none, none, none, none] ∧ HP ns S si A ∧ 0 ≤ a ∧ a < 5 ∧ A[bi]? = some (.lst [.int 2, .int 1, .int 1, .int 1, .int 1])
def wds : List D := [.str "dirs", .str "rows", .str "files", .str "blocks", .str "users"]
structure Bad5 (a : Int) (v d0 d1 d2 d3 d4 : D) (w : Str) : Prop where
  p0 : Plain d0
  p1 : Plain d1
  p2 : Plain d2
  p3 : Plain d3
  p4 : Plain d4
  fst : (a = 3 ∧ v = .int 61) ∨ (first (nms d0 d1 d2 d3 d4) = some w ∧ (PyData.str w).canLay0 = true)
  wd : atD wds a = some (.str w)
  at_ : atD [d0, d1, d2, d3, d4] a = some v
  pu : (D.tup [.int a, v]).pur 60 = true
def P9 (ns : List Int) (E : DL.Env) (A : AH) : Prop := ∃ (S : Sh) (si bi : Nat) (e3 e4 : Option D) (a : Int) (v d0 d1 d2 d3 d4 : D) (w : Str), E = [some (.ref 0), some (.ref 1), some (.ref si), e3, e4, some (.int a), some (.ref bi), none, none, none, none] ∧ HP ns S si A ∧ A[bi]? = some (.lst [d0, d1, d2, d3, d4]) ∧ Bad5 a v d0 d1 d2 d3 d4 w
def P10 (ns : List Int) (E : DL.Env) (A : AH) : Prop := ∃ (S : Sh) (si : Nat) (e3 e4 e5 e6 : Option D), E = [some (.ref 0), some (.ref 1), some (.ref si), e3, e4, e5, e6, none, none, none, none] ∧ HP ns S si A
theorem s5 (h : P4 ns E A) : (st_law_5 E A).sat (P5 ns) R := by
  obtain ⟨S, si, e3, rfl, hp⟩ := h
  unfold st_law_5
  simp [cl, isIns_of hp.sh, told_ok hp.sh]
  exact ⟨S, si, _, rfl, hp⟩
theorem s6 (h : P5 ns E A) : (st_law_6 E A).sat (P5 ns) R := by
  obtain ⟨S, si, e3, rfl, hp⟩ := h
  have q := shape_init_ok (A := A) hp.ok
  have hsA : (A ++ [shO S])[si]? = some (shO S) := get_left hp.sh
  have hsB : (A ++ [shO S])[A.length]? = some (shO S) := get_last
  have hp2 := hp.app [shO S]
  have ne := ev_neOwn (isIns_of hsA) (isIns_of hsB) (eq_ok hsA hsB)
  have t0 : ∀ B : AH, opIx [.tup [.int S.d, .int S.r, .int S.f, .int S.b, .int S.u], .int 0] B = .ok (.int S.d) B := fun _ => rfl
  have t1 : ∀ B : AH, opIx [.tup [.int S.d, .int S.r, .int S.f, .int S.b, .int S.u], .int 1] B = .ok (.int S.r) B := fun _ => rfl
  have t2 : ∀ B : AH, opIx [.tup [.int S.d, .int S.r, .int S.f, .int S.b, .int S.u], .int 2] B = .ok (.int S.f) B := fun _ => rfl
  have t3 : ∀ B : AH, opIx [.tup [.int S.d, .int S.r, .int S.f, .int S.b, .int S.u], .int 3] B = .ok (.int S.b) B := fun _ => rfl
  have t4 : ∀ B : AH, opIx [.tup [.int S.d, .int S.r, .int S.f, .int S.b, .int S.u], .int 4] B = .ok (.int S.u) B := fun _ => rfl
  unfold st_law_6
  simp [cl, t0, t1, t2, t3, t4, q, ne]
  exact ⟨S, si, _, rfl, hp2⟩
theorem s7 (h : P5 ns E A) : (st_law_7 E A).sat (P7 ns) R := by
  obtain ⟨S, si, e3, rfl, hp⟩ := h
  unfold st_law_7
  simp [cl]
  refine (take_sat hp.drw (by decide)).mono ?_
  rintro v B ⟨⟨a, rfl, a0, a1⟩, y⟩
  exact ⟨S, si, _, _, a, rfl, hp.nx y, a0, a1⟩
theorem s8 (h : P7 ns E A) : (st_law_8 E A).sat (P8 ns) R := by
  obtain ⟨S, si, e3, e4, a, rfl, hp, a0, a1⟩ := h
  have hp2 := hp.app [.lst [.int 2, .int 1, .int 1, .int 1, .int 1]]
  unfold st_law_8
  simp [line]
  exact ⟨S, si, _, _, _, a, rfl, hp2, a0, a1, get_last⟩
def plB : D → Bool
  | .int _ => true
  | .bl _ => true
  | .str _ => true
  | .non => true
  | _ => false
theorem pl_of : ∀ {d : D}, plB d = true → Plain d
  | .int _, _ => .int _
  | .bl _, _ => .bl _
  | .str _, _ => .str _
  | .non, _ => .non
  | .tup _, h => by cases h
  | .ref _, h => by cases h
theorem c2 : (PyData.str "2").canLay0 = true := by decide +kernel
theorem bad0 {v : D} (hv : v ∈ [D.int 1, .int 41, .non, .bl true]) : ∃ d0 d1 d2 d3 d4 w, [D.int 2, .int 1, .int 1, .int 1, .int 1].set (0 : Int).toNat v = [d0, d1, d2, d3, d4] ∧ Bad5 0 v d0 d1 d2 d3 d4 w := by
  simp only [List.mem_cons, List.not_mem_nil, or_false] at hv
  rcases hv with rfl | rfl | rfl | rfl <;> exact ⟨_, _, _, _, _, "dirs", rfl, pl_of rfl, pl_of rfl, pl_of rfl, pl_of rfl, pl_of rfl, .inr ⟨rfl, by decide +kernel⟩, rfl, rfl, by simp [D.pur]⟩
theorem bad1 {a : Int} {v : D} (a0 : 0 < a) (a1 : a < 5) (hv : v ∈ [D.int 0, .int (-3), .int 201, .int 61, .str "2", .bl true, .non]) : ∃ d0 d1 d2 d3 d4 w, [D.int 2, .int 1, .int 1, .int 1, .int 1].set a.toNat v = [d0, d1, d2, d3, d4] ∧ Bad5 a v d0 d1 d2 d3 d4 w := by
  have : a = 1 ∨ a = 2 ∨ a = 3 ∨ a = 4 := by omega
  simp only [List.mem_cons, List.not_mem_nil, or_false] at hv
  rcases this with rfl | rfl | rfl | rfl
  · rcases hv with rfl | rfl | rfl | rfl | rfl | rfl | rfl <;> exact ⟨_, _, _, _, _, "rows", rfl, pl_of rfl, pl_of rfl, pl_of rfl, pl_of rfl, pl_of rfl, .inr ⟨rfl, by decide +kernel⟩, rfl, rfl, by simp [D.pur, c2]⟩
  · rcases hv with rfl | rfl | rfl | rfl | rfl | rfl | rfl <;> exact ⟨_, _, _, _, _, "files", rfl, pl_of rfl, pl_of rfl, pl_of rfl, pl_of rfl, pl_of rfl, .inr ⟨rfl, by decide +kernel⟩, rfl, rfl, by simp [D.pur, c2]⟩
  · rcases hv with rfl | rfl | rfl | rfl | rfl | rfl | rfl <;> first
      | exact ⟨_, _, _, _, _, "blocks", rfl, pl_of rfl, pl_of rfl, pl_of rfl, pl_of rfl, pl_of rfl, .inr ⟨rfl, by decide +kernel⟩, rfl, rfl, by simp [D.pur, c2]⟩
      | exact ⟨_, _, _, _, _, "blocks", rfl, pl_of rfl, pl_of rfl, pl_of rfl, pl_of rfl, pl_of rfl, .inl ⟨rfl, rfl⟩, rfl, rfl, by simp [D.pur, c2]⟩
  · rcases hv with rfl | rfl | rfl | rfl | rfl | rfl | rfl <;> exact ⟨_, _, _, _, _, "users", rfl, pl_of rfl, pl_of rfl, pl_of rfl, pl_of rfl, pl_of rfl, .inr ⟨rfl, by decide +kernel⟩, rfl, rfl, by simp [D.pur, c2]⟩
end
end Lw
set_option Elab.async false
set_option linter.all false
set_option maxRecDepth 100000
set_option maxHeartbeats 4000000
/-! The law's statements, the last ones (own work). -/
namespace Lw
open PySem DL STX
section
variable {ns : List Int} {A B C : AH} {S : Sh} {si ci : Nat} {E : DL.Env} {R : D → AH → Prop}
theorem pick_new {L : List D} (hp : HP ns S si A) {bi : Nat} {X : O} (hb : A[bi]? = some X) (hX : ∀ n : Int, X ≠ .lst [.ref 0, .int n]) (hL : L ≠ []) (hbd : ∀ n, bdAll n L = true) :
    (F_L_pick [.ref 1, .ref A.length] (A ++ [.lst L])).sat fun d C => d ∈ L ∧ HP ns S si C ∧ C[bi]? = some X := by
  have lt := hp.drw.lt
  refine (pick_sat (hp.app [.lst L]).drw (j := A.length) get_last (by omega) hL (hbd _)).mono ?_
  rintro d C ⟨hd, y⟩
  refine ⟨hd, (hp.app _).nx y, ?_⟩
  obtain ⟨n, _, e1⟩ := hp.drw.d
  refine (y.get fun z => ?_).trans (get_left hb)
  rw [z, e1] at hb
  cases hb
  exact hX n rfl
theorem s9 (h : P8 ns E A) : (st_law_9 E A).sat (P9 ns) R := by
  obtain ⟨S, si, bi, e3, e4, a, rfl, hp, a0, a1, hb⟩ := h
  have hX : ∀ n : Int, (O.lst [.int 2, .int 1, .int 1, .int 1, .int 1]) ≠ .lst [.ref 0, .int n] := fun n e => by simp at e
  have hix : ixD 5 a = some a.toNat := by
    unfold ixD
    rw [if_pos a0, if_pos (by omega)]
  have fin : ∀ (v d0 d1 d2 d3 d4 : D) (w : PySem.Str) (C : AH), HP ns S si C → bi < C.length → bi ≠ 1 → bi ≠ 0 → bi ≠ si → Bad5 a v d0 d1 d2 d3 d4 w → P9 ns [some (.ref 0), some (.ref 1), some (.ref si), e3, e4, some (.int a), some (.ref bi), none, none, none, none] (C.set bi (.lst [d0, d1, d2, d3, d4])) := fun v d0 d1 d2 d3 d4 w C hC hl h1 h0 hs b5 => by
    obtain ⟨n, n0, e1⟩ := hC.drw.d
    exact ⟨S, si, bi, e3, e4, a, v, d0, d1, d2, d3, d4, w, rfl, ⟨⟨by rw [List.getElem?_set_ne h0]; exact hC.drw.s, n, n0, by rw [List.getElem?_set_ne h1]; exact e1⟩, by rw [List.getElem?_set_ne hs]; exact hC.sh, hC.ok⟩, List.getElem?_set_self hl, b5⟩
  have go : ∀ (C : AH) (v : D), HP ns S si C → C[bi]? = some (.lst [.int 2, .int 1, .int 1, .int 1, .int 1]) → (∃ d0 d1 d2 d3 d4 w, [D.int 2, .int 1, .int 1, .int 1, .int 1].set a.toNat v = [d0, d1, d2, d3, d4] ∧ Bad5 a v d0 d1 d2 d3 d4 w) → stIx (.ref bi) (.int a) v C = some (C.set bi (.lst ([D.int 2, .int 1, .int 1, .int 1, .int 1].set a.toNat v))) ∧ P9 ns [some (.ref 0), some (.ref 1), some (.ref si), e3, e4, some (.int a), some (.ref bi), none, none, none, none] (C.set bi (.lst ([D.int 2, .int 1, .int 1, .int 1, .int 1].set a.toNat v))) := by
    rintro C v hC hbC ⟨d0, d1, d2, d3, d4, w, e, b5⟩
    refine ⟨?_, ?_⟩
    · rw [ev_stIx, hbC, ev_setO]
      show (ixD 5 a).map _ = _
      rw [hix]
      rfl
    · rw [e]
      obtain ⟨n, n0, e1⟩ := hC.drw.d
      refine fin v d0 d1 d2 d3 d4 w C hC (List.getElem?_eq_some_iff.mp hbC).1 (fun z => ?_) (fun z => ?_) (fun z => ?_) b5
      · rw [z, e1] at hbC
        simp at hbC
      · have := hC.drw.s
        rw [z, this] at hbC
        simp at hbC
      · have := hC.sh
        rw [z, this] at hbC
        simp [shO] at hbC
  unfold st_law_9
  rw [ev_sAsg, ssat_then]
  generalize P9 ns = P at go ⊢
  by_cases z : 0 < a
  · have q := pick_new (L := [.int 0, .int (-3), .int 201, .int 61, .str "2", .bl true, .non]) hp hb hX (by simp) (fun n => by simp)
    simp [z, line, cl]
    refine q.mono ?_
    rintro v C ⟨hv, hC, hbC⟩
    obtain ⟨g1, g2⟩ := go C v hC hbC (bad1 z a1 hv)
    rw [show setO bi a v C C[bi]? = _ from g1]
    exact g2
  · have az : a = 0 := by omega
    have q := pick_new (L := [.int 1, .int 41, .non, .bl true]) hp hb hX (by simp) (fun n => by simp)
    simp [z, line, cl]
    refine q.mono ?_
    rintro v C ⟨hv, hC, hbC⟩
    obtain ⟨g1, g2⟩ := go C v hC hbC (by rw [az]; exact bad0 hv)
    rw [show setO bi a v C C[bi]? = _ from g1]
    exact g2
theorem s10 (h : P9 ns E A) : (st_law_10 E A).sat (P10 ns) R := by
  obtain ⟨S, si, bi, e3, e4, a, v, d0, d1, d2, d3, d4, w, rfl, hp, hb, b5⟩ := h
  have hp2 := hp.app [.lst wds]
  have fin1 : P10 ns [some (.ref 0), some (.ref 1), some (.ref si), e3, e4, some (.int a), some (.ref bi), none, none, none, none] A := ⟨S, si, _, _, _, _, rfl, hp⟩
  have fin2 : P10 ns [some (.ref 0), some (.ref 1), some (.ref si), e3, e4, some (.int a), some (.ref bi), none, none, none, none] (A ++ [.lst wds]) := ⟨S, si, _, _, _, _, rfl, hp2⟩
  have p61 : (D.tup [.int 3, .int 61]).pur 60 = true := by simp
  have ne : opNeX [.tup [.int a, v], .tup [.int 3, .int 61]] A = .ok (.bl (!eqD (.tup [.int a, v]) (.tup [.int 3, .int 61]))) A := by
    rw [ev_neX rfl, opNe_pur b5.pu p61]
  obtain ⟨b, hbb⟩ : ∃ b, b = !eqD (.tup [.int a, v]) (.tup [.int 3, .int 61]) := ⟨_, rfl⟩
  rw [← hbb] at ne
  have wd := b5.wd
  have at_ := b5.at_
  generalize P10 ns = P at fin1 fin2 ⊢
  unfold st_law_10
  cases b with
  | false =>
    simp [-ev_neX, hb, at_, line, ne]
    exact fin1
  | true =>
    have hf : first (nms d0 d1 d2 d3 d4) = some w ∧ (PySem.PyData.str w).canLay0 = true := by
      rcases b5.fst with ⟨rfl, rfl⟩ | z
      · rw [eqD_same] at hbb
        cases hbb
      · exact z
    have hr := L_is_refused_ok (A := A ++ [.lst wds]) (get_left hb) b5.p0 b5.p1 b5.p2 b5.p3 b5.p4 hf.1 hf.2
    have hw : (A ++ [O.lst wds])[A.length]? = some (.lst wds) := get_last
    have hbX : (A ++ [O.lst wds])[bi]? = some (.lst [d0, d1, d2, d3, d4]) := get_left hb
    have ew : [D.str "dirs", .str "rows", .str "files", .str "blocks", .str "users"] = wds := rfl
    simp [-ev_neX, hb, at_, line, ne]
    rw [ew]
    simp [wd, cl, hr]
    exact fin2
end
end Lw
set_option Elab.async false
set_option linter.all false
set_option maxRecDepth 100000
set_option maxHeartbeats 4000000
/-! The law's end (own work). -/
namespace Lw
open PySem DL STX
section
variable {ns : List Int} {A B C : AH} {S : Sh} {si ci : Nat} {E : DL.Env} {R : D → AH → Prop}
structure HQ (S : Sh) (si hi : Nat) (h : Int → List Int) (A : AH) : Prop where
  sh : A[si]? = some (shO S)
  ok : S.Ok
  h8 : ∀ i, (h i).length = 8
  ho : A[hi]? = some (.dic (homeL h S.pl.toNat))
theorem HQ.app {hi : Nat} {h : Int → List Int} (l : HQ S si hi h A) (G : AH) : HQ S si hi h (A ++ G) := ⟨get_left l.sh, l.ok, l.h8, get_left l.ho⟩
def P11 (E : DL.Env) (A : AH) : Prop := ∃ (S : Sh) (si hi : Nat) (h : Int → List Int) (e3 e4 e5 e6 : Option D), E = [some (.ref 0), some (.ref 1), some (.ref si), e3, e4, e5, e6, some (.ref hi), none, none, none] ∧ HQ S si hi h A
def P12 (E : DL.Env) (A : AH) : Prop := ∃ (S : Sh) (si hi fi : Nat) (h : Int → List Int) (e3 e4 e5 e6 : Option D), E = [some (.ref 0), some (.ref 1), some (.ref si), e3, e4, e5, e6, some (.ref hi), some (.ref fi), none, none] ∧ HQ S si hi h A ∧ A[fi]? = some (.lst ((upto 0 S.f.toNat).take 3))
theorem s11 (h : P10 ns E A) : (st_law_11 E A).sat P11 R := by
  obtain ⟨S, si, e3, e4, e5, e6, rfl, hp⟩ := h
  unfold st_law_11
  simp [cl]
  refine (L_any_ok hp.drw hp.sh hp.ok).mono ?_
  rintro d B ⟨A', h, x, h8, rfl, rfl⟩
  exact ⟨S, si, A.length, h, _, _, _, _, rfl, get_left ((x.get (shape_ne1 hp.drw hp.sh)).trans hp.sh), hp.ok, h8, get_at x.len⟩
theorem s12 (h : P11 E A) : (st_law_12 E A).sat P12 R := by
  obtain ⟨S, si, hi, h, e3, e4, e5, e6, rfl, hq⟩ := h
  have f0 := hq.ok.f0
  have f1 := hq.ok.f1
  have hS' : A[si]? = some (O.ins 0 [(0, .int S.d), (1, .int S.r), (2, .int S.f), (3, .int S.b), (4, .int S.u), (5, .int S.fr), (6, .int S.fu), (7, .int S.ff), (8, .int S.fb), (9, .int S.pl)]) := hq.sh
  have c1 : 0 ≤ S.f ∧ S.f ≤ 16777216 := by omega
  have ct := cut_take (xs := upto 0 S.f.toNat) (k := 3)
  have e3' : ((3 : Nat) : Int) = 3 := rfl
  rw [e3'] at ct
  have hq2 := hq.app [.lst (upto 0 S.f.toNat), .lst ((upto 0 S.f.toNat).take 3)]
  unfold st_law_12
  simp [ev_eLRg, ev_kLRg, hS', c1]
  simp [ct]
  exact ⟨S, si, hi, _, h, _, _, _, _, rfl, hq2, by rw [ix_right]; rfl⟩
theorem s13 (hR : ∀ B, R (.bl true) B) {N : DL.Env → AH → Prop} (h : P12 E A) : (st_law_13 E A).sat N R := by
  obtain ⟨S, si, hi, fi, h, e3, e4, e5, e6, rfl, hq, hf⟩ := h
  have f0 := hq.ok.f0
  have hn := L_are_names_ok hq.h8 hq.ho hq.sh hq.ok
  have mem : ∀ y ∈ (upto 0 S.f.toNat).take 3, ∃ j : Nat, y = .int j ∧ (j : Int) < S.f := fun y hy => by
    obtain ⟨i, hi, rfl⟩ := List.mem_map.mp (List.mem_of_mem_take hy)
    have := List.mem_range.mp hi
    exact ⟨i, by simp, by omega⟩
  obtain ⟨L, hL⟩ : ∃ L, L = (upto 0 S.f.toNat).take 3 := ⟨_, rfl⟩
  have lL : L.length ≤ 3 := by rw [hL, List.length_take]; omega
  rw [← hL] at mem hf
  have hs : ∀ G, seqO (A ++ G)[fi]? = some L := fun G => by rw [get_left hf]; rfl
  have hs0 : seqO A[fi]? = some L := by rw [hf]; rfl
  have q := lc_map (src := .lst fi) (g := gName 10) (e := eAnd (eF (cl F_L_is_read []) (aCons (eVar 7) (aCons (eVar 2) (aCons (eVar 10) aNil)))) (eF (cl F_L_are_met []) (aCons (eVar 7) (aCons (eVar 2) (aCons (eVar 10) aNil))))) (E := [some (.ref 0), some (.ref 1), some (.ref si), e3, e4, e5, e6, some (.ref hi), some (.ref fi), none, none]) (A := A) (ds := L)
    (fun d => [some (.ref 0), some (.ref 1), some (.ref si), e3, e4, e5, e6, some (.ref hi), some (.ref fi), none, some d]) (fun _ => .bl true) (by unfold line; omega) (by rw [size_lst hs0]) (fun G k => at_lst (hs G) k) (fun d hd G => rfl) (fun d hd G => by
      obtain ⟨j, rfl, hj⟩ := mem d hd
      have hqG := hq.app G
      obtain ⟨ji, hji⟩ : ∃ ji : Int, ji = (j : Int) := ⟨_, rfl⟩
      have r1 := L_is_read_ok (f := j) (fi := ji) hqG.h8 hqG.ho hqG.sh hqG.ok hj hji
      have r2 := L_are_met_ok (fi := ji) hqG.h8 hqG.ho hqG.sh hqG.ok (by omega) (by omega)
      rw [← hji]
      simp [cl, r1, r2])
  have bo : ∀ M : List D, blsOf (M.map fun _ => D.bl true) = some (M.map fun _ => true) := by
    intro M
    induction M with
    | nil => rfl
    | cons a M ih =>
      unfold blsOf at ih ⊢
      rw [List.map_cons, List.map_cons]
      show (allSome ((M.map fun _ => D.bl true).map D.bl?)).map (true :: ·) = _
      rw [ih]
      rfl
  have ba := bo L
  have bt : ((L.map fun _ => true).all id) = true := by simp
  unfold st_law_13
  simp [cl, hn, hf, q, bo]
  have ea : (L.all fun x => true) = true := List.all_eq_true.mpr fun _ _ => rfl
  rw [ea]
  exact hR _
end
end Lw
set_option Elab.async false
set_option linter.all false
set_option maxRecDepth 100000
set_option maxHeartbeats 4000000
/-! The plain law (own work). -/
namespace Lw
open PySem DL
theorem pure_law (ns : List Int) (h : ns.length ≤ 63) : ∃ B, F_law [.ref 0] [.rol (ns.map D.int)] = .ok (.bl true) B := by
  have main : (F_law [.ref 0] [.rol (ns.map D.int)]).sat fun d _ => d = .bl true := by
    refine sat_def rfl ?_
    have hR : ∀ B, (gc [.rol (ns.map D.int)] (.bl true) B).sat fun d _ => d = .bl true := fun B => gc_bl _ _ _
    unfold b_law
    refine seq_sat (P1 ns) s0 fun E A h0 => ?_
    refine seq_sat (P2 ns) (s1 h0) fun E A h1 => ?_
    refine seq_sat (P3 ns) (s2 h1) fun E A h2 => ?_
    refine seq_sat (P4 ns) (s3 h2) fun E A h3 => ?_
    refine seq_sat (P4 ns) (s4 h3) fun E A h4 => ?_
    refine seq_sat (P5 ns) (s5 h4) fun E A h5 => ?_
    refine seq_sat (P5 ns) (s6 h5) fun E A h6 => ?_
    refine seq_sat (P7 ns) (s7 h6) fun E A h7 => ?_
    refine seq_sat (P8 ns) (s8 h7) fun E A h8 => ?_
    refine seq_sat (P9 ns) (s9 h8) fun E A h9 => ?_
    refine seq_sat (P10 ns) (s10 h9) fun E A h10 => ?_
    refine seq_sat P11 (s11 h10) fun E A h11 => ?_
    refine seq_sat P12 (s12 h11) fun E A h12 => ?_
    exact s13 hR h12
  obtain ⟨a, B, e, rfl⟩ := sat_iff.mp main
  exact ⟨B, e⟩
end Lw
set_option Elab.async false
set_option linter.all false
set_option maxRecDepth 100000
set_option maxHeartbeats 0
open PySem PySem.W PySem.Calls PyProof.Rows
theorem PySem.Challenge.cw_plugproof_k70_whole_readings_holds : PySem.Challenge.rw_plugproof_k70_whole_readings.Holds := by
  w_on; o_law
  refine HandSHeadRun.head_any (r := OpenLaw.row PySem.Challenge.rw_plugproof_k70_whole_readings) (q := view (OpenLaw.row PySem.Challenge.rw_plugproof_k70_whole_readings).prog [42]) (H := Lw.hk) (ob := Lw.ob) (M := 9000) (loose := Lw.names) (d := HandSHeadRun.topDef (OpenLaw.row PySem.Challenge.rw_plugproof_k70_whole_readings).prog 42) (kwd := []) Lw.ob_eq
    (by kernel_rfl) (fun s => by kernel_rfl) Lw.run (by kernel_rfl) (by kernel_rfl) (by kernel_rfl) (by rfl) (by first | assumption | decide +kernel) (by decide +kernel) ⟨rfl, rfl, rfl, rfl, rfl, by decide +kernel⟩ ?hw ?hc
  case hw => w_witness2
  case hc =>
    refine L2.walk_ofE (l := PySem.Challenge.rw_plugproof_k70_whole_readings) (n := 63) (k := 9) (x := "_law_script") (CX := DL.CXE) rfl (by decide) (by kernel_rfl) ⟨rfl, by decide, by decide⟩ ?F DL.cxe_none
    intro w mg fa h Y G hmg0
    obtain ⟨K, KX, c, cn, cx, ce⟩ := Y
    have hmg : mg ("law" : PySem.Str) = some (.ref fa) := by
      have e : (HandSHeadRun.topDef (OpenLaw.row PySem.Challenge.rw_plugproof_k70_whole_readings).prog 42).name = ("law" : PySem.Str) := by kernel_rfl
      rw [← e]
      exact hmg0
    have S : Lw.Sys K mg := ⟨c, ⟨h, KX, G⟩, cn, cx, ce⟩
    have e : fa = He.ga K "law" := by
      have q := hmg.symm.trans (Lw.g_law S)
      cases q
      rfl
    subst e
    obtain ⟨fd, F⟩ := Lw.lawfd S
    haveI : DL.ProgOk (PySem.Challenge.rw_plugproof_k70_whole_readings).prog Lw.fileN := ⟨by kernel_rfl, by kernel_rfl⟩
    exact ⟨K, fd, _, KX, Lw.law_b F, fun H a ns hl _ hS => DL.end_law hS (Lw.pure_law ns hl), fun base _ _ => DL.wide (Lw.ok_law_F S F)⟩
