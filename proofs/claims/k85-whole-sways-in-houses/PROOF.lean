import PyProof.Rows.All
import Wide.All
import OpenK.AllK
import Wide.FinOn
import KE.KStateDown
import HandS.ForMost
import HandS.Exc
import HandS.WordsExc
import HandS.Defaults
import HandS.MakeKwOnly
import HandS.IsInst
import HandS.Codes
import HandS.Conv
import HandS.TupSets
import HandS.TupMul
import HandS.TupAny
import HandS.DictTup
import HandS.DictComp
import HandS.SetKeys
import HandS.Wide
import HandS.Flow
import HandS.Deep
import HandS.DeepEq
import HandS.ExcField
import HandS.TryMany
import HandS.TryOnly
import HandS.Zip
import HandS.Head0
import HandS.Head1
import HandS.Head2
import HandS.HeadEnd
import HandS.HeadHook1
import HandS.HeadHook2
import PyProof.ExcBaseAll.OverflowError
import KE.KExcInit
import HandS.SetFor
import HandS.Strs
import HandS.Walk
import HandS.Lambda
import HandS.Nested
import HandS.SortKw
import KE.KMinKey
import KE.KDictCopyH
import HandS.TupLen
import HandS.Finally
import HandS.Style
import KE.KEqDict
import HandS.HeadHook4
import HandS.HeadWalk
import PySem.Challenge.RW_seenstands_k85_whole_sways_in_houses
import HandS.ExcOwn
set_option Elab.async false
set_option linter.all false
set_option maxRecDepth 100000
set_option maxHeartbeats 4000000
/-! # Generic words over the hand layer: packed promises of defs, methods, classes -/
namespace G
open PySem PySem.Spec PyProof.Rows L2
/-- a keyword-only default of the def at f, if it is an object -/
def kwdAt (f : Str × Option Str) (x : Str) (K : PySem.W.Frag) : Addr := match K.lookup (He.fAd K f) with
  | some ⟨_, _, .func fd, _⟩ => (match fd.kwdefaults with
    | .ref D => (match PySem.W.nsIn K D x with
      | some (some (.ref a)) => a
      | _ => 0)
    | _ => 0)
  | _ => 0
section
variable (P : Program) (w : World) (K : PySem.W.Frag) (mg : Str → Option Value) (base : Heap)
/-- a def of the module that may be called by its name -/
structure CL (CX : CXT) (k : Nat) (x : Str) (ps : List Str) (sp : Sp) : Prop where
  ex : ∃ (f : Addr) (fd : FuncData), FnOk P w K mg base CX k f fd ps sp ∧ mg x = some (.ref f) ∧ PySem.W.keepIn K (.ref f) = true ∧ Binds K fd ps []
/-- a method of the class at C -/
structure ML (CX : CXT) (k : Nat) (C : Addr) (m : Str) (ps : List Str) (sp : Sp) : Prop where
  ex : ∃ (f : Addr) (fd : FuncData), Cls K C ∧ Meth K C m f ∧ FnOk P w K mg base CX k f fd ps sp ∧ Binds K fd ps []
/-- a class that is made by its name, all parameters of its __init__ given by places -/
structure KL (CX : CXT) (k : Nat) (x : Str) (C : Addr) (ps : List Str) (sp : Sp) : Prop where
  ex : ∃ (f : Addr) (fd : FuncData), Mk K C f ∧ FnOk P w K mg base CX k f fd ps sp ∧ mg x = some (.ref C) ∧ Binds K fd ps []
end
section
variable {P : Program} {w : World} {K : PySem.W.Frag} {mg : Str → Option Value} {base : Heap}
/-- what a body's proof gives, nothing raised -/
abbrev Body0 (P : Program) (w : World) (K : PySem.W.Frag) (mg : Str → Option Value) (base : Heap) (k : Nat) (N : List Str) (qual : Str) (st : Stmt) (sp : Sp) : Prop :=
  ∀ (f : Addr) (cdv : Value) (A : Around) (outer : List Env) (s : Shared) (H : Hp) (vs : List V) (Q : VK) (E : XK), Room k (A.deeper (envOfC qual (defScope st) s.heap.objs.size f cdv)) → sp vs H Q E →
    ∃ t, PSs (cxOf CX0 P w K mg base N qual (defScope st) f cdv A outer s H E).nox (defBody st) t ∧ t { nx := fun _ H' => Q .non H', rt := Q } (start N vs) H
abbrev BodyX (P : Program) (w : World) (K : PySem.W.Frag) (mg : Str → Option Value) (base : Heap) (k : Nat) (N : List Str) (qual : Str) (st : Stmt) (sp : Sp) : Prop :=
  ∀ (f : Addr) (cdv : Value) (A : Around) (outer : List Env) (s : Shared) (H : Hp) (vs : List V) (Q : VK) (E : XK), Room k (A.deeper (envOfC qual (defScope st) s.heap.objs.size f cdv)) → sp vs H Q E →
    ∃ t, PSs (cxOf (L2.CX P w) P w K mg base N qual (defScope st) f cdv A outer s H E) (defBody st) t ∧ t { nx := fun _ H' => Q .non H', rt := Q } (start N vs) H
theorem fn_body0 {x qual : Str} {st : Stmt} {dvs : List V} {kws : List (Str × V)} {f : Addr} {fd : FuncData} {N ps : List Str} {k : Nat} {sp : Sp} (F : FunD K x qual (defArgs st) (defBody st) (defScope st) dvs kws f fd) (S : FnScope N ps (defScope st)) (len : ∀ vs H Q E, sp vs H Q E → vs.length = ps.length)
    (hb : Body0 P w K mg base k N qual st sp) : FnOk P w K mg base CX0 (k + 1) f fd ps sp :=
  F.ok S len fun cdv A outer s H vs Q E hr hsp => by
    obtain ⟨t, h, q⟩ := hb f cdv A outer s H vs Q E hr hsp
    exact ⟨t, h.nox, q⟩
theorem fn_bodyX {x qual : Str} {st : Stmt} {dvs : List V} {kws : List (Str × V)} {f : Addr} {fd : FuncData} {N ps : List Str} {k : Nat} {sp : Sp} (F : FunD K x qual (defArgs st) (defBody st) (defScope st) dvs kws f fd) (S : FnScope N ps (defScope st)) (len : ∀ vs H Q E, sp vs H Q E → vs.length = ps.length)
    (hb : BodyX P w K mg base k N qual st sp) : FnOk P w K mg base (L2.CX P w) (k + 1) f fd ps sp :=
  F.ok S len fun cdv A outer s H vs Q E hr hsp => hb f cdv A outer s H vs Q E hr hsp
section
variable {x qual m : Str} {st : Stmt} {f C : Addr} {N ps : List Str} {k : Nat} {sp : Sp}
theorem CL.of0 (F : ∃ fd, FunD K x qual (defArgs st) (defBody st) (defScope st) [] [] f fd) (hm : mg x = some (.ref f)) (S : FnScope N ps (defScope st)) (b : ∀ fd, FunD K x qual (defArgs st) (defBody st) (defScope st) [] [] f fd → Binds K fd ps [])
    (len : ∀ vs H Q E, sp vs H Q E → vs.length = ps.length) (hb : Body0 P w K mg base k N qual st sp) : CL P w K mg base CX0 (k + 1) x ps sp := by
  obtain ⟨fd, F⟩ := F
  exact ⟨f, fd, fn_body0 F S len hb, hm, F.kp, b fd F⟩
theorem CL.ofX (F : ∃ fd, FunD K x qual (defArgs st) (defBody st) (defScope st) [] [] f fd) (hm : mg x = some (.ref f)) (S : FnScope N ps (defScope st)) (b : ∀ fd, FunD K x qual (defArgs st) (defBody st) (defScope st) [] [] f fd → Binds K fd ps [])
    (len : ∀ vs H Q E, sp vs H Q E → vs.length = ps.length) (hb : BodyX P w K mg base k N qual st sp) : CL P w K mg base (L2.CX P w) (k + 1) x ps sp := by
  obtain ⟨fd, F⟩ := F
  exact ⟨f, fd, fn_bodyX F S len hb, hm, F.kp, b fd F⟩
theorem ML.of0 (F : ∃ fd, FunD K m qual (defArgs st) (defBody st) (defScope st) [] [] f fd) (c : Cls K C) (hm : Meth K C m f) (S : FnScope N ps (defScope st)) (b : ∀ fd, FunD K m qual (defArgs st) (defBody st) (defScope st) [] [] f fd → Binds K fd ps [])
    (len : ∀ vs H Q E, sp vs H Q E → vs.length = ps.length) (hb : Body0 P w K mg base k N qual st sp) : ML P w K mg base CX0 (k + 1) C m ps sp := by
  obtain ⟨fd, F⟩ := F
  exact ⟨f, fd, c, hm, fn_body0 F S len hb, b fd F⟩
theorem ML.ofX (F : ∃ fd, FunD K m qual (defArgs st) (defBody st) (defScope st) [] [] f fd) (c : Cls K C) (hm : Meth K C m f) (S : FnScope N ps (defScope st)) (b : ∀ fd, FunD K m qual (defArgs st) (defBody st) (defScope st) [] [] f fd → Binds K fd ps [])
    (len : ∀ vs H Q E, sp vs H Q E → vs.length = ps.length) (hb : BodyX P w K mg base k N qual st sp) : ML P w K mg base (L2.CX P w) (k + 1) C m ps sp := by
  obtain ⟨fd, F⟩ := F
  exact ⟨f, fd, c, hm, fn_bodyX F S len hb, b fd F⟩
theorem KL.of0 (F : ∃ fd, FunD K "__init__" qual (defArgs st) (defBody st) (defScope st) [] [] f fd) (M : Mk K C f) (hm : mg x = some (.ref C)) (S : FnScope N ps (defScope st)) (b : ∀ fd, FunD K "__init__" qual (defArgs st) (defBody st) (defScope st) [] [] f fd → Binds K fd ps [])
    (len : ∀ vs H Q E, sp vs H Q E → vs.length = ps.length) (hb : Body0 P w K mg base k N qual st sp) : KL P w K mg base CX0 (k + 1) x C ps sp := by
  obtain ⟨fd, F⟩ := F
  exact ⟨f, fd, M, fn_body0 F S len hb, hm, b fd F⟩
theorem KL.ofX (F : ∃ fd, FunD K "__init__" qual (defArgs st) (defBody st) (defScope st) [] [] f fd) (M : Mk K C f) (hm : mg x = some (.ref C)) (S : FnScope N ps (defScope st)) (b : ∀ fd, FunD K "__init__" qual (defArgs st) (defBody st) (defScope st) [] [] f fd → Binds K fd ps [])
    (len : ∀ vs H Q E, sp vs H Q E → vs.length = ps.length) (hb : BodyX P w K mg base k N qual st sp) : KL P w K mg base (L2.CX P w) (k + 1) x C ps sp := by
  obtain ⟨fd, F⟩ := F
  exact ⟨f, fd, M, fn_bodyX F S len hb, hm, b fd F⟩
end
end
section
variable {X : Cx} {CX : CXT} {k j : Nat} {C : Addr} {x m : Str} {ps : List Str} {sp : Sp} {E : XK} {p pos apos : Pos} {e o : Expr} {es : List Expr} {ta : TE} {t : TA}
theorem pe_cl (c : CL X.prog X.w X.K X.mg X.base CX k x ps sp) (hr : Room j X.A) (hk : k ≤ j) (hx : Passes CX X E) (ha : PA X (e :: es) t) (hg : Gl X x := by rfl)
    (hdb : (x == ("__debug__" : Str)) = false := by decide) (he : starEach (e :: es) X.env = (false, eval e X.env) :: starEach es X.env := by rfl) (hpl : (backTo pos (starEach es X.env)).any (·.1) = false := by rfl) :
    PE X (.Call (.Name x p) (e :: es) [] pos) (tCall sp [] E t) := by
  obtain ⟨f, fd, F, hm, kp, b⟩ := c.ex
  exact pe_call F (hr.mono hk) hg hm kp b .nil hx ha hdb he hpl
theorem pe_cl0 (c : CL X.prog X.w X.K X.mg X.base CX k x ps sp) (hr : Room j X.A) (hk : k ≤ j) (hx : Passes CX X E) (hg : Gl X x := by rfl)
    (hdb : (x == ("__debug__" : Str)) = false := by decide) : PE X (.Call (.Name x p) [] [] pos) (tCall sp [] E tNil) := by
  obtain ⟨f, fd, F, hm, kp, b⟩ := c.ex
  exact pe_call0 F (hr.mono hk) hg hm kp b .nil hx hdb
theorem pe_ml {pl : Sem Bool} (c : ML X.prog X.w X.K X.mg X.base CX k C m ps sp) (hr : Room j X.A) (hk : k ≤ j) (hx : Passes CX X E) (he : PE X o ta) (ha : PA X (e :: es) t)
    (hst : starEach (e :: es) X.env = (false, eval e X.env) :: starEach es X.env := by rfl) (hpl : (backTo pos (starEach es X.env)).any (·.1) = false := by rfl)
    (ht : eval (.Call (.Attribute o m apos) (e :: es) [] pos) X.env = (do
      let ov ← eval o X.env
      standAt apos.atName
      let (f, first) ← holding [ov] (getMethod ov m pl)
      callWith pos f first (backTo pos (starEach (e :: es) X.env)) (backToKw pos (keywordEach [] X.env))) := by rfl) :
    PE X (.Call (.Attribute o m apos) (e :: es) [] pos) (tMeth C m sp [] E ta t) := by
  obtain ⟨f, fd, hc, hm, F, b⟩ := c.ex
  exact pe_meth (pl := pl) he hc hm F (hr.mono hk) b .nil hx ha hst hpl ht
theorem pe_ml0 {pl : Sem Bool} (c : ML X.prog X.w X.K X.mg X.base CX k C m ps sp) (hr : Room j X.A) (hk : k ≤ j) (hx : Passes CX X E) (he : PE X o ta)
    (ht : eval (.Call (.Attribute o m apos) [] [] pos) X.env = (do
      let ov ← eval o X.env
      standAt apos.atName
      let (f, first) ← holding [ov] (getMethod ov m pl)
      callWith pos f first (backTo pos (starEach [] X.env)) (backToKw pos (keywordEach [] X.env))) := by rfl) :
    PE X (.Call (.Attribute o m apos) [] [] pos) (tMeth C m sp [] E ta tNil) := by
  obtain ⟨f, fd, hc, hm, F, b⟩ := c.ex
  exact pe_meth0 (pl := pl) he hc hm F (hr.mono hk) b .nil hx ht
theorem pe_kl (c : KL X.prog X.w X.K X.mg X.base CX k x C ps sp) (hr : Room j X.A) (hk : k + 1 ≤ j) (hx : Passes CX X E) (ha : PA X (e :: es) t) (hg : Gl X x := by rfl)
    (hdb : (x == ("__debug__" : Str)) = false := by decide) (he : starEach (e :: es) X.env = (false, eval e X.env) :: starEach es X.env := by rfl) (hpl : (backTo pos (starEach es X.env)).any (·.1) = false := by rfl) :
    PE X (.Call (.Name x p) (e :: es) [] pos) (tMake C sp [] E t) := by
  obtain ⟨f, fd, M, F, hm, b⟩ := c.ex
  exact pe_make M F (hr.mono hk) hg hm b .nil hx ha hdb he hpl
end
end G
set_option Elab.async false
set_option linter.all false
set_option maxRecDepth 100000
set_option maxHeartbeats 4000000
/-! # An own exception class over a built-in one whose __init__ stores its one argument under its own name (skel/42 turned to any base) -/
namespace ExO
open PySem PySem.W PySem.Calls PyProof.Rows PySem.HandSPX
open Builtin.ObjectAttr
/-! ### the text of __init__ -/
def iA (a : Str) (p1 p2 : Pos) : Arguments := { posonlyargs := [], args := [{ arg := "self", annotation := none, pos := p1 }, { arg := a, annotation := none, pos := p2 }], vararg := none, kwonlyargs := [], kw_defaults := [], kwarg := none, defaults := [] }
def iB (a : Str) (q1 q2 q3 q4 : Pos) : List Stmt := [.Assign [.Attribute (.Name "self" q1) a q2] (.Name a q3) q4]
def iS (a : Str) : Scope := { kind := .function, names := [(PySem.Str.ofString "self", .local), (a, .local)], isGenerator := false, isCoroutine := false, more := [] }
/-- what the written part says of the class at C (its name x, its field a) and of its __init__ -/
def exB (K : Frag) (C : Addr) (a : Str) (bmB : List Value) (newId : String) : Bool :=
  excInitIn K C bmB newId && (excOver K C bmB && (hasDictIn K C && (decide (findIn K (.ref C) "__setattr__" = some (some (.builtin "object.__setattr__"))) && (decide (findIn K (.ref C) a = some none) && (keepIn K (.ref C) &&
  (decide (subIn K (.ref C) (.type "BaseException") = some true) && (decide (typeIn K (.ref C) = some (.type "type")) && (decide (exmOne K (.ref C) (.ref C) = some true) && decide (typeIn K (.ref (He.ma K C "__init__")) = some (.type "function"))))))))))
structure ExTxt (K : Frag) (mg : Str → Option Value) (C fI : Addr) (x a : Str) (bmB : List Value) (newId : String) : Prop where
  gC : mg x = some (.ref C)
  ei : excInitIn K C bmB newId = true
  ov : excOver K C bmB = true
  hd : hasDictIn K C = true
  sa : findIn K (.ref C) "__setattr__" = some (some (.builtin "object.__setattr__"))
  noN : findIn K (.ref C) a = some none
  kC : keepIn K (.ref C) = true
  exC : subIn K (.ref C) (.type "BaseException") = some true
  tyC : typeIn K (.ref C) = some (.type "type")
  te : exmOne K (.ref C) (.ref C) = some true
  tC : typeIn K (.ref fI) = some (.type "function")
  iC : findIn K (.ref C) "__init__" = some (some (.ref fI))
  fn : ∃ (oc : Value) (od : Option Addr) (dV kV doc pm : Value) (an : Option Addr) (cdv ct : Value) (osl : Array (Option Value)) (qual : Str) (p1 p2 q1 q2 q3 q4 : Pos),
    K.lookup fI = some ⟨oc, od, .func (fnOf "__init__" qual (iA a p1 p2) (iB a q1 q2 q3 q4) (iS a) dV kV doc pm an cdv ct), osl⟩ ∧ codeIn K cdv qual = true ∧ dV = .none
theorem one_size (v : Value) : [v].length ≤ sizeLine := by
  rw [sizeLine_eq]
  exact (by decide : 1 ≤ 16777216)
theorem ldC {M : Model} {s : Shared} {name : Str} {scope : Scope} {L a : Addr} {cd : Value} {m : Str → Option Value} {x : Str} {pos : Pos} {v : Value} {Q : Value → Shared → Prop} {A : Around} {E : Value → Shared → Prop} (hn : s.heap.Ns L m) (hv : m x = some v) (h : Q v s)
    (hk : scope.kind = .function) (hl : (envOfC name scope L a cd).kindOf x = some .local) (hd : (x == ("__debug__" : Str)) = false) :
    wpAny M A (eval (.Name x pos) (envOfC name scope L a cd)) Q E s := wpAny_Name (wpAny_loadName_local hk hl hn hv h) hd
/-- what __init__ leaves of a fresh exception at x -/
structure InitEnd (h h' : Heap) (x C dx t1 : Addr) (a : Str) (v : Value) : Prop where
  keep : ∀ b o, b ≠ x → h.get? b = some o → h'.get? b = some o
  obj : h'.get? x = some { cls := .ref C, dict := some dx, data := .fields #[.ref t1, .none, .none, .none, .bool false, .none] }
  dbig : h.objs.size ≤ dx
  dne : dx ≠ x
  ns : h'.Ns1 dx (fun y => if y = a then some v else none)
/-- a made exception -/
structure OwnMade (h h' : Heap) (e C d : Addr) (a : Str) (v : Value) : Prop where
  keep : ∀ b o, h.get? b = some o → h'.get? b = some o
  new : h.objs.size ≤ e
  obj : ∃ oe vs, h'.get? e = some oe ∧ oe.cls = .ref C ∧ oe.dict = some d ∧ oe.data = .fields vs ∧ vs[1]? = some .none
  dbig : h.objs.size ≤ d
  dne : d ≠ e
  ns : h'.Ns1 d (fun y => if y = a then some v else none)
section
variable {prog : Program} {w : World} {A : Around} {E : Value → Shared → Prop} {R : Result → Shared → Prop} {s : Shared} {K : Frag} {mg : Str → Option Value} {C fI : Addr} {x a : Str} {B newId initId : String} {bmB : List Value}
/-- object.__setattr__ on an exception that has no dict yet -/
theorem osa_new {name : Str} {tk : Tok} {v : Value} {xa : Addr} {fv : Array Value} (SF : StoreFacts B bmB "object.__setattr__" "object")
    (X : K.In s.heap) (hx : s.heap.get? xa = some { cls := .ref C, data := .fields fv }) (ov : excOver K C bmB = true) (hh : hasDictIn K C = true) (ha : findIn K (.ref C) name = some none)
    (hq : ∀ h' tk' dx, (∀ b o, b ≠ xa → s.heap.get? b = some o → h'.get? b = some o) → s.heap.objs.size ≤ dx → dx ≠ xa → h'.get? xa = some { cls := .ref C, dict := some dx, data := .fields fv } →
      h'.Ns1 dx (fun y => if y = name then some v else none) → R (.ok (.ret .none)) { s with heap := h', toks := tk' }) :
    codeAny (model prog w) A (.call (.builtin "object.__setattr__") ⟨[.ref xa, .str name tk, v], []⟩) R s := by
  have I : InstAt s.heap xa { cls := .ref C, data := .fields fv } C none := ⟨hx, rfl, rfl, trivial⟩
  have hxs : xa ≠ s.heap.objs.size := Nat.ne_of_lt (Heap.lt_size hx)
  refine osa_openX SF X I ov (r := none) (by unfold takerIn; rw [ha]; rfl) fun b => ?_
  show wpAny _ _ (storeInOwnDict (.ref xa) (.ref C) (.str name tk) name v b) _ _ _
  obtain ⟨cd, hcd, hhd⟩ : ∃ cd, clsIn K C = some cd ∧ cd.hasDict = true := by
    unfold hasDictIn at hh
    exact any_some hh
  have hcls : Looks (model prog w) s.heap (classData C) cd := looks_clsIn X hcd
  obtain ⟨nm, bs, mro, ns, qn, hd, sn, sb, ab, col, del⟩ := cd
  dsimp only at hhd
  subst hhd
  obtain ⟨hp, g, d, t, os⟩ := s
  unfold storeInOwnDict ownDictForStores
  repeat (first | with_reducible refine store_in_new ?_ ?_ | with_reducible refine wpAny_loadPart_at hx ?_ | with_reducible refine hcls.at ?_ | wp_step)
  · exact ⟨_, #[], _, (Heap.get?_update_ne _ _ _ _ hxs.symm).trans (Heap.get?_push_at rfl rfl), rfl, fun e he => absurd he (by simp), fun _ => rfl⟩
  · intro h' tk' hn' hs
    have hx1 : (hp.push { cls := .type "dict", data := .dict #[] }).get? xa = some { cls := .ref C, data := .fields fv } := Heap.get?_push_of_some _ hx
    refine hq h' tk' hp.objs.size (fun b o hb ho => ?_) (Nat.le_refl _) hxs.symm ?_ hn'
    · exact (hs.2 b (Nat.ne_of_lt (Heap.lt_size ho))).trans ((Heap.get?_update_ne _ _ _ _ hb).trans (Heap.get?_push_of_some _ ho))
    · exact (hs.2 xa hxs).trans (Heap.get?_update_self _ hx1 rfl)
theorem ex_init {p1 p2 : Pos} (T : ExTxt K mg C fI x "many" bmB newId) (SF : StoreFacts B bmB "object.__setattr__" "object")
    {xa t0 : Addr} {v : Value} (X : K.In s.heap) (hlim : s.heap.NoLimit) (hx : s.heap.get? xa = some (excO C t0)) (hroom : A.depth < recursionLimit)
    (hq : ∀ h' tk dx, InitEnd s.heap h' xa C dx t0 "many" v → R (.ok (.ret .none)) { s with heap := h', toks := tk }) :
    codeAny (model prog w) A (.call (.ref fI) ⟨[.ref xa, v], []⟩) R s := by
  obtain ⟨oc, od, dV, kV, doc, pm, an, cdv, ct, osl, qual, p1, p2, q1, q2, q3, q4, ho, hcd, hdv⟩ := T.fn
  subst hdv
  refine Att.call_fn (binds := [("self", .ref xa), ("many", v)]) X hlim ho hcd hroom (BindsTo.of_eq (by first | rfl | with_unfolding_all rfl)) (by first | rfl | decide | with_unfolding_all rfl) (fun s1 IC => ?_) rfl rfl rfl
  obtain ⟨h1, tk1, rfl⟩ := IC.toInCall.same
  have k : ∀ b o, s.heap.get? b = some o → h1.get? b = some o := IC.toInCall.keep
  have hn := IC.toInCall.ns
  have X1 : K.In h1 := X.keeps k
  have hx1 := k _ _ hx
  -- self.many = many
  show wpAny _ _ (execs _ _) _ _ _
  refine wpAny_execs_cons (plainObj_wpAny_Assign_Attribute ?_)
  refine ldC (v := v) hn (by first | rfl | with_unfolding_all rfl | kernel_rfl) (ldC (v := .ref xa) hn (by first | rfl | with_unfolding_all rfl | kernel_rfl) ?_ rfl rfl (by decide)) rfl rfl (by decide)
  refine set_plain X1 (ox := excO C t0) (od := none) ⟨hx1, rfl, rfl, trivial⟩ T.sa ?_
  refine osa_new SF X1 hx1 T.ov T.hd T.noN (fun h3 tk3 dx k3 dn dne hx3 hn3 => ?_)
  show wpAny _ _ (execs _ _) _ _ _
  have z : s.heap.objs.size < h1.objs.size := hn.lt
  exact wpAny_execs_nil (hq h3 tk3 dx ⟨fun b o hb e => k3 b o hb (k b o e), hx3, Nat.le_of_lt (Nat.lt_of_lt_of_le z dn), dne, hn3⟩)
theorem ex_made (T : ExTxt K mg C fI x "many" bmB newId) (FB : ExcBaseFacts B newId initId bmB) (SF : StoreFacts B bmB "object.__setattr__" "object") {v : Value} (X : K.In s.heap) (hlim : s.heap.NoLimit) (hroom : A.depth + 1 < recursionLimit)
    (hq : ∀ h' tk e d, OwnMade s.heap h' e C d "many" v → R (.ok (.ret (.ref e))) { s with heap := h', toks := tk }) :
    codeAny (model prog w) A (.call (.ref C) ⟨[v], []⟩) R s := by
  obtain ⟨nm, N, q, bs, bm, hdct, sn, sub, ab, col, dd, k0, k1, k2, k3, k5, hC, hT⟩ := excInit_of X T.ei
  obtain ⟨hp, g, dr, tk, os⟩ := s
  have k : ∀ b o, hp.get? b = some o → ((hp.push (kdv_tup [v])).push (excO C hp.objs.size)).get? b = some o := fun b o e => Heap.get?_push_of_some _ (Heap.get?_push_of_some _ e)
  have hget : ((hp.push (kdv_tup [v])).push (excO C hp.objs.size)).get? (hp.objs.size + 1) = some (excO C hp.objs.size) := by heap_get
  refine call_own FB hT hC (looks_findIn X T.iC) (fun self => bind_fn X self T.tC) (one_size v) ?_
  refine ex_init (p1 := ⟨0, 0, 0, 0⟩) (p2 := ⟨0, 0, 0, 0⟩) (s := ⟨(hp.push (kdv_tup [v])).push (excO C hp.objs.size), g, dr, tk, os⟩) T SF (X.keeps k) (hlim.keeps k) hget ?_ fun h' tk' dx ⟨k', hx, dn, dne, hns⟩ => ?_
  · show A.depth + 1 < recursionLimit
    exact hroom
  · have old : ∀ b o, hp.get? b = some o → h'.get? b = some o := fun b o e => k' b o (Nat.ne_of_lt (Nat.lt_succ_of_lt (Heap.lt_size e))) (k b o e)
    have z : hp.objs.size + 1 + 1 ≤ dx := by
      first
        | (simpa only [Heap.size_push] using dn)
        | exact dn
        | (have q := dn; rw [Heap.size_push, Heap.size_push] at q; exact q)
    exact ⟨rfl, hq h' tk' (hp.objs.size + 1) dx ⟨old, Nat.le_succ _, ⟨_, _, hx, rfl, rfl, rfl, rfl⟩, Nat.le_trans (Nat.le_trans (Nat.le_succ _) (Nat.le_succ _)) z, dne, hns⟩⟩
end
end ExO
namespace L2
open PySem PySem.Spec PyProof.Rows
theorem relO_many {v : V} {v' : Value} (r : RelV v v') (f : Str) : RelO (List.lookup f [(("many" : Str), v)]) (if f = "many" then some v' else none) := by
  by_cases hw : f = "many"
  · subst hw
    rw [if_pos rfl]
    have q : List.lookup ("many" : Str) [(("many" : Str), v)] = some v := by simp [List.lookup]
    rw [q]
    exact r
  · rw [if_neg hw]
    have qw : (f == ("many" : Str)) = false := by simpa using hw
    have q2 : List.lookup f [(("many" : Str), v)] = none := by simp [List.lookup, qw]
    rw [q2]
    trivial
section
variable {X : Cx} {C fI : Addr} {x : Str} {B newId initId : String} {bmB : List Value}
/-- x(e), the error's own dict told -/
def tMkMany (C : Addr) (ta : TA) : St → Hp → XK → Prop := fun σ H Q => ta σ H fun vs H1 => ∃ v, vs = [v] ∧ ∀ d, H1 d = none → Q (.ref C) (some d) (upd H1 d (.xd [(("many" : Str), v)]))
theorem pmk_many {a : Expr} {ta : TA} {p pos : Pos} {k : Nat} (T : ExO.ExTxt X.K X.mg C fI x "many" bmB newId) (FB : PySem.ExcBaseFacts B newId initId bmB) (SF : StoreFacts B bmB "object.__setattr__" "object") (hr : Room k X.A) (ha : PA X [a] ta) (hg : Gl X x)
    (hdb : (x == ("__debug__" : Str)) = false := by decide) (he : starEach (a :: []) X.env = (false, eval a X.env) :: starEach [] X.env := by rfl) (hpl : (backTo pos (starEach [] X.env)).any (·.1) = false := by rfl) :
    PMk X (.Call (.Name x p) [a] [] pos) (tMkMany C ta) := by
  intro pins s σ H Q I h
  refine wpAny_Call_Name_kw (ld_glob I hg T.gC ?_ hdb)
  refine PySem.W.callWith_K (h₀ := X.base) I.ok.mod.kin T.kC (thn (ha.run pos pins s σ H _ I h) fun us s1 hh => ?_) he hpl
  obtain ⟨vs, H1, I1, r1, v, ev, q1⟩ := hh
  subst ev
  refine ⟨I1.kIn, ?_⟩
  cases r1 with
  | cons rv rn =>
    rename_i v' us'
    cases rn
    show wpAny _ _ (call (.ref C) [v']) _ _ _
    have hlim := I1.nolimit
    obtain ⟨hp, g, d, tk, os⟩ := s1
    refine wpAny_call (ExO.ex_made T FB SF I1.kIn hlim (by have := hr.dp; omega) fun h' tk' e d M => ?_)
    show MkP X pins σ Q (.ref e) ⟨h', g, _, tk', os⟩
    obtain ⟨oe, fv, hoe, hc, hd, hdat, h1⟩ := M.obj
    have hns := M.ns
    obtain ⟨G', g1, g2⟩ := restrict h' fun b => decide (b ≠ e)
    have gk : ∀ b, b ≠ e → G'.get? b = h'.get? b := fun b hb => g1 b (decide_eq_true hb)
    have ge : G'.get? e = none := g2 e (by simp)
    have old : ∀ b o, hp.get? b = some o → G'.get? b = some o := fun b o q => (gk b (Nat.ne_of_lt (Nat.lt_of_lt_of_le (Heap.lt_size q) M.new))).trans (M.keep b o q)
    have ob : ObjOk X.prog X.w (upd H1 d (.xd [(("many" : Str), v)])) G' d (.xd [(("many" : Str), v)]) :=
      ⟨_, hns.at (fun o q => (gk d M.dne).trans q), fun f => relO_many rv f⟩
    have J : Inv X pins σ (upd H1 d (.xd [(("many" : Str), v)])) ⟨G', g, _, tk', os⟩ := I1.laid (t' := tk') old M.dbig ob
    refine ⟨e, oe, fv, ⟨G', g, _, tk', os⟩, _, .ref C, some d, rfl, J, fun b o q => ?_, ge, hoe, ⟨hc, hd⟩, hdat, h1, ?_, rfl, I1.bare, raises_own T.exC T.tyC, q1 d (I1.hok.fresh M.dbig)⟩
    · by_cases hb : b = e
      · have q' : G'.get? b = some o := q
        rw [hb, ge] at q'; cases q'
      · exact (gk b hb).symm.trans q
    · rw [upd_ne (Ne.symm M.dne)]
      exact I1.hok.fresh M.new
end
end L2
set_option Elab.async false
set_option linter.all false
set_option maxRecDepth 100000
set_option maxHeartbeats 4000000
/-! # Rules for constructs that the hand layer's modules have no row for -/
namespace G
open PySem PySem.Spec PyProof.Rows L2
/-! ### the head's hook, with one more look -/
abbrev AlX : Type := Bool × He.AlD
def obsX (ex : PySem.W.Frag → Bool) (fa : List He.Fa) (fn : List He.DefD) (K : PySem.W.Frag) : AlX := (ex K, He.obsD fa fn K)
def valX (fn : List He.DefD) : AlX := (true, He.valD fn)
def obsXG (n : Nat) (ex : PySem.W.Frag → Bool) (fa : List He.Fa) (fn : List He.DefD) (g : Addr → Option Obj) : AlX := obsX ex fa fn (He.frG g (He.asD g n))
def hookX (n : Nat) (ex : PySem.W.Frag → Bool) (fa : List He.Fa) (fn : List He.DefD) : PySem.W.Hook where
  α := AlX
  obs := fun s => obsXG n ex fa fn s.heap.get?
  val := fun _ => valX fn
  says := fun _ h => ∃ K : PySem.W.Frag, K.In h ∧ ex K = true ∧ He.SaysD fa fn K
  of := fun _ _ e => ⟨_, He.frG_in, congrArg (fun z : AlX => z.1) e, congrArg (fun z : AlX => z.2) e⟩
  keeps := fun _ _ _ ⟨K, hK, c⟩ k => ⟨K, PySem.W.Frag.In.keeps hK k, c⟩
theorem obsXG_eq {n : Nat} {ex : PySem.W.Frag → Bool} {fa : List He.Fa} {fn : List He.DefD} {g : Addr → Option Obj} {s : Shared} (h : ∀ a, g a = s.heap.get? a) : obsXG n ex fa fn g = (hookX n ex fa fn).obs s := by
  have e : g = s.heap.get? := funext h
  rw [e] <;> rfl
/-- what isinstance asks of an own class, as a look -/
def insB (K : PySem.W.Frag) (C : Addr) : Bool := decide (PySem.W.findIn K (.ref C) "__class__" = some (some (.builtin "object.__class__"))) && (decide (PySem.W.specialIn K (.builtin "object.__class__") "__get__" = some (some (.builtin "getset_descriptor.__get__"))) &&
  (decide (PySem.W.takesIn K (.builtin "object.__class__") = some true) && (decide (PySem.W.mroIn K C (.type "object") = some true) && decide (PySem.W.kitOne K (.ref C) (.ref C) = some true))))
theorem insB_ok {K : PySem.W.Frag} {C : Addr} (c : Cls K C) (h : insB K C = true) : C8.InsC K C := by
  obtain ⟨h1, h⟩ := He.ba h
  obtain ⟨h2, h⟩ := He.ba h
  obtain ⟨h3, h⟩ := He.ba h
  obtain ⟨h4, h5⟩ := He.ba h
  exact ⟨c, of_decide_eq_true h1, of_decide_eq_true h2, of_decide_eq_true h3, of_decide_eq_true h4, of_decide_eq_true h5⟩

/-! ### len(set(t)), t a tuple of unlike ints -/
theorem len_of_mem {l ns : List Int} (h1 : l.Nodup) (h2 : ns.Nodup) (h : ∀ k, k ∈ l ↔ k ∈ ns) : l.length = ns.length := by
  have p : l.Perm ns := (List.perm_ext_iff_of_nodup h1 h2).mpr h
  exact p.length_eq
def tLenSetT (K : PySem.W.Frag) (ta : TE) : TE := fun σ H Q => ta σ H fun x H1 => ∃ (l : Addr) (ns : List Int), x = .ref l ∧ SqT K H1 l (ns.map V.int) ∧ ns.Nodup ∧ ns.length ≤ 1000 ∧ Q (.int (ns.length : Nat)) H1
theorem pe_lenSetT {X : Cx} {a : Expr} {ta : TE} {p p2 q pos : Pos} (hc : X.calm = true) (hg : Gl X "len") (hm : X.mg "len" = none) (hg2 : Gl X "set") (hm2 : X.mg "set" = none) (ha : PE X a ta)
    (na : starEach [a] X.env = (false, eval a X.env) :: starEach [] X.env := by rfl) : PE X (.Call (.Name "len" p) [.Call (.Name "set" p2) [a] [] q] [] pos) (tLenSetT X.K ta) := by
  refine ⟨fun pins s σ H Q I h => ?_⟩
  refine Call_ (ld_blt I hg hm boot_len ?_)
  refine PyProof.Rows.callWith_builtin1 (PyProof.Rows.args_cons ?_ rfl) rfl rfl
  refine Call_ (ld_blt I hg2 hm2 boot_set ?_)
  refine PyProof.Rows.callWith_type1 (PyProof.Rows.args_cons (thn (ha.run pins s σ H _ I h) fun v s1 ⟨x, H1, I1, r1, q1⟩ => PyProof.Rows.args_nil ?_) na) na rfl
  obtain ⟨l, ns, rfl, hq, hn, hl, q1⟩ := q1
  cases r1
  obtain ⟨its, r, pl, hz⟩ := I1.tuple hq
  refine call_set_tupI ns (I1.ok.hd hc) (show s1.heap.IsTuple l its.toArray from pl) (by simpa using RZ.intsAre_vals r) (Nat.lt_of_le_of_lt (Nat.add_le_add_right hl 1) (by decide)) fun h' tk c hS hcn hk => ?_
  refine PyProof.Rows.args_nil ?_
  obtain ⟨o, es, ep, t, ho, hex, hd, hgood, hnd, hmem, hsb, hf, hnn, _⟩ := hS
  have I2 : Inv X pins σ H1 { s1 with heap := h', toks := tk } := I1.kept hk
  have e : es.size = ns.length := by
    have e1 := len_of_mem hnd hn fun k => by
      rw [← hmem k]
      exact decide_eq_true_iff
    rw [List.length_map, Array.length_toList] at e1
    exact e1
  refine call_len_set ho hex hd hf (by rw [e]; omega) ⟨.int (ns.length : Nat), H1, I2.tok _, ⟨_, by rw [e]⟩, q1⟩

/-! ### xs.extend(t), t a tuple -/
open PySem.SeqAt PySem.AutoSeq1 PySem.MeetsSeq PySem.MeetsSeq2 PySem.MeetsSeq3 in
theorem ext_list_tup (l : Addr) (items : Array Value) (n : Nat) (b : Addr) (items2 : Array Value) (n2 : Nat) (dd : Option Addr) (sl : Array (Option Value)) (hs0 : ¬(!items.isEmpty && Builtin.List.listTooLong (items.size + items2.size)) = true) (hs1 : items.size ≤ sizeLine) (hs2 : items.size + items2.size ≤ sizeLine + 1) :
    Meets (Builtin.«list.extend» ⟨[.ref l, .ref b], []⟩) (fun _ R s => s.heap.get? l = some { cls := .type "list", dict := none, data := .seq items n, slots := #[] } ∧
      s.heap.get? b = some { cls := .type "tuple", dict := dd, data := .seq items2 n2, slots := sl } ∧ R (.ok (.ret Value.none)) { s with heap := s.heap.update l (Obj.mapSeq fun x => x ++ items2), toks := s.toks }) :=
  .of_wp fun prog w A R s h => by
    obtain ⟨hp, g, d, tk, os⟩ := s
    obtain ⟨hl, hb, h⟩ := h
    have f1 := idx_int
    have f2 := PySem.AutoSeq1.sub_tuple_tuple
    have f3 := PySem.AutoSeq1.sub_list_list
    have f4 := PySem.AutoSeq1.sub_tuple_list
    have f5 := PySem.AutoSeq1.sub_list_tuple
    have hz' : (items ++ items2).size ≤ sizeLine + 1 := by rw [Array.size_append]; exact hs2
    wp_walk using (wpAny_updateSeq hl rfl (hz := hs1) (_hz' := hz')), wpAny_loadPart' hl, wpAny_loadPart' hb
    exact ⟨_, rfl, h⟩
def rExtendT (K : PySem.W.Frag) : V → List V → Hp → VK → Prop := fun x vs H Q => ∃ l b xs zs, x = .ref l ∧ vs = [.ref b] ∧ H l = some (.lst xs) ∧ SqT K H b zs ∧ xs.length + zs.length ≤ sizeLine ∧ Q .non (upd H l (.lst (xs ++ zs)))
theorem mt_extendT {X : Cx} : MtM X "list.extend" (rExtendT X.K) := by
  intro pins s σ H x vs v us Q I rx rv h
  obtain ⟨l, b, xs, zs, rfl, rfl, hH, hB, hz, q⟩ := h
  cases rx
  obtain ⟨u, rfl, ru⟩ := rv.one
  cases ru
  obtain ⟨z, its, n, r, hl, e⟩ := I.lstM hH
  obtain ⟨its2, r2, ⟨⟨cls2, dd2, data2, sl2⟩, e2, hc2, n2, hd2⟩, z2⟩ := I.tuple hB
  simp only at hc2 hd2
  subst hc2 hd2
  have hl2 := r2.length
  have hsz : its.toArray.size + its2.toArray.size ≤ sizeLine := by rw [List.size_toArray, List.size_toArray]; omega
  have hlong : ¬ (!its.toArray.isEmpty && Builtin.List.listTooLong (its.toArray.size + its2.toArray.size)) = true := by
    rw [notLongL hsz, Bool.and_false]
    exact Bool.false_ne_true
  refine call_meets PySem.F.slot_list_extend ⟨_, e, rfl⟩ PySem.F.entry_list_extend (PySem.F.args_list_extend_2 _ _)
    (ext_list_tup l its.toArray n b its2.toArray n2 dd2 sl2 hlong (by rw [List.size_toArray]; omega) (by omega)) ⟨e, e2, ?_⟩
  refine ⟨.non, _, I.lset (its' := its ++ its2) hH e (by simp) (r.append r2) ?_, rfl, q⟩
  rw [List.length_append]
  omega

/-! ### {t: v}, t a tuple -/
def tDispT (tk tv : TE) : TE := fun σ H Q => ∀ p, H p = none → tk σ (upd H p (.dT [])) fun x H1 => tv σ H1 fun y H2 => ∃ b k, x = .ref b ∧ H2 b = some (.tup (k.map kV)) ∧ H2 p = some (.dT []) ∧ Q (.ref p) (upd H2 p (.dT [(k, y)]))
theorem pe_dispT {X : Cx} {pos : Pos} {ke ve : Expr} {tk tv : TE} (hu : X.A.units + 1 < cLine) (hk : PE X ke tk) (hv : PE X ve tv) : PE X (.Dict [some ke] [ve] pos) (tDispT tk tv) := by
  refine ⟨fun pins s σ H Q I q => ?_⟩
  have hn := I.hok.fresh (Nat.le_refl s.heap.objs.size)
  have I1 := I.laid (a := s.heap.objs.size) (o := .dT []) (h' := s.heap.push { cls := .type "dict", data := .dict #[] }) (t' := s.toks) (fun _ _ q => Heap.get?_push_of_some _ q) (Nat.le_refl _) (dt_empty s.heap I.big)
  refine wpAny_Dict_any rfl rfl (by simp) (by simp) ?_
  refine thn ((pps_cons (pos := pos) hk hv pps_nil).run pins _ σ _ (fun ps H2 => match ps with
    | [(x, y)] => ∃ b k, x = .ref b ∧ H2 b = some (.tup (k.map kV)) ∧ H2 s.heap.objs.size = some (.dT []) ∧ Q (.ref s.heap.objs.size) (upd H2 s.heap.objs.size (.dT [(k, y)]))
    | _ => False) I1 (q _ hn)) fun ws s2 hh => ?_
  obtain ⟨ps, H2, I2, rel, hh⟩ := hh
  match ps, rel, hh with
  | [(x, y)], .cons (b := (u, v)) ⟨rx, ry⟩ .nil, ⟨b, k, ex, hb, hp, hQ⟩ =>
    subst ex
    obtain rfl : u = Value.ref b := rx
    obtain ⟨z, hd, xs, rel, dd⟩ := dt_of I2.hok hp
    cases rel
    unfold storeAll
    rw [List.forIn_cons]
    refine wpAny_bind (wpAny_bind (wpAny_dictSet_heap (hsz := Nat.zero_le _) (show X.A.units < cLine by omega) (key_of I2.hok hb) dd fun h' dd' hs => wpAny_pure ?_))
    show wpAny _ _ (forIn [] PUnit.unit _) _ _ _
    rw [List.forIn_nil]
    refine wpAny_pure ?_
    obtain ⟨o, es, ep, hq, h2, h3, h4, _, h5⟩ := dd'
    have kt : KT (upd H2 s.heap.objs.size (.dT [(k, y)])) [(k, y)] (storedH [] k b v) := .cons ⟨rfl, (by rw [upd_ne (ne_of hb hp (fun z => nomatch z))]; exact hb), ry⟩ .nil
    exact ⟨.ref s.heap.objs.size, upd H2 s.heap.objs.size (.dT [(k, y)]), d_write (ob := .dT [(k, y)]) I2 (by rw [hp]; exact True.intro) hs ⟨o, hq⟩ ⟨by show 1 ≤ sizeLine; decide, hd, _, kt, o, es, ep, hq, h2, h3, h4, h5⟩, rfl, hQ⟩
end G
set_option Elab.async false
set_option linter.all false
set_option maxRecDepth 100000
set_option maxHeartbeats 4000000
/-! # zip(a, b, strict=True) over lists and tuples of one length -/
namespace ZS
open PySem PySem.Spec PyProof.Rows L2
/-- an iterator over a list (true) or a tuple (false), what it walks -/
def SI (b : Bool) (h : Heap) (it l : Addr) (i : Nat) : Prop := match b with
  | true => h.IsListIter it l i
  | false => h.IsTupleIter it l i
def SS (b : Bool) (h : Heap) (l : Addr) (xs : Array Value) : Prop := match b with
  | true => h.IsList l xs
  | false => h.IsTuple l xs
theorem SI.at {b : Bool} {h h' : Heap} {it l : Addr} {i : Nat} (x : SI b h it l i) (k : ∀ o, h.get? it = some o → h'.get? it = some o) : SI b h' it l i := by
  cases b with
  | true => exact Heap.IsListIter.at x k
  | false => exact Heap.IsTupleIter.at x k
theorem SI.obj {b : Bool} {h : Heap} {it l : Addr} {i : Nat} (x : SI b h it l i) : ∃ o, h.get? it = some o ∧ ∀ v, o.data ≠ .cell v := by
  cases b with
  | true =>
    obtain ⟨o, e, _, d⟩ := x
    exact ⟨o, e, fun v q => by rw [d] at q; cases q⟩
  | false =>
    obtain ⟨o, e, _, d⟩ := x
    exact ⟨o, e, fun v q => by rw [d] at q; cases q⟩
theorem SI.ext {b : Bool} {h h' : Heap} {a it l : Addr} {i : Nat} (x : SI b h it l i) (e : Heap.ExtBut a h h') (n : it ≠ a) : SI b h' it l i := x.at fun o q => e _ _ n q
theorem SS.ext {b : Bool} {h h' : Heap} {a l : Addr} {xs : Array Value} (x : SS b h l xs) (e : Heap.ExtBut a h h') (n : l ≠ a) : SS b h' l xs := by
  cases b with
  | true => exact Heap.IsList.extBut x e n
  | false =>
    obtain ⟨o, ho, hc, m, hd⟩ := (show h.IsTuple l xs from x)
    exact ⟨o, e _ _ n ho, hc, m, hd⟩
section
variable {prog : Program} {w : World} {A : Around} {E : Value → Shared → Prop} {s : Shared}
theorem nextOrEnd_item {b : Bool} {it l : Addr} {i : Nat} {items : Array Value} {x : Value} {Q : Option Value → Shared → Prop} (hit : SI b s.heap it l i)
    (hl : SS b s.heap l items) (hx : items[i]? = some x) (hQ : ∀ h', SI b h' it l (i + 1) → Heap.SameBut it s.heap h' → Q (some x) { s with heap := h' }) :
    wpAny (model prog w) A (Builtin.SmallTypes.nextOrEnd (.ref it)) Q E s := by
  unfold Builtin.SmallTypes.nextOrEnd
  refine wpAny_bind (wpAny_attempt ?_)
  cases b with
  | true => exact wpAny_nextOf_list_item hit hl hx fun h' a c => wpAny_pure (hQ h' a c)
  | false => exact RZ.nextOf_tuple_item hit hl hx fun h' a c => wpAny_pure (hQ h' a c)
theorem nextOrEnd_end {b : Bool} {it l : Addr} {i : Nat} {items : Array Value} {Q : Option Value → Shared → Prop} (hh : A.handled = none) (hit : SI b s.heap it l i)
    (hl : SS b s.heap l items) (hx : items[i]? = none) (hQ : ∀ h', Heap.ExtBut it s.heap h' → Q none { s with heap := h' }) :
    wpAny (model prog w) A (Builtin.SmallTypes.nextOrEnd (.ref it)) Q E s := by
  unfold Builtin.SmallTypes.nextOrEnd
  refine wpAny_bind (wpAny_attempt ?_)
  have fin : ∀ h' e, Heap.ExtBut it s.heap h' → (∃ o, h'.get? e = some o ∧ o.cls = .type "StopIteration") →
      wpAny (model prog w) A (do if ← isInstance (.ref e) (.type "StopIteration") then pure none else throw (.ref e) : Sem (Option Value)) Q E { s with heap := h' } := fun h' e hk ⟨o, ho, hc⟩ => by
    refine wpAny_bind (wpAny_isInstance (T := "StopIteration") (b := true) ⟨o, ho, hc⟩ isSubtype_stop ?_)
    exact wpAny_pure (hQ h' hk)
  cases b with
  | true => exact wpAny_nextOf_list_end hh hit hl hx fun h' e hk he => fin h' e hk he
  | false => exact RZ.nextOf_tuple_end hh hit hl hx fun h' e hk he => fin h' e hk he
theorem stop_raises {α : Type} {Q : α → Shared → Prop} (hh : A.handled = none)
    (hE : ∀ h' e, (∀ b o, s.heap.get? b = some o → h'.get? b = some o) → (∃ o, h'.get? e = some o ∧ o.cls = .type "StopIteration") → E (.ref e) { s with heap := h' }) :
    wpAny (model prog w) A (Builtin.SmallTypes.stopIteration : Sem α) Q E s := by
  unfold Builtin.SmallTypes.stopIteration
  show wpAny _ _ (newExc (.type "StopIteration") [] >>= _) _ _ _
  refine wpAny_bind ?_
  simp only [newExc, newTuple]
  refine wpAny_bind (wpAny_newObj_type ?_ (by size_fits))
  refine wpAny_bind (m := firstArgMember _ _) (wpAny_of_eq (a := Value.none) (by first | rfl | (simp only [firstArgMember]; rfl)) ?_)
  refine wpAny_newObj_type ?_ (by size_fits)
  simp only [raiseNew]
  refine wpAny_bind (wpAny_handled ?_)
  first | rw [show A.in1.handled = none from hh] | rw [hh]
  refine wpAny_bind (wpAny_pure (wpAny_throw ?_))
  exact hE _ _ (fun b o e => Heap.get?_push_of_some _ (Heap.get?_push_of_some _ e)) ⟨_, Heap.get?_push_size _ rfl, rfl⟩
/-- the strict zip object -/
abbrev IsZipS (h : Heap) (z TI TO : Addr) (f0 : Value) : Prop :=
  h.get? z = some { cls := .type "zip", dict := none, data := .fields #[f0, .bool false, .bool true, .ref TI, .ref TO], slots := #[] }
theorem next_item {b1 b2 : Bool} {z TI TO i1 i2 l1 l2 : Addr} {k1 k2 : Nat} {xs ys : Array Value} {x y a b : Value} {Q : Value → Shared → Prop} (D : ZipApart z TI TO i1 i2 l1 l2)
    (hz : IsZipS s.heap z TI TO .none) (hTI : IsPair s.heap TI (.ref i1) (.ref i2)) (hTO : IsPair s.heap TO a b)
    (h1 : SI b1 s.heap i1 l1 k1) (h2 : SI b2 s.heap i2 l2 k2) (hl1 : SS b1 s.heap l1 xs) (hl2 : SS b2 s.heap l2 ys) (hx : xs[k1]? = some x) (hy : ys[k2]? = some y)
    (hQ : ∀ h', IsZipS h' z TI TO (rawInt s.heap.objs.size) → IsPair h' TO x y → SI b1 h' i1 l1 (k1 + 1) → SI b2 h' i2 l2 (k2 + 1) → IsPair h' s.heap.objs.size x y → h'.objs.size = s.heap.objs.size + 1 →
      (∀ c o, c ≠ z → c ≠ TO → c ≠ i1 → c ≠ i2 → s.heap.get? c = some o → h'.get? c = some o) → Q (.ref s.heap.objs.size) { s with heap := h' }) :
    wpAny (model prog w) A (Builtin.«zip.__next__» ⟨[.ref z], []⟩) (fun fin s' => ∃ v, fin = .done (.ret v) ∧ Q v s') E s := by
  show wpAny _ _ (field (.ref z) 2 >>= _) _ _ _
  refine wpAny_bind (wpAny_field hz rfl (x := .bool true) rfl ?_)
  show wpAny _ _ (field (.ref z) 3 >>= _) _ _ _
  refine wpAny_bind (wpAny_field hz rfl (x := .ref TI) rfl ?_)
  refine wpAny_bind (wpAny_seqItems hTI rfl ?_)
  show wpAny _ _ (Builtin.SmallTypes.ownedTupleIsFree (.ref z) >>= _) _ _ _
  refine wpAny_bind ?_
  unfold Builtin.SmallTypes.ownedTupleIsFree
  refine wpAny_bind (wpAny_field hz rfl (x := .none) rfl (wpAny_pure ?_))
  simp only [if_true]
  refine wpAny_bind (wpAny_rule ?_)
  refine wpAny_bind (wpAny_field hz rfl (x := .ref TO) rfl ?_)
  refine wpAny_bind (wpAny_setField_rec hz (by simp) fun g1 hz1 hs1 => ?_)
  replace hz1 : IsZipS g1 z TI TO .ellipsis := hz1
  refine wpAny_bind ?_
  simp only [List.zipIdx_cons, List.zipIdx_nil, List.forIn_cons, List.forIn_nil]
  refine wpAny_bind (wpAny_bind (wpAny_onRaise ?_))
  show wpAny _ _ (Builtin.SmallTypes.nextOrEnd (.ref i1)) _ _ _
  refine nextOrEnd_item (h1.ext hs1.extBut D.i1z) (hl1.ext hs1.extBut D.l1z) hx fun g2 h12 hs2 => ?_
  have hTO2 : IsPair g2 TO a b := hs2.extBut _ _ D.TOi1 (hs1.extBut _ _ D.TOz hTO)
  refine wpAny_bind (wpAny_seqItems hTO2 rfl ?_)
  refine wpAny_bind (wpAny_updateSeq_pair hTO2 fun g3 hTO3 hs3 => ?_)
  replace hTO3 : IsPair g3 TO x b := hTO3
  refine wpAny_bind (wpAny_letGo (wpAny_pure ?_))
  refine wpAny_bind (wpAny_bind (wpAny_onRaise ?_))
  show wpAny _ _ (Builtin.SmallTypes.nextOrEnd (.ref i2)) _ _ _
  refine nextOrEnd_item (((h2.ext hs1.extBut D.i2z).ext hs2.extBut D.i12.symm).ext hs3.extBut D.TOi2.symm)
    (((hl2.ext hs1.extBut D.l2z).ext hs2.extBut D.l2i1).ext hs3.extBut D.l2TO) hy fun g4 h24 hs4 => ?_
  have hTO4 : IsPair g4 TO x b := hs4.extBut _ _ D.TOi2 hTO3
  refine wpAny_bind (wpAny_seqItems hTO4 rfl ?_)
  refine wpAny_bind (wpAny_updateSeq_pair hTO4 fun g5 hTO5 hs5 => ?_)
  replace hTO5 : IsPair g5 TO x y := hTO5
  refine wpAny_bind (wpAny_letGo (wpAny_pure (wpAny_pure ?_)))
  refine wpAny_bind (wpAny_seqItems hTO5 rfl ?_)
  refine wpAny_bind (wpAny_newTuple ?_)
  have hsz : g5.objs.size = s.heap.objs.size := by rw [hs5.1, hs4.1, hs3.1, hs2.1, hs1.1]
  have hz5 : IsZipS g5 z TI TO .ellipsis := hs5.extBut _ _ D.TOz.symm (hs4.extBut _ _ D.i2z.symm (hs3.extBut _ _ D.TOz.symm (hs2.extBut _ _ D.i1z.symm hz1)))
  have hk5 : ∀ c o, c ≠ z → c ≠ TO → c ≠ i1 → c ≠ i2 → s.heap.get? c = some o → g5.get? c = some o := fun c o c1 c2 c3 c4 e =>
    hs5.extBut _ _ c2 (hs4.extBut _ _ c4 (hs3.extBut _ _ c2 (hs2.extBut _ _ c3 (hs1.extBut _ _ c1 e))))
  have h15 : SI b1 g5 i1 l1 (k1 + 1) := ((h12.ext hs3.extBut D.TOi1.symm).ext hs4.extBut D.i12).ext hs5.extBut D.TOi1.symm
  have h25 : SI b2 g5 i2 l2 (k2 + 1) := h24.ext hs5.extBut D.TOi2.symm
  have hzlt : z < g5.objs.size := Heap.lt_size hz5
  have hTOlt : TO < g5.objs.size := Heap.lt_size hTO5
  show wpAny _ _ (Builtin.SmallTypes.ownedTupleHandOut (.ref z) (.ref g5.objs.size) >>= _) _ _ _
  refine wpAny_bind ?_
  unfold Builtin.SmallTypes.ownedTupleHandOut
  have hz6 : IsZipS (g5.push { cls := .type "tuple", data := .seq #[x, y] }) z TI TO .ellipsis := Heap.get?_push_of_some _ hz5
  refine wpAny_bind (wpAny_setField_rec hz6 (by simp) fun g7 hz7 hs7 => ?_)
  replace hz7 : IsZipS g7 z TI TO (rawInt g5.objs.size) := hz7
  refine wpAny_setField_rec hz7 (by simp) fun g8 hz8 hs8 => ?_
  replace hz8 : IsZipS g8 z TI TO (rawInt g5.objs.size) := hz8
  have up : ∀ c o, c ≠ z → g5.get? c = some o → g8.get? c = some o := fun c o c1 e => hs8.extBut _ _ c1 (hs7.extBut _ _ c1 (Heap.get?_push_of_some _ e))
  have hT8 : IsPair g8 g5.objs.size x y := hs8.extBut _ _ (Nat.ne_of_gt hzlt) (hs7.extBut _ _ (Nat.ne_of_gt hzlt) (Heap.get?_push_size _ rfl))
  have n8 : g8.objs.size = g5.objs.size + 1 := by rw [hs8.1, hs7.1, Heap.size_push]
  rw [hsz] at hz8 hT8 n8
  refine wpAny_pure ⟨_, rfl, ?_⟩
  show Q (.ref g5.objs.size) _
  rw [hsz]
  exact hQ g8 hz8 (up _ _ D.TOz hTO5) (h15.at fun o e => up _ o D.i1z e) (h25.at fun o e => up _ o D.i2z e) hT8 n8 fun c o c1 c2 c3 c4 e => up c o c1 (hk5 c o c1 c2 c3 c4 e)
theorem next_end {b1 b2 : Bool} {z TI TO i1 i2 l1 l2 : Addr} {k1 k2 : Nat} {xs ys : Array Value} {a b : Value} {Q : Fin → Shared → Prop} (hh : A.handled = none) (D : ZipApart z TI TO i1 i2 l1 l2)
    (hz : IsZipS s.heap z TI TO .none) (hTI : IsPair s.heap TI (.ref i1) (.ref i2)) (hTO : IsPair s.heap TO a b)
    (h1 : SI b1 s.heap i1 l1 k1) (h2 : SI b2 s.heap i2 l2 k2) (hl1 : SS b1 s.heap l1 xs) (hl2 : SS b2 s.heap l2 ys) (hx : xs[k1]? = none) (hy : ys[k2]? = none)
    (hE : ∀ h' e, (∀ c o, c ≠ z → c ≠ TO → c ≠ i1 → c ≠ i2 → s.heap.get? c = some o → h'.get? c = some o) → (∃ o, h'.get? e = some o ∧ o.cls = .type "StopIteration") → E (.ref e) { s with heap := h' }) :
    wpAny (model prog w) A (Builtin.«zip.__next__» ⟨[.ref z], []⟩) Q E s := by
  show wpAny _ _ (field (.ref z) 2 >>= _) _ _ _
  refine wpAny_bind (wpAny_field hz rfl (x := .bool true) rfl ?_)
  show wpAny _ _ (field (.ref z) 3 >>= _) _ _ _
  refine wpAny_bind (wpAny_field hz rfl (x := .ref TI) rfl ?_)
  refine wpAny_bind (wpAny_seqItems hTI rfl ?_)
  show wpAny _ _ (Builtin.SmallTypes.ownedTupleIsFree (.ref z) >>= _) _ _ _
  refine wpAny_bind ?_
  unfold Builtin.SmallTypes.ownedTupleIsFree
  refine wpAny_bind (wpAny_field hz rfl (x := .none) rfl (wpAny_pure ?_))
  simp only [if_true]
  refine wpAny_bind (wpAny_rule ?_)
  refine wpAny_bind (wpAny_field hz rfl (x := .ref TO) rfl ?_)
  refine wpAny_bind (wpAny_setField_rec hz (by simp) fun g1 hz1 hs1 => ?_)
  replace hz1 : IsZipS g1 z TI TO .ellipsis := hz1
  refine wpAny_bind ?_
  simp only [List.zipIdx_cons, List.zipIdx_nil, List.forIn_cons, List.forIn_nil]
  refine wpAny_bind (wpAny_bind (wpAny_onRaise ?_))
  show wpAny _ _ (Builtin.SmallTypes.nextOrEnd (.ref i1)) _ _ _
  refine nextOrEnd_end hh (h1.ext hs1.extBut D.i1z) (hl1.ext hs1.extBut D.l1z) hx fun g2 hs2 => ?_
  have hz2 : IsZipS g2 z TI TO .ellipsis := hs2 _ _ D.i1z.symm hz1
  refine wpAny_bind (wpAny_setField_rec hz2 (by simp) fun g3 hz3 hs3 => ?_)
  refine wpAny_bind ?_
  show wpAny _ _ ((do
    for (it, j) in ([(Value.ref i2, 1)] : List (Value × Nat)) do
      if (← Builtin.SmallTypes.nextOrEnd it).isSome then
        rule "zip.__next__.longer"; raiseError "ValueError" s!"zip() argument {j + 1} is longer than {(if j == 1 then "argument 1" else s!"arguments 1-{j}" : String)}"
    rule "zip.__next__.all-ended"; Builtin.SmallTypes.stopIteration) : Sem PySem.Fin) _ _ _
  rw [List.forIn_cons]
  have hz3' : IsZipS g3 z TI TO .none := hz3
  refine wpAny_bind (wpAny_bind (wpAny_bind ?_))
  refine nextOrEnd_end hh (((h2.ext hs1.extBut D.i2z).ext hs2 D.i12.symm).ext hs3.extBut D.i2z) (((hl2.ext hs1.extBut D.l2z).ext hs2 D.l2i1).ext hs3.extBut D.l2z) hy fun g4 hs4 => ?_
  rw [if_neg (by simp)]
  refine wpAny_pure ?_
  show wpAny _ _ (forIn (m := Sem) ([] : List (Value × Nat)) PUnit.unit _) _ _ _
  rw [List.forIn_nil]
  refine wpAny_pure (wpAny_bind (wpAny_rule ?_))
  refine stop_raises hh fun h' e hk he => hE h' e (fun c o c1 c2 c3 c4 x => hk c o (hs4 _ _ c4 (hs3.extBut _ _ c1 (hs2 _ _ c3 (hs1.extBut _ _ c1 x))))) he
theorem pyNext_item {b1 b2 : Bool} {z TI TO i1 i2 l1 l2 : Addr} {k1 k2 : Nat} {xs ys : Array Value} {x y a b : Value} {Q : Option Value → Shared → Prop} (D : ZipApart z TI TO i1 i2 l1 l2)
    (hz : IsZipS s.heap z TI TO .none) (hTI : IsPair s.heap TI (.ref i1) (.ref i2)) (hTO : IsPair s.heap TO a b)
    (h1 : SI b1 s.heap i1 l1 k1) (h2 : SI b2 s.heap i2 l2 k2) (hl1 : SS b1 s.heap l1 xs) (hl2 : SS b2 s.heap l2 ys) (hx : xs[k1]? = some x) (hy : ys[k2]? = some y)
    (hQ : ∀ h', IsZipS h' z TI TO (rawInt s.heap.objs.size) → IsPair h' TO x y → SI b1 h' i1 l1 (k1 + 1) → SI b2 h' i2 l2 (k2 + 1) → IsPair h' s.heap.objs.size x y → h'.objs.size = s.heap.objs.size + 1 →
      (∀ c o, c ≠ z → c ≠ TO → c ≠ i1 → c ≠ i2 → s.heap.get? c = some o → h'.get? c = some o) → Q (some (.ref s.heap.objs.size)) { s with heap := h' }) :
    wpAny (model prog w) A (pyNext (.ref z)) Q E s := by
  have hT : s.TypeIs (.ref z) "zip" := ⟨_, hz, rfl⟩
  unfold pyNext
  exact wpAny_bind (wpAny_attempt (wpAny_callSpecial?_slot (name := Str.ofString "__next__") hT F.slot_zip_next
    (wpAny_call_entry F.slot_zip_next hT F.entry_zip_next
      (next_item D hz hTI hTO h1 h2 hl1 hl2 hx hy fun h' a1 a2 a3 a4 a5 a6 a7 => wpAny_pure (hQ h' a1 a2 a3 a4 a5 a6 a7)) (F.args_zip_next_1 _))))
theorem pyNext_end {b1 b2 : Bool} {z TI TO i1 i2 l1 l2 : Addr} {k1 k2 : Nat} {xs ys : Array Value} {a b : Value} {Q : Option Value → Shared → Prop} (hh : A.handled = none) (D : ZipApart z TI TO i1 i2 l1 l2)
    (hz : IsZipS s.heap z TI TO .none) (hTI : IsPair s.heap TI (.ref i1) (.ref i2)) (hTO : IsPair s.heap TO a b)
    (h1 : SI b1 s.heap i1 l1 k1) (h2 : SI b2 s.heap i2 l2 k2) (hl1 : SS b1 s.heap l1 xs) (hl2 : SS b2 s.heap l2 ys) (hx : xs[k1]? = none) (hy : ys[k2]? = none)
    (hQ : ∀ h', (∀ c o, c ≠ z → c ≠ TO → c ≠ i1 → c ≠ i2 → s.heap.get? c = some o → h'.get? c = some o) → Q none { s with heap := h' }) : wpAny (model prog w) A (pyNext (.ref z)) Q E s := by
  have hT : s.TypeIs (.ref z) "zip" := ⟨_, hz, rfl⟩
  unfold pyNext
  refine wpAny_bind (wpAny_attempt (wpAny_callSpecial?_slot (name := Str.ofString "__next__") hT F.slot_zip_next
    (wpAny_call_entry F.slot_zip_next hT F.entry_zip_next (next_end hh D hz hTI hTO h1 h2 hl1 hl2 hx hy fun h' e hk he => ?_) (F.args_zip_next_1 _))))
  obtain ⟨o, ho, hc⟩ := he
  refine wpAny_bind (wpAny_isInstance (T := "StopIteration") (b := true) ⟨o, ho, hc⟩ isSubtype_stop ?_)
  exact wpAny_pure (hQ _ hk)
theorem letGo_zip {elts : List Expr} {x1} {pos : Pos} {z TI TO T : Addr} {Q : Unit → Shared → Prop} (hz : IsZipS s.heap z TI TO (rawInt T))
    (hQ : ∀ h', IsZipS h' z TI TO .none → Heap.SameBut z s.heap h' → Q () { s with heap := h' }) :
    wpAny (model prog w) A (letOwnedTupleGo (.Tuple elts x1 pos) (.ref z) (.ref T)) Q E s := by
  unfold letOwnedTupleGo
  refine wpAny_bind (wpAny_load hz ?_)
  show wpAny _ _ (if (["enumerate", "zip", "dict_itemiterator", "dict_reverseitemiterator", "odict_iterator", "itertools.zip_longest", "itertools.pairwise"].contains "zip" &&
      (#[rawInt T, .bool false, .bool true, .ref TI, .ref TO] : Array Value)[0]? == some (rawInt T)) = true then _ else _) Q E s
  rw [if_pos (by simp)]
  refine wpAny_bind (wpAny_rule ?_)
  show wpAny _ _ (setField (.ref z) 0 .none) Q E s
  exact wpAny_setField_rec hz (by simp) fun h' hz' hs' => hQ h' hz' hs'
theorem pyIter_zip {z TI TO : Addr} {f0 : Value} {Q : Value → Shared → Prop} (hz : IsZipS s.heap z TI TO f0) (h : Q (.ref z) s) : wpAny (model prog w) A (pyIter (.ref z)) Q E s := by
  have hT : s.TypeIs (.ref z) "zip" := ⟨_, hz, rfl⟩
  refine wpAny_pyIter_slot hT F.slot_zip_iter (wpAny_call_entry F.slot_zip_iter hT F.entry_zip_iter ?_ (F.args_zip_iter_1 _))
  show wpAny _ _ (ret (.ref z)) _ _ s
  exact wpAny_pure ⟨_, rfl, "zip", _, hT, F.slot_zip_next.lookup, h⟩
end
end ZS
set_option Elab.async false
set_option linter.all false
set_option maxRecDepth 100000
set_option maxHeartbeats 4000000
/-! # zip(.., strict=True): the call, the walk -/
namespace ZS
open PySem PySem.Spec PyProof.Rows L2
abbrev skw : List (Str × Value) := [(Str.ofString "strict", .bool true)]
theorem typeCallS (a b : Value) : checkTypeCall "zip" ⟨[a, b], skw⟩ = pure () := by kernel_rfl
theorem newCallS (a b : Value) : checkBuiltinCall "zip.__new__" ⟨[.type "zip", a, b], skw⟩ = pure () := by kernel_rfl
theorem initArgsS (a b c : Value) : argsOk "object.__init__" ⟨[a, b, c], skw⟩ := by
  unfold argsOk
  rw [signature?_of (id := "object.__init__") (n := ['_', '_', 't', 'i', 'n', 'i', '_', '_']) (o := ['t', 'c', 'e', 'j', 'b', 'o']) (by kernel_rfl) PySem.F.owner_object]
  kernel_rfl
/-- the iterator object over a source -/
def itO (b : Bool) (l : Addr) : Obj := { cls := .type (match b with | true => "list_iterator" | false => "tuple_iterator"), data := .fields #[.ref l, .int 0 0] }
abbrev zH1 (b1 : Bool) (h : Heap) (l1 : Addr) : Heap := h.push (itO b1 l1)
abbrev zH2 (b1 b2 : Bool) (h : Heap) (l1 l2 : Addr) : Heap := (zH1 b1 h l1).push (itO b2 l2)
abbrev zH3 (b1 b2 : Bool) (h : Heap) (l1 l2 : Addr) : Heap := (zH2 b1 b2 h l1 l2).push { cls := .type "tuple", data := .seq #[.ref h.objs.size, .ref (zH1 b1 h l1).objs.size] }
abbrev zH4 (b1 b2 : Bool) (h : Heap) (l1 l2 : Addr) : Heap := (zH3 b1 b2 h l1 l2).push { cls := .type "tuple", data := .seq #[.none, .none] }
abbrev zH5 (b1 b2 : Bool) (h : Heap) (l1 l2 : Addr) : Heap := (zH4 b1 b2 h l1 l2).push { cls := .type "zip", data := .fields #[.none, .bool false, .bool true, .ref (zH2 b1 b2 h l1 l2).objs.size, .ref (zH3 b1 b2 h l1 l2).objs.size] }
theorem iter_src {prog : Program} {w : World} {A : Around} {E : Value → Shared → Prop} {s : Shared} {b : Bool} {l : Addr} {xs : Array Value} {Q : Value → Shared → Prop} (hl : SS b s.heap l xs)
    (hQ : Q (.ref s.heap.objs.size) { s with heap := s.heap.push (itO b l) }) : wpAny (model prog w) A (pyIter (.ref l)) Q E s := by
  cases b with
  | true => exact wpAny_pyIter_list hl hQ
  | false => exact wpAny_pyIter_tuple hl hQ
theorem SS.push {b : Bool} {h : Heap} {l : Addr} {xs : Array Value} (x : SS b h l xs) (o : Obj) : SS b (h.push o) l xs := by
  cases b with
  | true => exact Heap.IsList.push x o
  | false => exact Heap.IsTuple.push x o
theorem SS.lt {b : Bool} {h : Heap} {l : Addr} {xs : Array Value} (x : SS b h l xs) : l < h.objs.size := by
  cases b with
  | true =>
    obtain ⟨o, ho, _⟩ := (show h.IsList l xs from x)
    exact Heap.lt_size ho
  | false =>
    obtain ⟨o, ho, _⟩ := (show h.IsTuple l xs from x)
    exact Heap.lt_size ho
theorem meets_new (b1 b2 : Bool) (l1 l2 : Addr) (xs ys : Array Value) :
    Meets (Builtin.«zip.__new__» ⟨[.type "zip", .ref l1, .ref l2], skw⟩) (fun _ R s => SS b1 s.heap l1 xs ∧ SS b2 s.heap l2 ys ∧
      R (.ok (.ret (.ref (zH4 b1 b2 s.heap l1 l2).objs.size))) { s with heap := zH5 b1 b2 s.heap l1 l2 }) :=
  .of_wp fun prog w A R s h => by
    obtain ⟨hp, g, d, tk, os⟩ := s
    obtain ⟨hl1, hl2, h⟩ := h
    have hsub := sub_zip
    have hL1 : SS b1 (Shared.heap ⟨hp, g, d, tk, os⟩) l1 xs := hl1
    have hL2 : SS b2 (Shared.heap ⟨hp.push (itO b1 l1), g, d, tk, os⟩) l2 ys := SS.push hl2 _
    wp_walk using iter_src hL1, iter_src hL2
    exact ⟨_, rfl, h⟩
theorem init_kw {self a b : Value} :
    Meets (Builtin.«object.__init__» ⟨[self, a, b], skw⟩) (fun _ R s => s.TypeIs self "zip" ∧ R (.ok (.ret .none)) s) := by
  have hl := F.called_zip.init.lookup
  have hm := F.called_zip.made
  have hne : (some "zip.__new__" != some "object.__new__") = true := by decide
  refine Meets.of_wp fun prog w A R s hs => ?_
  obtain ⟨hT, hq⟩ := hs
  repeat (any_goals (first | assumption | wp_step))
  exact ⟨_, rfl, hq⟩
end ZS
set_option Elab.async false
set_option linter.all false
set_option maxRecDepth 100000
set_option maxHeartbeats 4000000
namespace ZS
open PySem PySem.Spec PyProof.Rows L2 RZ
section
variable {prog : Program} {w : World} {A : Around} {E : Value → Shared → Prop} {s : Shared}
theorem call_zipS {b1 b2 : Bool} {l1 l2 : Addr} {xs ys : Array Value} {Q : Value → Shared → Prop} (hl1 : SS b1 s.heap l1 xs) (hl2 : SS b2 s.heap l2 ys)
    (h : ∀ h', IsZipS h' (s.heap.objs.size + 4) (s.heap.objs.size + 2) (s.heap.objs.size + 3) .none → IsPair h' (s.heap.objs.size + 2) (.ref s.heap.objs.size) (.ref (s.heap.objs.size + 1)) →
      IsPair h' (s.heap.objs.size + 3) .none .none → SI b1 h' s.heap.objs.size l1 0 → SI b2 h' (s.heap.objs.size + 1) l2 0 → h'.objs.size = s.heap.objs.size + 5 →
      (∀ c o, s.heap.get? c = some o → h'.get? c = some o) → Q (.ref (s.heap.objs.size + 4)) { s with heap := h' }) :
    wpAny (model prog w) A (call (.type "zip") [.ref l1, .ref l2] skw) Q E s := by
  have ft := F.called_zip
  obtain ⟨c, tl, hmro⟩ := ft.mro
  have hmade := ft.made
  have hsub := ft.sub
  have hok : ∀ obj, argsOk "object.__init__" ⟨[obj, .ref l1, .ref l2], skw⟩ := fun obj => initArgsS obj _ _
  have z1 : (zH1 b1 s.heap l1).objs.size = s.heap.objs.size + 1 := Heap.size_push ..
  have z2 : (zH2 b1 b2 s.heap l1 l2).objs.size = s.heap.objs.size + 2 := by rw [Heap.size_push, z1]
  have z3 : (zH3 b1 b2 s.heap l1 l2).objs.size = s.heap.objs.size + 3 := by rw [Heap.size_push, z2]
  have z4 : (zH4 b1 b2 s.heap l1 l2).objs.size = s.heap.objs.size + 4 := by rw [Heap.size_push, z3]
  have z5 : (zH5 b1 b2 s.heap l1 l2).objs.size = s.heap.objs.size + 5 := by rw [Heap.size_push, z4]
  have g5 : (zH5 b1 b2 s.heap l1 l2).get? (zH4 b1 b2 s.heap l1 l2).objs.size = some _ := Heap.get?_push_size _ rfl
  have g4 : (zH5 b1 b2 s.heap l1 l2).get? (zH3 b1 b2 s.heap l1 l2).objs.size = some _ := Heap.get?_push_of_some _ (Heap.get?_push_size _ rfl)
  have g3 : (zH5 b1 b2 s.heap l1 l2).get? (zH2 b1 b2 s.heap l1 l2).objs.size = some _ := Heap.get?_push_of_some _ (Heap.get?_push_of_some _ (Heap.get?_push_size _ rfl))
  have g2 : (zH5 b1 b2 s.heap l1 l2).get? (zH1 b1 s.heap l1).objs.size = some _ := Heap.get?_push_of_some _ (Heap.get?_push_of_some _ (Heap.get?_push_of_some _ (Heap.get?_push_size _ rfl)))
  have g1 : (zH5 b1 b2 s.heap l1 l2).get? s.heap.objs.size = some _ := Heap.get?_push_of_some _ (Heap.get?_push_of_some _ (Heap.get?_push_of_some _ (Heap.get?_push_of_some _ (Heap.get?_push_size _ rfl))))
  rw [z2, z3, z4] at g5
  rw [z1, z2] at g3
  rw [z3] at g4
  rw [z1] at g2
  have s1 : SI b1 (zH5 b1 b2 s.heap l1 l2) s.heap.objs.size l1 0 := by
    cases b1 with
    | true => exact ⟨_, g1, rfl, rfl⟩
    | false => exact ⟨_, g1, rfl, rfl⟩
  have s2 : SI b2 (zH5 b1 b2 s.heap l1 l2) (s.heap.objs.size + 1) l2 0 := by
    cases b2 with
    | true => exact ⟨_, g2, rfl, rfl⟩
    | false => exact ⟨_, g2, rfl, rfl⟩
  have hQ := h _ g5 g3 g4 s1 s2 z5 fun c o x => Heap.get?_push_of_some _ (Heap.get?_push_of_some _ (Heap.get?_push_of_some _ (Heap.get?_push_of_some _ (Heap.get?_push_of_some _ x))))
  refine wpAny_call (codeAny_of_tree ?_)
  show wpAny _ _ (callAny (.type "zip") _) _ _ _
  refine wpAny_pure ⟨Code.quiet_builtin _ (by decide +kernel), codeAny_builtin F.entry_type_call ?_⟩
  rw [Around.under_plain (weight_type_call_type "zip" _ _) (units_type_call_type "zip" _ _)]
  have h1 := ft.notType
  have h2 := ft.canCreate
  have hct := typeCallS (.ref l1) (.ref l2)
  repeat (any_goals (first | assumption | wp_step))
  have mm := meets_new b1 b2 l1 l2 xs ys prog w A.in1 (fun r s1 => r = .ok (.ret (.ref (s.heap.objs.size + 4))) ∧ s1 = { s with heap := zH5 b1 b2 s.heap l1 l2 }) s ⟨hl1, hl2, by rw [z4]; exact ⟨rfl, rfl⟩⟩
  refine codeAny_mono (show codeAny (model prog w) A.in1 (.call (.builtin "zip.__new__") ⟨[.type "zip", .ref l1, .ref l2], skw⟩) (fun r s1 => r = .ok (.ret (.ref (s.heap.objs.size + 4))) ∧ s1 = { s with heap := zH5 b1 b2 s.heap l1 l2 }) s from
    codeAny_call_builtin ft.plain F.entry_zip_new (wpAny_of_eq (newCallS _ _) mm)) fun r s1 hr => ?_
  obtain ⟨rfl, rfl⟩ := hr
  have hT : Shared.TypeIs { s with heap := zH5 b1 b2 s.heap l1 l2 } (.ref (s.heap.objs.size + 4)) "zip" := ⟨_, g5, rfl⟩
  have hli := ft.init.lookup
  have hbi := ft.init.bind (.ref (s.heap.objs.size + 4))
  repeat (any_goals (first | assumption | wp_step))
  have ii := init_kw (self := .ref (s.heap.objs.size + 4)) (a := .ref l1) (b := .ref l2) prog w A.in1 (fun r s1 => r = .ok (.ret .none) ∧ s1 = { s with heap := zH5 b1 b2 s.heap l1 l2 }) { s with heap := zH5 b1 b2 s.heap l1 l2 } ⟨hT, rfl, rfl⟩
  refine codeAny_mono (show codeAny (model prog w) A.in1 (.call (.builtin "object.__init__") ⟨[.ref (s.heap.objs.size + 4), .ref l1, .ref l2], skw⟩) (fun r s1 => r = .ok (.ret .none) ∧ s1 = { s with heap := zH5 b1 b2 s.heap l1 l2 }) _ from
    codeAny_call_builtin ft.init.plain F.entry_object_init (ft.init.check _ _ _ _ _ _ _ _ hT (hok _) ii)) fun r2 s2 hr2 => ?_
  obtain ⟨rfl, rfl⟩ := hr2
  repeat (any_goals (first | assumption | wp_step))
end

/-! ### the walk -/
/-- a list (true) or a tuple (false) that may be read -/
def SqB (K : PySem.W.Frag) (b : Bool) (H : Hp) (a : Addr) (xs : List V) : Prop := match b with
  | true => SqL K H a xs
  | false => SqT K H a xs
theorem SqB.src {X : Cx} {pins : List (Addr × Obj)} {σ : L2.St} {H : Hp} {s : Shared} {b : Bool} {a : Addr} {xs : List V} (I : Inv X pins σ H s) (h : SqB X.K b H a xs) : ∃ its : List Value, Vals xs its ∧ SS b s.heap a its.toArray := by
  cases b with
  | true =>
    obtain ⟨its, rv, p, _⟩ := I.list h
    exact ⟨its, rv, p.isList⟩
  | false =>
    obtain ⟨its, rv, p, _⟩ := I.tuple h
    exact ⟨its, rv, p⟩
theorem SqB.inj {X : Cx} {pins : List (Addr × Obj)} {σ : L2.St} {H : Hp} {s : Shared} {b : Bool} {a : Addr} {xs ys : List V} (I : Inv X pins σ H s) (h : SqB X.K b H a xs) (h' : SqB X.K b H a ys) : xs = ys := by
  cases b with
  | true => exact I.list_inj h h'
  | false => exact I.tuple_inj h h'
/-- both as they stand at each turn, of one length, the items in new pairs -/
def ItzS (K : PySem.W.Frag) (b1 b2 : Bool) (a b : Addr) : It :=
  ⟨fun i H => ∃ (xs ys : List V) (x y : V), SqB K b1 H a xs ∧ SqB K b2 H b ys ∧ xs[i]? = some x ∧ ys[i]? = some y,
    fun i H v H' => ∃ T x y, v = .ref T ∧ H T = none ∧ H' = upd H T (.tup [x, y]) ∧ (∀ xs, SqB K b1 H a xs → xs[i]? = some x) ∧ ∀ ys, SqB K b2 H b ys → ys[i]? = some y,
    fun i H => ∃ xs ys : List V, SqB K b1 H a xs ∧ SqB K b2 H b ys ∧ xs.length ≤ i ∧ ys.length ≤ i⟩
theorem turn_zipS {P : Program} {w : World} {K : PySem.W.Frag} {b1 b2 : Bool} {elts : List Expr} {kk : Nat} {tpos : Pos} {a b z TI TO i1 i2 : Addr} (D : ZipApart z TI TO i1 i2 a b) :
    Turn P w K (.Tuple elts kk tpos) (ItzS K b1 b2 a b) [z, TI, TO, i1, i2] z (fun i h => IsZipS h z TI TO .none ∧ IsPair h TI (.ref i1) (.ref i2) ∧ (∃ x y, IsPair h TO x y) ∧ SI b1 h i1 a i ∧ SI b2 h i2 b i) where
  mem := by simp
  obj := fun i h st c hc => by
    obtain ⟨hz, hTI, ⟨x, y, hTO⟩, h1, h2⟩ := st
    have e' : c = z ∨ c = TI ∨ c = TO ∨ c = i1 ∨ c = i2 := by simpa using hc
    rcases e' with q | q | q | q | q
    · rw [q]; exact ⟨_, hz, fun v q => nomatch q⟩
    · rw [q]; exact ⟨_, hTI, fun v q => nomatch q⟩
    · rw [q]; exact ⟨_, hTO, fun v q => nomatch q⟩
    · rw [q]; exact h1.obj
    · rw [q]; exact h2.obj
  keep := fun i h h' st k => by
    obtain ⟨hz, hTI, ⟨x, y, hTO⟩, h1, h2⟩ := st
    exact ⟨k z (by simp) _ hz, k TI (by simp) _ hTI, ⟨x, y, k TO (by simp) _ hTO⟩, h1.at fun o q => k i1 (by simp) o q, h2.at fun o q => k i2 (by simp) o q⟩
  item := by
    intro X hP hw hK hc i pins s σ H E I hf st hg
    subst hP hw hK
    obtain ⟨hz, hTI, ⟨x0, y0, hTO⟩, h1, h2⟩ := st
    obtain ⟨xs, ys, x, y, hqx, hqy, hx, hy⟩ := hg
    obtain ⟨its, rv, p⟩ := hqx.src I
    obtain ⟨its2, rv2, p2⟩ := hqy.src I
    obtain ⟨u, hu, ru⟩ := rv.get hx
    obtain ⟨u2, hu2, ru2⟩ := rv2.get hy
    have hzl : z < s.heap.objs.size := Heap.lt_size hz
    refine pyNext_item D hz hTI hTO h1 h2 p p2 (x := u) (y := u2) (by simpa using hu) (by simpa using hu2) fun h' z' TO' h1' h2' hT hsz hk => ?_
    refine ⟨_, rfl, letGo_zip (s := { s with heap := h' }) z' fun h'' z'' sb => ?_⟩
    have hT2 : h''.get? s.heap.objs.size = some { cls := .type "tuple", data := .seq #[u, u2] } := (sb.2 _ (Nat.ne_of_gt hzl)).trans hT
    have new : ObjOk X.prog X.w (upd H s.heap.objs.size (.tup [x, y])) h'' s.heap.objs.size (.tup [x, y]) :=
      ⟨by show 2 ≤ sizeLine; decide, [u, u2], .cons ru (.cons ru2 .nil), ⟨_, hT2, rfl, _, rfl⟩⟩
    have I1 : Inv X pins σ (upd H s.heap.objs.size (.tup [x, y])) { s with heap := h'' } :=
      I.turnedNew (t' := s.toks) (ch := [z, TI, TO, i1, i2]) (fun c o hb q => (sb.2 c (fun q' => hb (by simp [q']))).trans (hk c o (fun q' => hb (by simp [q'])) (fun q' => hb (by simp [q'])) (fun q' => hb (by simp [q'])) (fun q' => hb (by simp [q'])) q)) hf (Nat.le_refl _) new
    refine ⟨.ref s.heap.objs.size, _, I1, rfl, ⟨_, x, y, rfl, I.hok.fresh (Nat.le_refl _), rfl, fun l hl => by rw [hl.inj I hqx]; exact hx, fun l hl => by rw [hl.inj I hqy]; exact hy⟩, ⟨z'', ?_, ⟨u, u2, ?_⟩, ?_, ?_⟩, fun c hcm => ?_⟩
    · exact (sb.2 _ D.TIz).trans (hk _ _ D.TIz D.TITO D.TIi1 D.TIi2 hTI)
    · exact (sb.2 _ D.TOz).trans TO'
    · exact h1'.at fun o q => (sb.2 _ D.i1z).trans q
    · exact h2'.at fun o q => (sb.2 _ D.i2z).trans q
    · have hlt : c < s.heap.objs.size := by
        have e' : c = z ∨ c = TI ∨ c = TO ∨ c = i1 ∨ c = i2 := by simpa using hcm
        rcases e' with q | q | q | q | q
        · rw [q]; exact hzl
        · rw [q]; exact Heap.lt_size hTI
        · rw [q]; exact Heap.lt_size hTO
        · rw [q]; obtain ⟨_, e1, _⟩ := h1.obj; exact Heap.lt_size e1
        · rw [q]; obtain ⟨_, e2, _⟩ := h2.obj; exact Heap.lt_size e2
      rw [upd_ne (Nat.ne_of_lt hlt)]
      exact (hf c hcm).1
  done := by
    intro X hP hw hK hc i pins s σ H E I hf st hg
    subst hP hw hK
    obtain ⟨hz, hTI, ⟨x0, y0, hTO⟩, h1, h2⟩ := st
    obtain ⟨xs, ys, hqx, hqy, hex, hey⟩ := hg
    obtain ⟨its, rv, p⟩ := hqx.src I
    obtain ⟨its2, rv2, p2⟩ := hqy.src I
    have l1 := rv.length
    have l2 := rv2.length
    exact pyNext_end (I.ok.hd hc) D hz hTI hTO h1 h2 p p2 (by simp; omega) (by simp; omega) fun h' hk => ⟨rfl, I.turnedL (t' := s.toks) (ch := [z, TI, TO, i1, i2]) (fun c o hb q =>
      hk c o (fun q' => hb (by simp [q'])) (fun q' => hb (by simp [q'])) (fun q' => hb (by simp [q'])) (fun q' => hb (by simp [q'])) q) hf⟩
  self := fun A i s Q E st h => pyIter_zip st.1 h
/-- zip(e, e2, strict=True) -/
def iZipS (K : PySem.W.Frag) (b1 b2 : Bool) (ta : TA) : TI := fun σ H R => ta σ H fun vs H1 => ∃ a b xs ys, vs = [.ref a, .ref b] ∧ SqB K b1 H1 a xs ∧ SqB K b2 H1 b ys ∧ R (ItzS K b1 b2 a b) H1
theorem callWith_type_kwB {M : Model} {A : Around} {E : Value → Shared → Prop} {s : Shared} {pos : Pos} {T : String} {args : List (Bool × Sem Value)} {keywords : List (Option Str × Sem Value)} {Q : Value → Shared → Prop}
    (hplain : args.any (·.1) = false) (hkw : keywords.any (·.1.isNone) = false)
    (h : wpAny M A (evalArgs (.type T) true args keywords) (fun a s₁ => wpAny M A (call (.type T) a.pos a.kw) Q E s₁) E s) :
    wpAny M A (callWith pos (.type T) [] args keywords) Q E s := by
  unfold callWith
  refine wpAny_bind (wpAny_holding (wpAny_mono h (fun a s₁ h₁ => wpAny_bind (wpAny_standAt ?_)) fun _ _ x => x))
  simp only [hplain, hkw, Bool.or_false]
  refine wpAny_bind (wpAny_pure ?_)
  exact wpAny_bind (wpAny_mono h₁ (fun r s₂ hr => wpAny_bind (wpAny_holding (wpAny_point (wpAny_pure hr)))) fun _ _ x => x)
theorem pi_zipS {X : Cx} {e e2 : Expr} {ta : TA} {p pos kp tp tpos : Pos} {j : Nat} {elts : List Expr} {kk : Nat} (b1 b2 : Bool) (hg : Gl X "zip") (hm : X.mg "zip" = none) (ha : PA X [e, e2] ta)
    (hs : backTo pos (starEach [e, e2] X.env) = (false, eval e X.env) :: backTo pos (starEach [e2] X.env) := by rfl) (hpl : (backTo pos (starEach [e, e2] X.env)).any (·.1) = false := by rfl) :
    PI X (.Tuple elts kk tpos) (.Call (.Name "zip" p) [e, e2] [⟨some "strict", .Constant (.bool true) j tp, kp⟩] pos) (iZipS X.K b1 b2 ta) := by
  refine ⟨fun pins s σ H R I h => ?_⟩
  refine wpAny_Call_Name_kw (ld_blt I hg hm PyProof.Rows.boot_zip ?_)
  refine callWith_type_kwB hpl rfl ?_
  rw [hs]
  refine evalArgs_kwB rfl ?_
  have hr := ha.run pos pins s σ H _ I h
  rw [hs] at hr
  refine thn hr fun us s1 ⟨vs, H1, I1, r1, q1⟩ => ?_
  refine kws_cons (Constant_bool (kws_nil ?_))
  show wpAny _ _ (call (.type "zip") us skw) _ _ _
  obtain ⟨a, b, xs, ys, ex, hqx, hqy, q⟩ := q1
  subst ex
  cases r1 with
  | cons r rr =>
    cases rr with
    | cons r' rr =>
      cases rr
      cases r
      cases r'
      have fresh5 : ∀ c, c ∈ [s1.heap.objs.size + 4, s1.heap.objs.size + 2, s1.heap.objs.size + 3, s1.heap.objs.size, s1.heap.objs.size + 1] → FpOk X pins H1 c := fun c hcm => by
        have e' : c = s1.heap.objs.size + 4 ∨ c = s1.heap.objs.size + 2 ∨ c = s1.heap.objs.size + 3 ∨ c = s1.heap.objs.size ∨ c = s1.heap.objs.size + 1 := by simpa using hcm
        have hle : s1.heap.objs.size ≤ c := by
          rcases e' with z | z | z | z | z
          · rw [z]; exact Nat.le_add_right _ _
          · rw [z]; exact Nat.le_add_right _ _
          · rw [z]; exact Nat.le_add_right _ _
          · rw [z]; exact Nat.le_refl _
          · rw [z]; exact Nat.le_add_right _ _
        exact I1.fpOk hle (I1.hok.fresh hle)
      obtain ⟨its, rv, p1⟩ := hqx.src I1
      obtain ⟨its2, rv2, p2⟩ := hqy.src I1
      refine call_zipS p1 p2 fun h' hz hTI hTO h1 h2 hsz hk => pyIter_zip hz ?_
      have I2 : Inv X pins σ H1 { s1 with heap := h' } := I1.kept (t' := s1.toks) hk
      exact ⟨s1.heap.objs.size + 4, [s1.heap.objs.size + 4, s1.heap.objs.size + 2, s1.heap.objs.size + 3, s1.heap.objs.size, s1.heap.objs.size + 1], _, _, H1, rfl, I2, turn_zipS (PySem.W.ktu_apart s1.heap.objs.size a b p1.lt p2.lt), ⟨hz, hTI, ⟨_, _, hTO⟩, h1, h2⟩, fresh5, q⟩
section
variable {K : PySem.W.Frag} {a b : Addr} {xs ys : List V}
theorem walk_zipS {b1 b2 : Bool} {n : Nat} (h1 : xs.length = n) (h2 : ys.length = n) : Walk (ItzS K b1 b2 a b) n (fun H => SqB K b1 H a xs ∧ SqB K b2 H b ys) (YPair (fun i => xs[i]?) (fun i => ys[i]?)) := by
  refine ⟨fun i _ hi q => ?_, fun _ q => ⟨xs, ys, q.1, q.2, by omega, by omega⟩, fun i H v H' _ q y => ?_⟩
  · have h1 : i < xs.length := by omega
    have h2 : i < ys.length := by omega
    exact ⟨xs, ys, xs[i], ys[i], q.1, q.2, by simp [h1], by simp [h2]⟩
  · obtain ⟨T, x, z, h1, h2, h3, h4, h5⟩ := y
    exact ⟨T, x, z, h1, h2, h3, h4 xs q.1, h5 ys q.2⟩
theorem walk_zipT {n : Nat} (hn : n = min xs.length ys.length) : Walk (ItzT K a b) n (fun H => SqT K H a xs ∧ SqT K H b ys) (YPair (fun i => xs[i]?) (fun i => ys[i]?)) := by
  subst hn
  refine ⟨fun i _ hi q => ?_, fun _ q => ⟨xs, ys, q.1, q.2, by omega⟩, fun i H v H' _ q y => ?_⟩
  · have h1 : i < xs.length := by omega
    have h2 : i < ys.length := by omega
    exact ⟨xs, ys, xs[i], ys[i], q.1, q.2, by simp [h1], by simp [h2]⟩
  · obtain ⟨T, x, z, h1, h2, h3, h4, h5⟩ := y
    exact ⟨T, x, z, h1, h2, h3, h4 xs q.1, h5 ys q.2⟩
/-- a dict comprehension over a walk, keys that are ints or texts -/
theorem dc_it {J : It} {n : Nat} {G : Hp → Prop} {Y : Nat → Hp → V → Hp → Prop} (w : Walk J n G Y) {g : TG} {tt : TT} {tk tv : TE} {vs : List Nat} {σ : L2.St} {H1 : Hp} {D : Addr} {Qd : Hp → Prop} (Pv : Nat → Hp → Prop) (h0 : Pv 0 (upd H1 D (.dK []))) (hG : ∀ i H, i ≤ n → Pv i H → G H)
    (hs : ∀ i x H H', i < n → Pv i H → Y i H x H' → g x (wipe σ vs) H' fun σ2 H2 => wipe σ2 vs = wipe σ vs ∧ tt σ2 H2 fun b H3 =>
      if b = true then tk σ2 H3 fun y H4 => tv σ2 H4 fun z H5 => ∃ kvs k, y = kV k ∧ H5 D = some (.dK kvs) ∧ kvs.length < sizeLine ∧ Pv (i + 1) (upd H5 D (.dK (putK kvs k z))) else Pv (i + 1) H3) (hd : ∀ H, Pv n H → Qd H) :
    ∃ W : Nat → Nat → Hp → Prop, (∃ m, W 0 m (upd H1 D (.dK []))) ∧ ∀ i m H, W i m H →
      (J.stop i H ∧ Qd H) ∨ (J.go i H ∧ ∃ Nx : Hp → Prop, (∀ H', Nx H' → ∃ m', m' < m ∧ W (i + 1) m' H') ∧ ∀ x H', J.yld i H x H' → g x (wipe σ vs) H' fun σ2 H2 => wipe σ2 vs = wipe σ vs ∧ tt σ2 H2 fun b H3 =>
        if b = true then tk σ2 H3 fun y H4 => tv σ2 H4 fun z H5 => ∃ kvs k, y = kV k ∧ H5 D = some (.dK kvs) ∧ kvs.length < sizeLine ∧ Nx (upd H5 D (.dK (putK kvs k z))) else Nx H3) := by
  refine ⟨fun i m H => m = n - i ∧ i ≤ n ∧ Pv i H, ⟨n, by simp, Nat.zero_le _, h0⟩, ?_⟩
  rintro i m H ⟨rfl, hi, p⟩
  have q := hG i H hi p
  by_cases hlt : i < n
  · refine .inr ⟨w.goes i H hlt q, Pv (i + 1), fun H' p' => ⟨n - (i + 1), by omega, rfl, hlt, p'⟩, fun x H' y => hs i x H H' hlt p (w.yields i H x H' hlt q y)⟩
  · have e : i = n := by omega
    subst e
    exact .inl ⟨w.stops H q, hd H p⟩
end
end ZS
set_option Elab.async false
set_option linter.all false
set_option maxRecDepth 100000
set_option maxHeartbeats 4000000
/-! # sorted(d.items()), keys pairs of ints, values ints -/
namespace DT2
open PySem PySem.W PySem.Calls PyProof.Rows PyProof.V PySem.Spec
section
variable {prog : Program} {w : World} {A : Around} {E : Value → Shared → Prop} {s : Shared}
def seqL (h : Heap) (a : Addr) : List Value := match h.get? a with
  | some o => (match o.data with
    | .seq xs _ => xs.toList
    | _ => [])
  | none => []
theorem seqL_of {h : Heap} {a : Addr} {items : Array Value} (x : IsTup h a items) : seqL h a = items.toList := by
  obtain ⟨o, ho, hc, n, hd⟩ := x
  simp only [seqL, ho, hd]
def two : List Value → Int × Int
  | [.int x _, .int y _] => (x, y)
  | _ => (0, 0)
def keyII (h : Heap) (v : Value) : Int × Int := two (seqL h (DT.refOf ((seqL h (DT.refOf (some v))).head?)))
def PairII (h : Heap) (v : Value) (y : Int × Int) (m : Int) : Prop :=
  ∃ (a k : Addr) (t1 t2 t3 : Tok), v = .ref a ∧ IsTup h a #[.ref k, .int m t3] ∧ IsTup h k #[.int y.1 t1, .int y.2 t2]
theorem PairII.tx {h : Heap} {v : Value} {y : Int × Int} {m : Int} (x : PairII h v y m) : keyII h v = y := by
  obtain ⟨a, k, t1, t2, t3, rfl, h1, h2⟩ := x
  show two (seqL h (DT.refOf ((seqL h a).head?))) = y
  rw [seqL_of h1]
  show two (seqL h k) = y
  rw [seqL_of h2]
  all_goals rfl
theorem firsts_of {h : Heap} {M : Int × Int → Int} : ∀ vs : List Value, (∀ v ∈ vs, ∃ y, PairII h v y (M y)) → ∃ fs : List Value, KatTups h vs fs ∧ fs.length = vs.length ∧ ∀ f ∈ fs, ∃ (q : Addr) (o : Obj), f = Value.ref q ∧ h.get? q = some o ∧ o.cls = .type "tuple"
  | [], _ => ⟨[], KatTups.nil, rfl, fun f hf => by simp at hf⟩
  | v :: vs, x => by
    obtain ⟨fs, k, hl, hi⟩ := firsts_of vs fun u hu => x u (List.mem_cons_of_mem _ hu)
    obtain ⟨y, a, q, t1, t2, t3, rfl, ⟨o, ho, hc, n, hd⟩, ⟨o2, ho2, hc2, _⟩⟩ := x v (List.mem_cons_self ..)
    refine ⟨.ref q :: fs, KatTups.cons ho hc hd rfl k, by rw [List.length_cons, List.length_cons, hl], fun f hf => ?_⟩
    rcases List.mem_cons.mp hf with rfl | hf
    · exact ⟨q, o2, rfl, ho2, hc2⟩
    · exact hi f hf
/-- (a, b) < (c, d) -/
def ltII (x y : Int × Int) : Bool := HT.lexLt [x.1, x.2] [y.1, y.2]
theorem kind_ii {vs : List Value} {ρ : Int × Int → Int} {M : Int × Int → Int} (h2 : 2 ≤ vs.length) (hu : A.units < cLine) (x : ∀ v ∈ vs, ∃ y, PairII s.heap v y (M y))
    (hρ : ∀ v ∈ vs, ∀ u ∈ vs, ltII (keyII s.heap v) (keyII s.heap u) = decide (ρ (keyII s.heap v) < ρ (keyII s.heap u))) (Q : SortKind → Shared → Prop)
    (h : ∀ κ, TS.Cmp prog w A s κ (pairsOf vs) (fun v => ρ (keyII s.heap v)) → Q κ s) : wpAny (model prog w) A (keyKind' vs.toArray) Q E s := by
  obtain ⟨fs, k, hl, hi⟩ := firsts_of vs x
  refine kat_kind (T := Value.type "tuple") k (by omega) (fun f hf => ?_) rfl (h _ ?_)
  · obtain ⟨q, o, rfl, ho, hc⟩ := hi f hf
    have z : PySem.W.Looks (model prog w) s.heap (typeOf (.ref q)) o.cls := (PySem.W.Looks.ld ho).andThen .now
    rw [hc] at z
    exact z
  · have hb : (Value.type "tuple" != Value.type "tuple") = false := by first | rfl | decide | simp
    rw [hb]
    intro p q hp hq Q' E' hQ
    rw [pairsOf_toList] at hp hq
    have mp := (mem_zip_self hp).2
    have mq := (mem_zip_self hq).2
    obtain ⟨y, py⟩ := x _ mp
    obtain ⟨z, pz⟩ := x _ mq
    have hr := hρ _ mp _ mq
    have hQ' : Q' (ltII y z) s := by
      rw [py.tx, pz.tx] at hr
      rw [hr]
      have hQ2 : Q' (decide (ρ (keyII s.heap p.1) < ρ (keyII s.heap q.1))) s := hQ
      rw [py.tx, pz.tx] at hQ2
      exact hQ2
    obtain ⟨a, ka, t1, t2, t3, e1, ⟨o, ho, hc, n, hd⟩, tk1⟩ := py
    obtain ⟨a', kb, u1, u2, u3, e2, ⟨o', ho', hc', n', hd'⟩, tk2⟩ := pz
    rw [e1, e2]
    refine kat_lt ho hd ho' hd' ?_
    show KatLex prog w A false false Q' [(Value.ref ka, Value.ref kb), (Value.int (M y) t3, Value.int (M z) u3)] 0 s
    have k1 : IsTupleKey (L2.mixKind prog w) s.heap [Sum.inl y.1, Sum.inl y.2] ka := by
      obtain ⟨ok, hok, ck, nk, dk⟩ := tk1
      exact ⟨ok, _, nk, hok, ck, dk, .cons (L2.mixKind_int prog w y.1 t1) (.cons (L2.mixKind_int prog w y.2 t2) .nil)⟩
    have k2 : IsTupleKey (L2.mixKind prog w) s.heap [Sum.inl z.1, Sum.inl z.2] kb := by
      obtain ⟨ok, hok, ck, nk, dk⟩ := tk2
      exact ⟨ok, _, nk, hok, ck, dk, .cons (L2.mixKind_int prog w z.1 u1) (.cons (L2.mixKind_int prog w z.2 u2) .nil)⟩
    have i1 : IntsAre (#[Value.int y.1 t1, Value.int y.2 t2] : Array Value).toList [y.1, y.2] := .cons _ t1 (.cons _ t2 .nil)
    have i2 : IntsAre (#[Value.int z.1 u1, Value.int z.2 u2] : Array Value).toList [z.1, z.2] := .cons _ u1 (.cons _ u2 .nil)
    by_cases e : y = z
    · have irr : ltII y z = false := by
        rw [e]
        simp [ltII, HT.lexLt]
      rw [irr] at hQ'
      refine kat_cons (wpAny_eqBool_tuple hu k1 k2 ?_)
      refine kat_go (fun _ => ?_) (fun e0 => absurd (by rw [e]) (of_decide_eq_false e0))
      refine kat_yes (kat_cons (wpAny_eqBool_int ?_))
      refine kat_go (fun _ => ?_) (fun e0 => absurd (by rw [e]; simp) (show ¬ ((M y == M z) = true) by rw [e0]; simp))
      exact kat_yes (kat_nil hQ')
    · refine kat_cons (wpAny_eqBool_tuple hu k1 k2 ?_)
      refine kat_go (fun e0 => ?_) (fun _ => ?_)
      · exfalso
        have z0 := of_decide_eq_true e0
        injection z0 with z1 z2
        injection z2 with z2 _
        injection z1 with z1
        injection z2 with z2
        exact e (Prod.ext z1 z2)
      · refine kat_no ?_
        show wpAny _ _ (oneLt' false _ _) _ _ _
        exact kat_one _ _ (HT.lt_tupInts tk1 tk2 i1 i2 hu hQ')
end
end DT2
namespace G
open PySem PySem.Spec PyProof.Rows L2 L2.DX
abbrev entI (e : (Int × Int) × Int) : List L2.Key × V := ([Sum.inl e.1.1, Sum.inl e.1.2], V.int e.2)
/-- keys pairs of ints, values ints; ρ a rank -/
def rSortII : List V → Hp → VK → Prop := fun vs H Q => ∃ (p a : Addr) (ks : List ((Int × Int) × Int)) (ρ : Int × Int → Int) (M : Int × Int → Int), vs = [.ref p] ∧ H p = some (itemsO p a) ∧ H a = some (.dT (ks.map entI)) ∧ ks.length < 64 ∧
  (∀ e ∈ ks, e.2 = M e.1) ∧ (∀ e ∈ ks, ∀ f ∈ ks, DT2.ltII e.1 f.1 = decide (ρ e.1 < ρ f.1)) ∧
  ∀ (H' : Hp) (l : Addr) (ps : List (Addr × (Int × Int) × Int)), (∀ b o, H b = some o → H' b = some o) → (ps.map (·.2)).Perm ks → (ps.map (·.2)).Pairwise (fun e f => ρ e.1 ≤ ρ f.1) → H' l = some (.lst (ps.map fun z => V.ref z.1)) →
    (∀ z ∈ ps, ∃ q, H' z.1 = some (.tup [.ref q, .int z.2.2]) ∧ H' q = some (.tup [.int z.2.1.1, .int z.2.1.2])) → H l = none → (∀ z ∈ ps, H z.1 = none) → Q (.ref l) H'
section
variable {X : Cx}
theorem cr_sortedII (hc : X.calm = true) (hu : X.A.units + 64 < cLine) : CallR X (.builtin "sorted") rSortII := by
  intro pins s σ H xs us Q I r h
  obtain ⟨p, a, ks, ρ, M, rfl, hp, ha, h64, hv, hρ, q⟩ := h
  obtain rfl := Vals.ref1 r
  have view : s.heap.IsItemsView p a := (show ObjOk X.prog X.w H s.heap p (itemsO p a) from I.hok p _ hp).1
  obtain ⟨z, hd, xs', rel, o, es, ep, ho, hx, hdat, hes, his, hn⟩ := dt_of I.hok ha
  have l1 : (ks.map entI).length = xs'.length := Paired.length rel
  rw [List.length_map] at l1
  have l2 : es.size = xs'.length := size_of_entries hes
  have hh : X.A.handled = none := I.ok.hd hc
  refine DT.sortedI (es := es) (ep := ep) hh view ⟨o, ho, hx, hdat⟩ (by rw [sizeLine_eq]; omega) fun h' tk as hk hlt hl hG => ?_
  have lak : as.length = ks.length := by omega
  have nd : as.Nodup := List.Pairwise.imp (fun h => Nat.ne_of_lt h) hG.rise
  have pr : ∀ (j : Nat) (b : Addr), as[j]? = some b → ∃ (e : (Int × Int) × Int) (kq : Addr) (t : Tok), ks[j]? = some e ∧ H kq = some (.tup [.int e.1.1, .int e.1.2]) ∧ h'.get? b = some { cls := .type "tuple", data := .seq #[Value.ref kq, Value.int e.2 t] } := by
    intro j b hj
    obtain ⟨en, he, hg⟩ := hG.pairs j b hj
    rw [entry_at hes j] at he
    cases hxj : xs'[j]? with
    | none =>
      rw [hxj] at he
      exact nomatch (show (none : Option DictEntry) = some en from he)
    | some x =>
      rw [hxj] at he
      have een : entryOfKey (tupleKind (mixKind X.prog X.w)) x = en := Option.some.inj he
      obtain ⟨e0, he0, r1, r2, r3⟩ := pget rel hxj
      rw [List.getElem?_map] at he0
      cases hkj : ks[j]? with
      | none =>
        rw [hkj] at he0
        exact nomatch (show (none : Option (List L2.Key × V)) = some e0 from he0)
      | some e =>
        rw [hkj] at he0
        have ee : entI e = e0 := Option.some.inj he0
        rw [← ee] at r2 r3
        obtain ⟨t, r3'⟩ : ∃ t, x.2.2 = Value.int e.2 t := r3
        refine ⟨e, x.2.1, t, rfl, r2, ?_⟩
        rw [hg, ← een, ← r3']
        all_goals rfl
  have hob : (h'.push { cls := .type "list", data := .seq (as.map Value.ref).toArray }).get? h'.objs.size = some (seqObj "list" (as.map Value.ref).toArray 0) := Heap.get?_push_size _ rfl
  have kb : ∀ b o, s.heap.get? b = some o → (h'.push { cls := .type "list", data := .seq (as.map Value.ref).toArray }).get? b = some o := fun b o e => Heap.get?_push_of_some _ (hk b o e)
  have ne0 : ∀ b o, h'.get? b = some o → b ≠ h'.objs.size := fun b o e => Nat.ne_of_lt (Heap.lt_size e)
  generalize hh2 : h'.push { cls := .type "list", data := .seq (as.map Value.ref).toArray } = h2 at hob kb ⊢
  have ka : ∀ b o, h'.get? b = some o → h2.get? b = some o := fun b o e => by rw [← hh2]; exact Heap.get?_push_of_some _ e
  have pin : ∀ (j : Nat) (b : Addr), as[j]? = some b → ∃ e : (Int × Int) × Int, ks[j]? = some e ∧ DT2.PairII (TS.midHeap h2 h'.objs.size (as.map Value.ref)) (.ref b) e.1 (M e.1) := by
    intro j b hj
    obtain ⟨e, kq, t, he, hkq, hg⟩ := pr j b hj
    obtain ⟨_, its, rv, ot, hot, hct, nt, hdt⟩ := (show ObjOk X.prog X.w H s.heap kq (.tup [.int e.1.1, .int e.1.2]) from I.hok kq _ hkq)
    obtain ⟨t1, t2, rfl⟩ : ∃ t1 t2, its = [Value.int e.1.1 t1, Value.int e.1.2 t2] := by
      cases rv with
      | cons r1 r2 =>
        cases r2 with
        | cons r2 r3 =>
          cases r3
          obtain ⟨t1, rfl⟩ := r1
          obtain ⟨t2, rfl⟩ := r2
          exact ⟨t1, t2, rfl⟩
    have hm := hv e (List.mem_of_getElem? he)
    rw [hm] at hg
    exact ⟨e, he, b, kq, t1, t2, t, rfl, ⟨_, TS.midHeap_old (ne0 _ _ hg) (ka _ _ hg), rfl, 0, rfl⟩, ⟨ot, TS.midHeap_old (ne0 _ _ (hk _ _ hot)) (kb _ _ hot), hct, nt, hdt⟩⟩
  have tx : ∀ (j : Nat) (b : Addr) (e : (Int × Int) × Int), as[j]? = some b → ks[j]? = some e → DT2.keyII (TS.midHeap h2 h'.objs.size (as.map Value.ref)) (.ref b) = e.1 := by
    intro j b e hj he
    obtain ⟨e', he', hp'⟩ := pin j b hj
    have ee : e' = e := Option.some.inj (he'.symm.trans he)
    rw [← ee]
    exact hp'.tx
  have at_ : ∀ v ∈ as.map Value.ref, ∃ (j : Nat) (b : Addr) (e : (Int × Int) × Int), v = .ref b ∧ as[j]? = some b ∧ ks[j]? = some e := by
    intro v hv'
    obtain ⟨b, hb, rfl⟩ := List.mem_map.mp hv'
    obtain ⟨j, hj⟩ := List.mem_iff_getElem?.mp hb
    obtain ⟨e, _, _, he, _⟩ := pr j b hj
    exact ⟨j, b, e, rfl, hj, he⟩
  refine wpAny_call_entry PyProof.Rows.slot_list_sort ⟨_, hob, rfl⟩ PyProof.Rows.entry_list_sort
    (SK.plain_sort (s := { s with heap := h2, toks := tk }) (r := fun v => ρ (DT2.keyII (TS.midHeap h2 h'.objs.size (as.map Value.ref)) v)) hob (by rw [List.length_map]; omega) (fun h2' Qk hQk => ?_) fun ps out o1 o2 o3 => ⟨.none, rfl, ?_⟩) (PyProof.Rows.args_list_sort _)
  · refine DT2.kind_ii (s := { s with heap := TS.midHeap h2 h'.objs.size (as.map Value.ref), toks := tk }) (ρ := ρ) (M := M) h2' (by show X.A.units + 1 + 1 < cLine; omega) (fun v hv' => ?_) (fun v hv' u hu' => ?_) Qk hQk
    · obtain ⟨j, b, e, rfl, hj, he⟩ := at_ v hv'
      obtain ⟨e', _, hp'⟩ := pin j b hj
      exact ⟨e'.1, hp'⟩
    · obtain ⟨j, b, e, rfl, hj, he⟩ := at_ v hv'
      obtain ⟨j2, b2, e2, rfl, hj2, he2⟩ := at_ u hu'
      show DT2.ltII (DT2.keyII (TS.midHeap h2 h'.objs.size (as.map Value.ref)) (.ref b)) (DT2.keyII (TS.midHeap h2 h'.objs.size (as.map Value.ref)) (.ref b2)) = decide (ρ (DT2.keyII (TS.midHeap h2 h'.objs.size (as.map Value.ref)) (.ref b)) < ρ (DT2.keyII (TS.midHeap h2 h'.objs.size (as.map Value.ref)) (.ref b2)))
      rw [tx j b e hj he, tx j2 b2 e2 hj2 he2]
      exact hρ e (List.mem_of_getElem? he) e2 (List.mem_of_getElem? he2)
  · show EP X pins σ Q (.ref h'.objs.size) { s with heap := sortedHeap h2 h'.objs.size (as.map Value.ref) out, toks := tk }
    obtain ⟨zs, pz, ez⟩ := perm_lift (fun z : Addr × (Int × Int) × Int => (Value.ref z.1, Value.ref z.1)) o2 (as.zip ks) (zip_self Value.ref as ks lak)
    have idx : ∀ z ∈ zs, ∃ j : Nat, as[j]? = some z.1 ∧ ks[j]? = some z.2 := by
      intro z' hz'
      obtain ⟨j, hj⟩ := List.mem_iff_getElem?.mp (pz.mem_iff.mp hz')
      exact ⟨j, List.getElem?_zip_eq_some.mp hj⟩
    have hout : out.toList = zs.map fun z => Value.ref z.1 := by
      rw [o1, ← ez, List.map_map]
      all_goals rfl
    have hperm : (zs.map (·.2)).Perm ks := by
      have e := pz.map (·.2)
      have m2 : (as.zip ks).map (·.2) = ks := List.map_snd_zip (by rw [lak]; exact Nat.le_refl _)
      rw [m2] at e
      exact e
    have hsort : (zs.map (·.2)).Pairwise (fun e f => ρ e.1 ≤ ρ f.1) := by
      rw [← ez, List.pairwise_map] at o3
      rw [List.pairwise_map]
      refine List.Pairwise.imp_of_mem (fun {x y} hx hy h => ?_) o3
      obtain ⟨j, j1, j2⟩ := idx x hx
      obtain ⟨i, i1, i2⟩ := idx y hy
      have h' : ρ (DT2.keyII (TS.midHeap h2 h'.objs.size (as.map Value.ref)) (.ref x.1)) ≤ ρ (DT2.keyII (TS.midHeap h2 h'.objs.size (as.map Value.ref)) (.ref y.1)) := h
      rw [tx j _ _ j1 j2, tx i _ _ i1 i2] at h'
      exact h'
    have kF : ∀ b o, b ≠ h'.objs.size → h2.get? b = some o → (sortedHeap h2 h'.objs.size (as.map Value.ref) out).get? b = some o := fun b o hb e => (PyProof.Rows.sortedHeap_old hb (Heap.lt_size e)).trans e
    have kS : ∀ b o, s.heap.get? b = some o → (sortedHeap h2 h'.objs.size (as.map Value.ref) out).get? b = some o := fun b o e => kF b o (ne0 _ _ (hk b o e)) (kb b o e)
    obtain ⟨eF, heF⟩ := PyProof.Rows.sortedHeap_at (vs := as.map Value.ref) (out := out) hob
    have I1 : Inv X pins σ H { s with heap := sortedHeap h2 h'.objs.size (as.map Value.ref) out, toks := tk } := I.kept (t' := tk) kS
    have hn0 : H h'.objs.size = none := I.hok.fresh (Nat.le_of_lt hlt)
    have hlen : (zs.map fun z => V.ref z.1).length ≤ sizeLine := by
      have e := hperm.length_eq
      rw [List.length_map] at e
      rw [List.length_map, sizeLine_eq]
      omega
    have rv : Vals (zs.map fun z => V.ref z.1) out.toList := by
      rw [hout]
      exact vals_maps (fun z : Addr × (Int × Int) × Int => V.ref z.1) (fun z => Value.ref z.1) zs fun _ _ => rfl
    have I2 : Inv X pins σ (upd H h'.objs.size (.lst (zs.map fun z => V.ref z.1))) { s with heap := sortedHeap h2 h'.objs.size (as.map Value.ref) out, toks := tk } :=
      I1.take (h' := sortedHeap h2 h'.objs.size (as.map Value.ref) out) (t' := tk) (fun b ob _ e => e) (I.fpOk (Nat.le_of_lt hlt) hn0) ⟨hlen, out.toList, eF, rv, heF⟩
    obtain ⟨H2, I3, g, qt⟩ := takeT (P := fun b vs => ∃ (j : Nat) (e : (Int × Int) × Int) (kq : Addr), as[j]? = some b ∧ ks[j]? = some e ∧ vs = [.ref kq, .int e.2] ∧ H kq = some (.tup [.int e.1.1, .int e.1.2])) I as _ I2 nd fun b hb => by
      obtain ⟨j, hj⟩ := List.mem_iff_getElem?.mp hb
      obtain ⟨e, kq, t, he, hkq, hg⟩ := pr j b hj
      have hbl : s.heap.objs.size ≤ b := Nat.le_of_lt (hG.above b hb)
      refine ⟨hbl, ?_, [.ref kq, .int e.2], ⟨j, e, kq, hj, he, rfl, hkq⟩, fun H3 => ⟨(by rw [sizeLine_eq]; show 2 ≤ 16777216; omega), [Value.ref kq, Value.int e.2 t], .cons rfl (.cons ⟨t, rfl⟩ .nil), ⟨_, kF _ _ (ne0 _ _ hg) (ka _ _ hg), rfl, 0, rfl⟩⟩⟩
      rw [upd_ne (ne0 _ _ hg)]
      exact I.hok.fresh hbl
    have gr : ∀ b o, H b = some o → H2 b = some o := fun b o e => g b o (by rw [upd_ne (ne_of_none e hn0)]; exact e)
    refine ⟨.ref h'.objs.size, H2, I3, rfl, q H2 h'.objs.size zs gr hperm hsort (g _ _ upd_same) (fun z' hz' => ?_) hn0 fun z' hz' => ?_⟩
    · obtain ⟨i, i1, i2⟩ := idx z' hz'
      obtain ⟨vs, ⟨j, e, kq, j1, j2, ev, hkq⟩, hH⟩ := qt z'.1 (List.mem_of_getElem? i1)
      have eij : i = j := (List.getElem?_inj (List.getElem?_eq_some_iff.mp i1).1 nd).mp (i1.trans j1.symm)
      subst eij
      have ee : e = z'.2 := Option.some.inj (j2.symm.trans i2)
      rw [ev, ee] at hH
      rw [ee] at hkq
      exact ⟨kq, hH, gr _ _ hkq⟩
    · obtain ⟨i, i1, i2⟩ := idx z' hz'
      exact I.hok.fresh (Nat.le_of_lt (hG.above _ (List.mem_of_getElem? i1)))
end
end G
set_option Elab.async false
set_option linter.all false
set_option maxRecDepth 100000
set_option maxHeartbeats 4000000
/-! # Lambdas as values: made, handed to a def, called there -/
namespace LV
open PySem PySem.Spec PyProof.Rows L2 LamX NdefX
/-- a lambda's words, its captured cells, its code object -/
structure LF where
  qual : Str
  params : Arguments
  body : Expr
  scope : Scope
  cl : List (Str × Addr)
  c : Addr
abbrev LF.fd (F : LF) (pm ctv : Value) : FuncData := PySem.W.kla_fn "<lambda>" F.qual F.params F.body F.scope F.cl pm (.ref F.c) ctv
abbrev LF.obj (F : LF) (pm ctv : Value) : Obj := PySem.W.kla_obj "<lambda>" F.qual F.params F.body F.scope F.cl pm F.c ctv
abbrev LF.nf (F : LF) : NF := ⟨"<lambda>", F.qual, F.params, [], F.scope, F.cl, F.c⟩
def LamO (f : Addr) (F : LF) : HO := .ext fun h => ∃ pm ctv : Value, h.get? f = some (F.obj pm ctv)
/-- a cell, known as it is -/
def CellF (c : Addr) (v : V) (o : Obj) : HO := .frz o (.ext fun h => ∃ u, RelV v u ∧ h.IsCell c (some u))
/-- a function stands there -/
def FnV (H : Hp) (f : Addr) : Prop := ∃ φ : Heap → Prop, H f = some (.ext φ) ∧ ∀ h, φ h → PySem.W.FnAt f h
theorem FnV.ext {H H' : Hp} {f : Addr} (h : FnV H f) (e : ExtN H H') : FnV H' f := by
  obtain ⟨φ, h1, h2⟩ := h
  exact ⟨φ, e _ _ h1 (fun ps z => by cases z), h2⟩
theorem FnV.lam {H : Hp} {f : Addr} {F : LF} (h : H f = some (LamO f F)) : FnV H f := ⟨_, h, fun h ⟨pm, ctv, e⟩ => ⟨_, _, _, _, e⟩⟩
theorem FnV.at_ {P : Program} {w : World} {H : Hp} {h : Heap} {f : Addr} (v : FnV H f) (ok : HOk P w H h) : PySem.W.FnAt f h := by
  obtain ⟨φ, h1, h2⟩ := v
  obtain ⟨z, _, _⟩ := ok f _ h1
  exact h2 _ z
/-! ### tracked, not tracked -/
def Fz (H : Hp) (as : List Addr) : Prop := ∀ a ∈ as, ∃ v o, H a = some (CellF a v o)
open Classical in
def drp (H : Hp) (as : List Addr) : Hp := fun b => if b ∈ as then none else H b
open Classical in
def bak (H H' : Hp) (as : List Addr) : Hp := fun b => if b ∈ as then H b else H' b
theorem drp_in {H : Hp} {as : List Addr} {b : Addr} (h : b ∈ as) : drp H as b = none := if_pos h
theorem drp_out {H : Hp} {as : List Addr} {b : Addr} (h : b ∉ as) : drp H as b = H b := if_neg h
theorem bak_in {H H' : Hp} {as : List Addr} {b : Addr} (h : b ∈ as) : bak H H' as b = H b := if_pos h
theorem bak_out {H H' : Hp} {as : List Addr} {b : Addr} (h : b ∉ as) : bak H H' as b = H' b := if_neg h
theorem drp_none {H : Hp} {as : List Addr} {b : Addr} (h : H b = none) : drp H as b = none := by
  by_cases hb : b ∈ as
  · exact drp_in hb
  · rw [drp_out hb]; exact h
theorem drp_of {H : Hp} {as : List Addr} {b : Addr} {o : HO} (h : drp H as b = some o) : H b = some o ∧ b ∉ as := by
  by_cases hb : b ∈ as
  · rw [drp_in hb] at h; cases h
  · rw [drp_out hb] at h; exact ⟨h, hb⟩
theorem Fz.out {H : Hp} {as : List Addr} (z : Fz H as) {b : Addr} {o : HO} (h : H b = some o) (n : ∀ ob u, o ≠ .frz ob u) : b ∉ as := fun hb => by
  obtain ⟨v, ob, e⟩ := z b hb
  rw [h] at e
  exact n ob _ (Option.some.inj e)
theorem Fz.keep {H : Hp} {as : List Addr} (z : Fz H as) {b : Addr} {o : HO} (h : H b = some o) (n : ∀ ob u, o ≠ .frz ob u) : drp H as b = some o := by
  rw [drp_out (z.out h n)]; exact h
theorem hok_drp {P : Program} {w : World} {H : Hp} {h : Heap} {as : List Addr} (ok : HOk P w H h) (z : Fz H as) : HOk P w (drp H as) h := fun b o e => by
  obtain ⟨e1, _⟩ := drp_of e
  exact (ok b o e1).stay (fun _ _ _ q => q) (fun c q => z.keep q fun _ _ x => by cases x) fun c xs q => z.keep q fun _ _ x => by cases x
/-- behind the call of a lambda: its cells are known again -/
theorem ce_bak {P : Program} {w : World} {H : Hp} {s s' : Shared} {outer : List Env} {as : List Addr} {Q : VK} {u : Value} (ok : HOk P w H s.heap) (z : Fz H as) (frf : ∀ b ∈ frs outer, H b = none) (h : CE outer P w (drp H as) s (fun v H' => Q v (bak H H' as)) u s') : CE outer P w H s Q u s' := by
  obtain ⟨v, H', os, bare, un, hok, r, q⟩ := h
  have nin : ∀ b, H b = none → b ∉ as := fun b n hb => by
    obtain ⟨v, o, e⟩ := z b hb
    rw [n] at e; cases e
  have at_ : ∀ b ∈ as, ∃ o, s.heap.get? b = some o ∧ s'.heap.get? b = some o ∧ H' b = none := fun b hb => by
    obtain ⟨v, o, e⟩ := z b hb
    have g : s.heap.get? b = some o := (ok b _ e).1
    have nf : b ∉ frs outer := fun hf => by
      have n := frf b hf
      rw [e] at n; cases n
    exact ⟨o, g, un.keep b o g (drp_in hb) nf (by simp), un.free b o g (drp_in hb) (by simp)⟩
  refine ⟨v, bak H H' as, os, bare, ⟨fun b o e n hb hx => un.keep b o e (drp_none n) hb hx, fun b o e n hb hx => un.slot b o e (drp_none n) hb hx, fun b o e n hx => ?_, un.there, fun b xs e => ?_, fun b o u e => ?_, fun b ps e => ?_⟩, fun b o e => ?_, r, q⟩
  · rw [bak_out (nin b n)]
    exact un.free b o e (drp_none n) hx
  · rw [bak_out (z.out e fun _ _ x => by cases x)]
    exact un.tups b xs (z.keep e fun _ _ x => by cases x)
  · by_cases hb : b ∈ as
    · rw [bak_in hb]; exact e
    · rw [bak_out hb]
      exact un.frzs b o u (by rw [drp_out hb]; exact e)
  · obtain ⟨more, e2⟩ := un.tbls b ps (z.keep e fun _ _ x => by cases x)
    exact ⟨more, by rw [bak_out (z.out e fun _ _ x => by cases x)]; exact e2⟩
  · by_cases hb : b ∈ as
    · rw [bak_in hb] at e
      obtain ⟨v, ob, e2⟩ := z b hb
      rw [e] at e2
      cases e2
      obtain ⟨g1, p, _, st⟩ := ok b _ e
      obtain ⟨o2, g2, g3, _⟩ := at_ b hb
      rw [g1] at g2; cases g2
      exact ⟨g3, st _ _ p fun o q => by rw [g1] at q; cases q; exact g3, ⟨_, g3⟩, st⟩
    · rw [bak_out hb] at e
      have own : ∀ c o, H' c = some o → bak H H' as c = some o := fun c o q => by
        have nc : c ∉ as := fun hc => by
          obtain ⟨_, _, _, n⟩ := at_ c hc
          rw [q] at n; cases n
        rw [bak_out nc]; exact q
      exact (hok b o e).stay (fun _ _ _ q => q) (fun c q => own c _ q) fun c xs q => own c _ q
/-- behind the call of a def that was handed a lambda: the cells are forgotten -/
theorem ce_drp {P : Program} {w : World} {H H2 : Hp} {s s' : Shared} {outer : List Env} {as : List Addr} {Q : VK} {u : Value} (ok2 : HOk P w H2 s.heap) (z : Fz H2 as) (n1 : ∀ b ∈ as, H b = none) (e2 : ∀ b, b ∉ as → H2 b = H b)
    (h : CE outer P w H2 s (fun v H' => Q v (drp H' as)) u s') : CE outer P w H s Q u s' := by
  obtain ⟨v, H', os, bare, un, hok, r, q⟩ := h
  have z' : Fz H' as := fun b hb => by
    obtain ⟨v, o, e⟩ := z b hb
    exact ⟨v, o, un.frzs b o _ e⟩
  have nin : ∀ b o, H b = some o → b ∉ as := fun b o e hb => by
    rw [n1 b hb] at e; cases e
  have kp : ∀ b ∈ as, ∀ o, s.heap.get? b = some o → s'.heap.get? b = some o := fun b hb o g => by
    obtain ⟨v, ob, e⟩ := z b hb
    have g1 : s.heap.get? b = some ob := (ok2 b _ e).1
    rw [g] at g1; cases g1
    exact (hok b _ (un.frzs b o _ e)).1
  refine ⟨v, drp H' as, os, bare, ⟨fun b o e n hb hx => ?_, fun b o e n hb hx => ?_, fun b o e n hx => ?_, un.there, fun b xs e => ?_, fun b o u e => ?_, fun b ps e => ?_⟩, hok_drp hok z', r, q⟩
  · by_cases hc : b ∈ as
    · exact kp b hc o e
    · exact un.keep b o e (by rw [e2 b hc]; exact n) hb hx
  · by_cases hc : b ∈ as
    · exact ⟨o.slots, kp b hc o e⟩
    · exact un.slot b o e (by rw [e2 b hc]; exact n) hb hx
  · by_cases hc : b ∈ as
    · exact drp_in hc
    · exact drp_none (un.free b o e (by rw [e2 b hc]; exact n) hx)
  · rw [drp_out (nin b _ e)]
    exact un.tups b xs (by rw [e2 b (nin b _ e)]; exact e)
  · rw [drp_out (nin b _ e)]
    exact un.frzs b o u (by rw [e2 b (nin b _ e)]; exact e)
  · obtain ⟨more, e3⟩ := un.tbls b ps (by rw [e2 b (nin b _ e)]; exact e)
    exact ⟨more, by rw [drp_out (nin b _ e)]; exact e3⟩
theorem same_bak {H H' : Hp} {as : List Addr} (h : L2.Same (drp H as) H') : L2.Same H (bak H H' as) := fun b o e => by
  by_cases hb : b ∈ as
  · rw [bak_in hb]; exact e
  · rw [bak_out hb]; exact h b o (by rw [drp_out hb]; exact e)
theorem extN_bak {H H' : Hp} {as : List Addr} (h : ExtN (drp H as) H') : ExtN H (bak H H' as) := fun b o e n => by
  by_cases hb : b ∈ as
  · rw [bak_in hb]; exact e
  · rw [bak_out hb]; exact h b o (by rw [drp_out hb]; exact e) n
/-! ### what a function value promises -/
def FV (P : Program) (w : World) (K : PySem.W.Frag) (mg : Str → Option Value) (base : Heap) (CX : CXT) (k : Nat) (H : Hp) (f : Addr) (sp : Sp) : Prop :=
  FnV H f ∧ ∀ (A : Around) (outer : List Env) (s : Shared) (H1 : Hp) (us : List Value) (vs : List V) (Q : VK) (E : XK), ExtN H H1 → Room k A → Env0 P w K mg base A outer s H1 → Vals vs us → sp vs H1 Q E →
    codeAny (model P w) A (.call (.ref f) ⟨us, []⟩) (CR CX outer P w H1 s Q E) s
section
variable {P : Program} {w : World} {K : PySem.W.Frag} {mg : Str → Option Value} {base : Heap} {CX : CXT} {k j : Nat} {H H' : Hp} {f : Addr} {sp sp' : Sp}
theorem FV.ext (F : FV P w K mg base CX k H f sp) (e : ExtN H H') : FV P w K mg base CX k H' f sp :=
  ⟨F.1.ext e, fun A outer s H1 us vs Q E e1 hr e0 r q => F.2 A outer s H1 us vs Q E (e.trans e1) hr e0 r q⟩
theorem FV.same (F : FV P w K mg base CX k H f sp) (e : L2.Same H H') : FV P w K mg base CX k H' f sp := F.ext (ExtN.of e)
theorem FV.mono (F : FV P w K mg base CX j H f sp) (h : j ≤ k) : FV P w K mg base CX k H f sp :=
  ⟨F.1, fun A outer s H1 us vs Q E e1 hr e0 r q => F.2 A outer s H1 us vs Q E e1 (hr.mono h) e0 r q⟩
theorem FV.imp (F : FV P w K mg base CX k H f sp) (h : ∀ vs H Q E, sp' vs H Q E → sp vs H Q E) : FV P w K mg base CX k H f sp' :=
  ⟨F.1, fun A outer s H1 us vs Q E e1 hr e0 r q => F.2 A outer s H1 us vs Q E e1 hr e0 r (h _ _ _ _ q)⟩
end
/-- f(..), f a name that holds a function value -/
def tCallV (i : Nat) (F : Hp → Addr → Sp → Prop) (E : XK) (t : TA) : TE := fun σ H Q => ∃ f sp, σ[i]? = some (some (.ref f)) ∧ F H f sp ∧ t σ H fun vs H1 => ExtN H H1 ∧ sp vs H1 Q E
section
variable {X : Cx} {CX : CXT} {i j k : Nat} {x : Str} {sp : Sp} {E : XK} {t : TA} {e : Expr} {es : List Expr} {p pos : Pos}
theorem run_v {pins : List (Addr × Obj)} {σ : L2.St} {H H0 : Hp} {s : Shared} {Q : VK} {f : Addr} {us : List Value} {vs : List V} (Fv : FV X.prog X.w X.K X.mg X.base CX k H0 f sp) (h0 : ExtN H0 H) (hr : Room j X.A) (hk : k ≤ j) (hx : Passes CX X E) (I : Inv X pins σ H s)
    (r : Vals vs us) (q : sp vs H Q E) : wpAny (model X.prog X.w) X.A (call (.ref f) us) (EP X pins σ Q) X.xe s := by
  refine wpAny_call (codeAny_mono (Fv.2 X.A X.stack s H us vs Q E h0 (hr.mono hk) I.env0 r q) fun r s' hq => ?_)
  cases r with
  | error e => exact hx pins σ H s e s' I hq
  | ok fl =>
    cases fl with
    | ret u => exact I.after hq
    | next => exact False.elim hq
    | brk => exact False.elim hq
    | cont => exact False.elim hq
theorem pe_callv (hr : Room j X.A) (hk : k ≤ j) (hx : Passes CX X E) (hN : X.N[i]? = some x) (hv : Vis X.env.scope x) (ha : PA X (e :: es) t)
    (hd : (x == ("__debug__" : Str)) = false := by decide) (hcd : (x == ("__classdict__" : Str)) = false := by decide)
    (he : starEach (e :: es) X.env = (false, eval e X.env) :: starEach es X.env := by rfl) (hpl : (backTo pos (starEach es X.env)).any (·.1) = false := by rfl) :
    PE X (.Call (.Name x p) (e :: es) [] pos) (tCallV i (FV X.prog X.w X.K X.mg X.base CX k) E t) := by
  refine ⟨fun pins s σ H Q I h => ?_⟩
  obtain ⟨f, sp, hs, hF, ht⟩ := h
  refine wpAny_Call_Name_kw (thn ((pe_var (pos := p) hN hv hd hcd).run pins s σ H (fun v H1 => v = .ref f ∧ H1 = H) I ⟨.ref f, hs, rfl, rfl⟩) fun u s1 ⟨v, H1, I1, r1, q1⟩ => ?_)
  obtain ⟨ev, eH⟩ := q1
  subst ev
  rw [eH] at I1
  obtain rfl : u = Value.ref f := r1
  refine PySem.W.callWith_F (first := []) (hF.1.at_ I1.hok) (thn (ha.run pos pins s1 σ H _ I1 ht) fun us s2 ⟨vs, H2, I2, r, h1, q⟩ => ⟨(hF.1.ext h1).at_ I2.hok, ?_⟩) he hpl
  show wpAny _ _ (call (.ref f) us) _ _ _
  exact run_v hF h1 hr hk hx I2 r q
end
/-! ### a lambda made -/
section
variable {X : Cx} {pins : List (Addr × Obj)} {σ : L2.St} {H : Hp} {s : Shared}
theorem inv_lam {F : LF} {o : Obj} {t' : Nat} {pm ctv : Value} (I : Inv X pins σ H s) (ho : o = F.obj pm ctv) : Inv X pins σ (upd H s.heap.objs.size (LamO s.heap.objs.size F)) { s with heap := s.heap.push o, toks := t' } := by
  subst ho
  refine I.laid (a := s.heap.objs.size) (fun b u e => Heap.get?_push_of_some _ e) (Nat.le_refl _) ?_
  have e : (s.heap.push (F.obj pm ctv)).get? s.heap.objs.size = some (F.obj pm ctv) := Heap.get?_push_size _ rfl
  exact ⟨⟨pm, ctv, e⟩, ⟨_, e⟩, fun h1 h2 ⟨p, t, z⟩ st => ⟨p, t, st _ z⟩⟩
end
def tLamV (T : List (Addr × Str)) (mk : Addr → LF) : TE := fun σ H Q => Tabs T H ∧ ∀ (f c' : Addr) (H1 : Hp), ExtN H H1 → (∀ b, H1 b = none → H b = none) → Tabs T H1 → H f = none → H1 f = some (LamO f (mk c')) → H1 (mk c').c = some (CodeO (mk c').c (mk c').qual) → Q (.ref f) H1
section
variable {X : Cx}
theorem pe_lamv {T : List (Addr × Str)} {c P : Addr} {params : Arguments} {body : Expr} {scope : Scope} {pos : Pos} (TB : TabB X.base X.mg c P) (hcode : X.env.code = .ref c) (hm : (P, X.env.qual ++ "<lambda>") ∈ T) (hu : ∀ p ∈ T, p.1 = P → p.2 = X.env.qual ++ "<lambda>")
    (hdef : defaultsOf params X.env = ([], [])) (hfree : ∀ y ∈ scope.names, y.2 = .free → X.env.scope.names.lookup y.1 = some .cell ∨ X.env.scope.names.lookup y.1 = some .free) :
    PE X (.Lambda params body scope pos) (tLamV T fun c' => ⟨X.env.qual ++ "<lambda>", params, body, scope, cloFrom X.env.cells scope.names [], c'⟩) := by
  refine ⟨fun pins s σ H Q I h => ?_⟩
  obtain ⟨hT, h⟩ := h
  have hfr : ∀ y ∈ scope.names, y.2 = .free → ∃ c, X.env.cells.lookup y.1 = some c := fun y hy e => (hfree y hy e).elim (fun z => I.ok.has _ (.inl z)) fun z => I.ok.has _ (.inr z)
  obtain ⟨ps, hP, ht, ha⟩ := hT _ hm
  refine PySem.W.kla_eval hdef ?_
  have bP : s.heap.BuiltinsAt X.mg P := TB.bm.keeps I.bk
  have hP' : s.heap.get? P = some { cls := .none, data := .fields ps } := I.hok P _ hP
  cases hc : codeAmong pos ps.toList with
  | none =>
    refine PySem.W.kla_makeFunction (mg := X.mg) (c := c) (P := P) (ps := ps) (closure_ok hfr) I.ok.glob (I.mod.glob.keeps I.bk) hcode (TB.code.keeps I.bk) hP' ht hc TB.gP bP fun c' ctv h' tk hx hge hlt hrec htb => ?_
    obtain ⟨c2, oc, vs, t, e2, hoc, hd, hv⟩ := hrec
    cases e2
    have nC : H c' = none := I.hok.fresh hge
    have I1 := inv_table (t' := tk) (more := #[rawInt pos.line, rawInt pos.col, .ref c']) (h' := h') I hP (fun b o hb e => hx b o hb e) htb hge ⟨oc, vs, t, hoc, hd, hv⟩
    have hE : ExtN H (upd (upd H P (.tbl (ps ++ #[rawInt pos.line, rawInt pos.col, .ref c']))) c' (CodeO c' (X.env.qual ++ "<lambda>"))) := fun b o e n => by
      rw [upd_ne (ne_of_none e nC), upd_ne (fun z => n ps (Option.some.inj (e.symm.trans (by rw [z]; exact hP))))]
      exact e
    have eL : (ps ++ #[rawInt pos.line, rawInt pos.col, .ref c']).toList = ps.toList ++ [rawInt pos.line, rawInt pos.col, .ref c'] := by simp
    have T1 : Tabs T (upd (upd H P (.tbl (ps ++ #[rawInt pos.line, rawInt pos.col, .ref c']))) c' (CodeO c' (X.env.qual ++ "<lambda>"))) := fun p hp => by
      by_cases hb : p.1 = P
      · rw [hu p hp hb, hb]
        refine ⟨_, by rw [upd_ne (ne_of_none hP nC), upd_same], by rw [eL]; exact PySem.TriplesOk_snoc _ _ _ _ ht, fun p' cv hcv => ?_⟩
        rw [eL] at hcv
        rcases among_app _ ht hcv with z | z
        · obtain ⟨c0, e1, e2⟩ := ha p' cv z
          exact ⟨c0, e1, hE _ _ e2 codeO_ne⟩
        · exact ⟨c', z, upd_same⟩
      · obtain ⟨ps', a1, a2, a3⟩ := hT p hp
        refine ⟨ps', by rw [upd_ne (ne_of_none a1 nC), upd_ne hb]; exact a1, a2, fun p' cv hcv => ?_⟩
        obtain ⟨c0, e1, e2⟩ := a3 p' cv hcv
        exact ⟨c0, e1, hE _ _ e2 codeO_ne⟩
    have nF := I1.hok.fresh (Nat.le_refl _)
    have I2 := inv_lam (F := ⟨X.env.qual ++ "<lambda>", params, body, scope, cloFrom X.env.cells scope.names [], c'⟩) (t' := tk) (pm := (X.mg "__name__").getD .none) (ctv := ctv) I1 rfl
    refine ⟨.ref h'.objs.size, _, I2, rfl, h h'.objs.size c' _ (fun b o e n => ?_) (fun b e => upd_none (upd_none (upd_none e))) (T1.ext fun b o e => ?_) (I.hok.fresh (Nat.le_trans hge (Nat.le_of_lt hlt))) upd_same ?_⟩
    · have e1 := hE b o e n
      exact (upd_ne (ne_of_none e1 nF)).trans e1
    · exact (upd_ne (ne_of_none e nF)).trans e
    · exact (upd_ne (Nat.ne_of_lt hlt)).trans upd_same
  | some cv =>
    obtain ⟨c', e, hco⟩ := ha pos cv hc
    subst e
    refine PySem.W.kla_makeFunctionHit (mg := X.mg) (c := c) (P := P) (ps := ps) (closure_ok hfr) I.ok.glob (I.mod.glob.keeps I.bk) hcode (TB.code.keeps I.bk) hP' ht hc bP fun ctv h' tk hx hsz => ?_
    have I1 : Inv X pins σ H { s with heap := h', toks := tk } := I.kept hx
    have nF : H h'.objs.size = none := I1.hok.fresh (Nat.le_refl _)
    have I2 := inv_lam (F := ⟨X.env.qual ++ "<lambda>", params, body, scope, cloFrom X.env.cells scope.names [], c'⟩) (t' := tk) (pm := (X.mg "__name__").getD .none) (ctv := ctv) I1 rfl
    refine ⟨.ref h'.objs.size, _, I2, rfl, h h'.objs.size c' _ (fun b o e n => ?_) (fun b e => upd_none e) (hT.ext fun b o e => ?_) nF upd_same ?_⟩
    · exact (upd_ne (ne_of_none e nF)).trans e
    · exact (upd_ne (ne_of_none e nF)).trans e
    · exact (upd_ne (ne_of_none hco nF)).trans hco
end
end LV
set_option Elab.async false
set_option linter.all false
set_option maxRecDepth 100000
set_option maxHeartbeats 4000000
/-! # Lambdas as values: what one promises, a def that is handed one -/
namespace LV
open PySem PySem.Spec PyProof.Rows L2 LamX NdefX
def cellsL (cl : List (Str × Addr)) : List Addr := cl.filterMap fun p => cl.lookup p.1
theorem mem_cells {cl : List (Str × Addr)} {a : Addr} (h : a ∈ cellsL cl) : ∃ y, cl.lookup y = some a := by
  obtain ⟨p, _, e⟩ := List.mem_filterMap.mp h
  exact ⟨p.1, e⟩
theorem in_cells {cl : List (Str × Addr)} {a : Addr} {y : Str} (h : cl.lookup y = some a) : a ∈ cellsL cl := List.mem_filterMap.mpr ⟨(y, a), PySem.mem_of_lookup h, h⟩
/-- the captured cells are known: what they hold -/
structure TrackAt (cl : List (Str × Addr)) (fr : List Str) (ws : List V) (H : Hp) : Prop where
  len : ws.length = fr.length
  all : ∀ y c, cl.lookup y = some c → ∃ v o, H c = some (CellF c v o)
  inj : ∀ x y c, cl.lookup x = some c → cl.lookup y = some c → x = y
  has : ∀ (i : Nat) (y : Str), fr[i]? = some y → ∃ c v o, cl.lookup y = some c ∧ ws[i]? = some v ∧ H c = some (CellF c v o)
theorem TrackAt.ext {cl : List (Str × Addr)} {fr : List Str} {ws : List V} {H H' : Hp} (t : TrackAt cl fr ws H) (e : ExtN H H') : TrackAt cl fr ws H' :=
  ⟨t.len, fun y c h => by
    obtain ⟨v, o, q⟩ := t.all y c h
    exact ⟨v, o, e _ _ q fun ps z => by cases z⟩, t.inj, fun i y h => by
    obtain ⟨c, v, o, q1, q2, q3⟩ := t.has i y h
    exact ⟨c, v, o, q1, q2, e _ _ q3 fun ps z => by cases z⟩⟩
theorem TrackAt.fz {cl : List (Str × Addr)} {fr : List Str} {ws : List V} {H : Hp} (t : TrackAt cl fr ws H) : Fz H (cellsL cl) := fun a h => by
  obtain ⟨y, e⟩ := mem_cells h
  exact t.all y a e
theorem TrackAt.cells {P : Program} {w : World} {cl : List (Str × Addr)} {fr : List Str} {ws : List V} {H : Hp} {h : Heap} (t : TrackAt cl fr ws H) (ok : HOk P w H h) : CellsAt cl fr (ws.map some) h (drp H (cellsL cl)) := by
  refine ⟨by rw [List.length_map]; exact t.len, fun y c e => ⟨drp_in (in_cells e), ?_⟩, t.inj, fun i y e => ?_⟩
  · obtain ⟨v, o, q⟩ := t.all y c e
    obtain ⟨_, ⟨u, _, z⟩, _, _⟩ := ok c _ q
    exact ⟨_, z⟩
  · obtain ⟨c, v, o, q1, q2, q3⟩ := t.has i y e
    obtain ⟨_, ⟨u, ru, z⟩, _, _⟩ := ok c _ q3
    refine ⟨c, q1, fun v' ev => ?_⟩
    rw [List.getElem?_map, q2] at ev
    have e2 : v = v' := Option.some.inj (Option.some.inj ev)
    rw [← e2]
    exact ⟨u, ru, z⟩
section
variable {P : Program} {w : World} {K : PySem.W.Frag} {mg : Str → Option Value} {base : Heap} {N ps fr : List Str} {F : LF} {f : Addr} {k : Nat} {sp : Sp} {H : Hp} {ws : List V}
/-- THE RULE: a lambda by its body; its cells known -/
theorem fv_of (S : NScope N ps fr F.scope) (hb : ∀ (pm ctv : Value) (us : List Value), us.length = ps.length → bindArgs (F.fd pm ctv) ⟨us, []⟩ = pure (ps.zip us)) (len : ∀ vs H Q E, sp vs H Q E → vs.length = ps.length)
    (hf : H f = some (LamO f F)) (hc : H F.c = some (CodeO F.c F.qual)) (C : TrackAt F.cl fr ws H)
    (hbody : ∀ (A : Around) (outer : List Env) (s : Shared) (H1 : Hp) (vs : List V) (Q : VK) (E : XK), Room k (A.deeper (envF F.nf f s.heap.objs.size)) → ExtN H H1 → Fz H1 (cellsL F.cl) → sp vs H1 Q E →
      ∃ t, PE (ncx C8.CX0 P w K mg base N F.nf f A outer s (drp H1 (cellsL F.cl)) E) F.body t ∧ t (startF N vs (ws.map some)) (drp H1 (cellsL F.cl)) (fun v H' => Q v (bak H1 H' (cellsL F.cl)))) :
    FV P w K mg base C8.CX0 (k + 1) H f sp := by
  refine ⟨FnV.lam hf, fun A outer s H1 us vs Q E e1 hr e0 r hsp => ?_⟩
  have hl := len _ _ _ _ hsp
  have lim : s.heap.NoLimit := e0.mod.nolimit.keeps fun b o e => (e0.bs b o e).1
  obtain ⟨⟨pm, ctv, ho⟩, _, _⟩ := e0.hok f _ (e1 _ _ hf fun ps z => by cases z)
  have hc1 : H1 F.c = some (CodeO F.c F.qual) := e1 _ _ hc codeO_ne
  have C1 := C.ext e1
  have z := C1.fz
  have e00 : Env0 P w K mg base A outer s (drp H1 (cellsL F.cl)) := ⟨e0.frames, e0.mod, fun b o e => ⟨(e0.bs b o e).1, drp_none (e0.bs b o e).2⟩, e0.bsz, e0.funs, fun b hb => drp_none (e0.frf b hb), hok_drp e0.hok z, e0.bare⟩
  have CA := C1.cells e0.hok
  obtain ⟨t, ht, hq⟩ := hbody A outer s H1 vs Q E (hr.deeper _) e1 z hsp
  refine codeAny_mono (R := CR C8.CX0 outer P w (drp H1 (cellsL F.cl)) s (fun v H' => Q v (bak H1 H' (cellsL F.cl))) E) ?_ fun r s' hq => ?_
  · refine PySem.W.kla_callFunE hr.depth ho rfl S.co S.gen rfl (codeO_at e0.hok hc1) ?_
    rw [hb pm ctv us (by rw [← r.length]; exact hl)]
    refine wpAny_pure (wpAny_newFunctionEnv S.nocell (fun ⟨n, _⟩ hy => S.par n (List.of_mem_zip hy).1) (fun h₁ hns hsb => ⟨lim.fresh _ hsb, ?_⟩) S.kind)
    show codeAny _ _ (.expr F.body (envF F.nf f s.heap.objs.size)) _ _
    have kp : ∀ b o, s.heap.get? b = some o → h₁.get? b = some o := fun b o e => hsb.extBut b o (Nat.ne_of_lt (Heap.lt_size e)) (Heap.get?_push_of_some _ e)
    have I : Inv (ncx C8.CX0 P w K mg base N F.nf f A outer s (drp H1 (cellsL F.cl)) E) [] (startF N vs (ws.map some)) (drp H1 (cellsL F.cl)) { s with heap := h₁, toks := s.toks + (ps.zip us).length } := inv_startN S hr.hd e00 hl r CA hns kp
    refine PySem.W.kla_codeExpr (wpAny_mono (ht.run [] _ _ _ _ I hq) (fun v s' hq => ?_) fun e s' hq => hq)
    obtain ⟨w', H', J', rv, q⟩ := hq
    exact ⟨w', H', J'.os, J'.bare, J'.base, J'.hok, rv, q⟩
  · cases r with
    | error e => exact (show False from hq).elim
    | ok fl =>
      cases fl with
      | ret u => exact ce_bak e0.hok z e0.frf hq
      | next => exact False.elim hq
      | brk => exact False.elim hq
      | cont => exact False.elim hq
end
/-- a call of a def that is handed a lambda of the running frame: the lambda's cells are known there -/
def tCallT (cl : List (Str × Addr)) (fr : List Str) (js : List Nat) (sp : Sp) (E : XK) (t : TA) : TE := fun σ H Q => t σ H fun vs H1 => (∀ j ∈ js, ∃ v, slotAt σ j = some v) ∧
  ∀ H2 : Hp, (∀ b ∈ cellsL cl, H1 b = none) → (∀ b, b ∉ cellsL cl → H2 b = H1 b) → TrackAt cl fr (js.map fun j => (slotAt σ j).getD .non) H2 → sp vs H2 (fun v H' => Q v (drp H' (cellsL cl))) E
section
variable {X : Cx} {k j : Nat} {x : Str} {ps fr : List Str} {cl : List (Str × Addr)} {js : List Nat} {sp : Sp} {E : XK} {p pos : Pos} {e : Expr} {es : List Expr} {t : TA}
/-- the cells of the running frame, known -/
theorem track {pins : List (Addr × Obj)} {σ : L2.St} {H : Hp} {s : Shared} (I : Inv X pins σ H s) (cp : Caps X cl fr js) (nd : fr.Nodup) (sub : ∀ y c, cl.lookup y = some c → y ∈ fr) (fn : ∀ y ∈ fr, X.fn y = true) (hv : ∀ j ∈ js, ∃ v, slotAt σ j = some v) :
    ∃ H2 : Hp, (∀ b ∈ cellsL cl, H b = none) ∧ (∀ b, b ∉ cellsL cl → H2 b = H b) ∧ Fz H2 (cellsL cl) ∧ TrackAt cl fr (js.map fun j => (slotAt σ j).getD .non) H2 ∧ Env0 X.prog X.w X.K X.mg X.base X.A X.stack s H2 := by
  have C := cells_of I cp
  have e0 := I.env0
  have jl : js.length = fr.length := by
    have q := congrArg List.length cp.at_
    rw [List.length_map, List.length_map] at q
    exact q
  have ex : ∀ a : Addr, ∃ ho : HO, a ∈ cellsL cl → ∃ v o, ho = CellF a v o ∧ s.heap.get? a = some o ∧ (∃ u, RelV v u ∧ s.heap.IsCell a (some u)) ∧ ∀ (i : Nat) (y : Str), fr[i]? = some y → cl.lookup y = some a → (js.map fun j => (slotAt σ j).getD .non)[i]? = some v := fun a => by
    by_cases ha : a ∈ cellsL cl
    · obtain ⟨y, hy⟩ := mem_cells ha
      obtain ⟨i, hi⟩ := List.mem_iff_getElem?.mp (sub y a hy)
      obtain ⟨c, hc, hw⟩ := C.has i y hi
      rw [hy] at hc
      cases hc
      have hil : i < js.length := by
        have := (List.getElem?_eq_some_iff.mp hi).1
        omega
      obtain ⟨v, ev⟩ := hv js[i] (List.getElem_mem hil)
      have ej : js[i]? = some js[i] := List.getElem?_eq_getElem hil
      obtain ⟨u, ru, hu⟩ := hw v (by rw [List.getElem?_map, ej]; show some (slotAt σ js[i]) = _; rw [ev])
      obtain ⟨o, ho, hd⟩ := id hu
      refine ⟨CellF a v o, fun _ => ⟨v, o, rfl, ho, ⟨u, ru, hu⟩, fun i2 y2 h1 h2 => ?_⟩⟩
      have ey : y2 = y := C.inj y2 y a h2 hy
      subst ey
      have h1l := (List.getElem?_eq_some_iff.mp h1)
      have hl := (List.getElem?_eq_some_iff.mp hi)
      have ei : i2 = i := (List.getElem_inj nd).mp (h1l.2.trans hl.2.symm)
      subst ei
      rw [List.getElem?_map, ej]
      show some ((slotAt σ js[i2]).getD .non) = _
      rw [ev]
      rfl
    · exact ⟨.tbl #[], fun z => absurd z ha⟩
  obtain ⟨g, hg⟩ := Classical.axiomOfChoice ex
  have nH : ∀ b ∈ cellsL cl, H b = none := fun b hb => by
    obtain ⟨y, hy⟩ := mem_cells hb
    exact (C.all y b hy).1
  have big : ∀ b ∈ cellsL cl, X.s_0.heap.objs.size ≤ b ∧ b ≠ X.env.locals := fun b hb => by
    obtain ⟨y, hy⟩ := mem_cells hb
    exact ⟨I.ok.cab y b (fn y (sub y b hy)) (cp.sub y b hy), I.cne y b (cp.sub y b hy)⟩
  have i2 : ∀ b ∈ cellsL cl, bak (fun b => some (g b)) H (cellsL cl) b = some (g b) := fun b hb => bak_in hb
  have o2 : ∀ b, b ∉ cellsL cl → bak (fun b => some (g b)) H (cellsL cl) b = H b := fun b hb => bak_out hb
  have fz : Fz (bak (fun b => some (g b)) H (cellsL cl)) (cellsL cl) := fun b hb => by
    obtain ⟨v, o, e, _⟩ := hg b hb
    exact ⟨v, o, by rw [i2 b hb, e]⟩
  refine ⟨bak (fun b => some (g b)) H (cellsL cl), nH, o2, fz, ⟨by rw [List.length_map]; exact jl, fun y c e => ?_, C.inj, fun i y e => ?_⟩, e0.frames, e0.mod, fun b o e => ⟨(e0.bs b o e).1, ?_⟩, e0.bsz, e0.funs, fun b hb => ?_, fun b o e => ?_, e0.bare⟩
  · exact fz c (in_cells e)
  · obtain ⟨c, hc, _⟩ := C.has i y e
    obtain ⟨v, o, e1, _, _, e2⟩ := hg c (in_cells hc)
    exact ⟨c, v, o, hc, e2 i y e hc, by rw [i2 c (in_cells hc), e1]⟩
  · rw [o2]
    · exact (e0.bs b o e).2
    · intro hb
      have h1 := Heap.lt_size e
      have h2 := (big b hb).1
      exact absurd (Nat.lt_of_lt_of_le h1 (Nat.le_trans I.ok.bsz h2)) (Nat.lt_irrefl _)
  · rw [o2]
    · exact e0.frf b hb
    · intro hc
      rcases List.mem_cons.mp (I.stkSub b hb) with z | z
      · exact (big b hc).2 z
      · obtain ⟨_, ob, ho, _⟩ := I.ok.funs.mem z
        have h1 := Heap.lt_size ho
        exact absurd (Nat.lt_of_lt_of_le h1 (big b hc).1) (Nat.lt_irrefl _)
  · by_cases hb : b ∈ cellsL cl
    · rw [i2 b hb] at e
      obtain ⟨v, ob, e1, e2, e3, _⟩ := hg b hb
      rw [e1] at e
      cases e
      exact ⟨e2, e3, ⟨ob, e2⟩, fun h1 h2 ⟨u, ru, o, z1, z2⟩ st => ⟨u, ru, o, st _ z1, z2⟩⟩
    · rw [o2 b hb] at e
      have own : ∀ c o, H c = some o → bak (fun b => some (g b)) H (cellsL cl) c = some o := fun c o q => by
        rw [o2 c (fun hc => by rw [nH c hc] at q; cases q)]
        exact q
      exact (I.hok b o e).stay (fun _ _ _ q => q) (fun c q => own c _ q) fun c xs q => own c _ q
theorem pe_clT (c : G.CL X.prog X.w X.K X.mg X.base C8.CX0 k x ps sp) (hr : Room j X.A) (hk : k ≤ j) (cp : X.Ok → Caps X cl fr js) (nd : fr.Nodup) (sub : ∀ y c, cl.lookup y = some c → y ∈ fr) (fn : ∀ y ∈ fr, X.fn y = true) (ha : PA X (e :: es) t) (hg : Gl X x := by rfl)
    (hdb : (x == ("__debug__" : Str)) = false := by decide) (he : starEach (e :: es) X.env = (false, eval e X.env) :: starEach es X.env := by rfl) (hpl : (backTo pos (starEach es X.env)).any (·.1) = false := by rfl) :
    PE X (.Call (.Name x p) (e :: es) [] pos) (tCallT cl fr js sp E t) := by
  obtain ⟨f, fd, F, hm, kp, b⟩ := c.ex
  refine ⟨fun pins s σ H Q I h => ?_⟩
  refine wpAny_Call_Name_kw (ld_glob I hg hm ?_ hdb)
  refine PySem.W.callWith_K (h₀ := X.base) I.ok.mod.kin kp (thn (ha.run pos pins s σ H _ I h) fun us s1 ⟨vs, H1, I1, r, hv, q⟩ => ⟨I1.kIn, ?_⟩) he hpl
  obtain ⟨H2, a1, a2, a3, a4, e2⟩ := track I1 (cp I1.ok) nd sub fn hv
  have hq := q H2 a1 a2 a4
  have hl : (us ++ []).length = ps.length := by
    rw [List.append_nil, ← r.length]
    exact F.len _ _ _ _ hq
  refine wpAny_call (codeAny_mono (F.run X.A X.stack s1 H2 ⟨us, []⟩ (us ++ []) vs _ E (hr.mono hk) e2 (b s1 us I1.kIn hl) (by rw [List.append_nil]; exact r) hq) fun r s' hq' => ?_)
  cases r with
  | error e => exact (show False from hq').elim
  | ok fl =>
    cases fl with
    | ret u => exact I1.after (ce_drp e2.hok a3 a1 a2 hq')
    | next => exact False.elim hq'
    | brk => exact False.elim hq'
    | cont => exact False.elim hq'
end
end LV
set_option Elab.async false
set_option linter.all false
set_option maxRecDepth 100000
set_option maxHeartbeats 4000000
/-! # sorted(xs, key=f): the keys pairs of ints -/
namespace SK
open PySem PyProof.Rows Srt SrtO
section
variable {prog : Program} {w : World} {A : Around} {E : Value → Shared → Prop} {s : Shared}
abbrev endH (h : Heap) (kS a : Addr) (out : Array Value) : Heap := (h.update kS (Obj.mapSeq fun _ => (#[] : Array Value))).update a (Obj.mapSeq fun _ => out)
theorem tail_o {a kS : Addr} {keys : Array Value} {e e1 : Nat} {R : PySem.Fin → Shared → Prop} {st : SortSt} (hk : s.heap.get? kS = some (seqObj "list" keys e)) (ha : s.heap.get? a = some (seqObj "list" #[] e1)) (hka : kS ≠ a) (hz : keys.size ≤ sizeLine)
    (hn : (arrOf st).size ≤ sizeLine) (hfl : failedOf st = none) (h : R (.done (.ret .none)) { s with heap := endH s.heap kS a ((arrOf st).map (·.2)) }) : wpAny (model prog w) A (ksk_tail a false e1 (.ref kS) st) R E s := by
  have s1 := Heap.SameBut.update s.heap kS (Obj.mapSeq fun _ => (#[] : Array Value))
  have na1 : (s.heap.update kS (Obj.mapSeq fun _ => (#[] : Array Value))).get? a = some (seqObj "list" #[] e1) := (s1.2 a hka.symm).trans ha
  unfold ksk_tail
  try dsimp only
  refine wpAny_bind (listUpdate_at hk rfl ?_ (by omega) (Nat.zero_le _))
  refine wpAny_bind (wpAny_letGo ?_)
  refine wpAny_bind (seqEpoch_at na1 rfl ?_)
  refine wpAny_bind (listUpdate_at na1 rfl ?_ (Nat.zero_le _) (by simp only [Bool.false_eq_true, if_false, Array.size_map]; omega))
  rw [hfl]
  simp only [bne_self_eq_false, Bool.false_eq_true, if_false]
  exact wpAny_pure h
theorem end_o {a kS : Addr} {keys : Array Value} {vs : List Value} {kf : Value → Int × Int} {e e1 : Nat} {R : PySem.Fin → Shared → Prop} (hk : s.heap.get? kS = some (seqObj "list" keys e)) (ha : s.heap.get? a = some (seqObj "list" #[] e1)) (hka : kS ≠ a) (hz : vs.length ≤ sizeLine) (hl : keys.size = vs.length)
    (hp : ∀ v ∈ keys.toList, IsPair s.heap v (kf v).1 (kf v).2)
    (h : ∀ arr : List Keyed, Srtd (fun p q => lexB (kf p.1) (kf q.1)) arr → Stb (fun p q => lexB (kf p.1) (kf q.1)) arr (keys.zip vs.toArray).toList → R (.done (.ret .none)) { s with heap := endH s.heap kS a (arr.map (·.2)).toArray }) :
    wpAny (model prog w) A (ksk_end a false vs.toArray e1 (.ref kS) keys) R E s := by
  have hzs : (keys.zip vs.toArray).size = vs.length := by rw [Array.size_zip, hl, List.size_toArray, Nat.min_self]
  have fin : ∀ st' : SortSt, failedOf st' = none → Srtd (lt2 fun v u => lexB (kf v) (kf u)) (arrOf st').toList → Stb (lt2 fun v u => lexB (kf v) (kf u)) (arrOf st').toList (keys.zip vs.toArray).toList →
      wpAny (model prog w) A (ksk_tail a false e1 (.ref kS) st') R E s := fun st' hf h1 h2 => by
    have hn : (arrOf st').size ≤ sizeLine := by
      have q := h2.len
      rw [Array.length_toList, Array.length_toList, hzs] at q
      omega
    have q := h (arrOf st').toList h1 h2
    have eo : ((arrOf st').toList.map (·.2)).toArray = (arrOf st').map (·.2) := by
      rw [← Array.toList_map, Array.toArray_toList]
    rw [eo] at q
    exact tail_o hk ha hka (by omega) hn hf q
  unfold ksk_end
  try dsimp only
  simp only [Bool.false_eq_true, if_false]
  by_cases h2 : vs.toArray.size < 2
  · rw [if_pos h2, if_pos h2]
    refine wpAny_bind (wpAny_pure ?_)
    rw [StateT.run_pure]
    refine wpAny_bind (wpAny_pure ?_)
    try dsimp only
    refine fin (SortSt.mk' general' (keys.zip vs.toArray) #[] 7 none) rfl ?_ (Stb.refl _)
    show Srtd _ (keys.zip vs.toArray).toList
    have hl2 : (keys.zip vs.toArray).toList.length < 2 := by
      rw [Array.length_toList, hzs]
      rw [List.size_toArray] at h2
      exact h2
    match (keys.zip vs.toArray).toList, hl2 with
    | [], _ => exact List.Pairwise.nil
    | [v], _ => exact List.pairwise_singleton _ _
    | _ :: _ :: l, hh => exact absurd hh (by rw [List.length_cons, List.length_cons]; omega)
  · rw [if_neg h2, if_neg h2]
    rw [List.size_toArray] at h2
    have hpos : 0 < keys.toList.length := by rw [Array.length_toList]; omega
    obtain ⟨κ, hkind, hT⟩ := pairs_sortableO (prog := prog) (w := w) (A := A) (s := s) (a := a) (vs := keys.toList) (k := kf) hpos hp (fun o e c => by
      rw [ha] at e
      cases e
      exact absurd (Value.type.inj c) (by decide)) s.heap (fun _ _ _ q => q)
    rw [Array.toArray_toList] at hkind
    refine wpAny_bind (hkind _ _ ?_)
    have hall : AllL (fun p : Keyed => p.1 ∈ keys.toList) (keys.zip vs.toArray).toList := fun p hm => by
      rw [ksk_zip] at hm
      exact (List.of_mem_zip hm).1
    refine wpAny_bind (wpAny_mono (wpS_sortO (st0 := SortSt.mk' κ (keys.zip vs.toArray) #[] 7 none)
      (Q := fun _ st' => Srtd (lt2 fun v u => lexB (kf v) (kf u)) (arrOf st').toList ∧ Stb (lt2 fun v u => lexB (kf v) (kf u)) (arrOf st').toList (keys.zip vs.toArray).toList ∧ failedOf st' = none) (swo2 (swo_lex kf)) hT rfl hall rfl rfl fun st' a1 a2 a3 => ⟨a1, a2, a3⟩) ?_ fun _ _ e => e)
    rintro ⟨⟨⟩, st'⟩ s' ⟨rfl, hp1, hp2, hf⟩
    try dsimp only
    exact fin st' hf hp1 hp2
end
end SK
set_option Elab.async false
set_option linter.all false
set_option maxRecDepth 100000
set_option maxHeartbeats 4000000
/-! # sorted(xs, key=f), f a function value that tells a pair of ints of each item -/
namespace LV
open PySem PySem.Spec PyProof.Rows L2 LamX NdefX Srt SrtO SK
theorem stb_on {α : Type} {lt lt' : α → α → Bool} (O' : Swo lt') {l m : List α} (h : Stb lt l m) (e : ∀ x ∈ m, ∀ y ∈ m, lt x y = lt' x y) : Stb lt' l m := by
  have mem : ∀ x, x ∈ l → x ∈ m := fun x hx => h.perm.mem_iff.mp hx
  have ev : ∀ x ∈ m, ∀ y ∈ m, eqv lt x y = eqv lt' x y := fun x hx y hy => by
    unfold eqv
    rw [e x hx y hy, e y hy x hx]
  refine ⟨h.perm, fun x => ?_⟩
  by_cases ex : ∃ u, u ∈ m ∧ eqv lt' x u = true
  · obtain ⟨u, hu, hx⟩ := ex
    have e1 : ∀ v, eqv lt' x v = eqv lt' u v := fun v => eqv_trans O' hx
    rw [List.filter_congr (q := eqv lt u) (fun v hv => by rw [e1 v, ev u hu v (mem v hv)]), List.filter_congr (l := m) (q := eqv lt u) (fun v hv => by rw [e1 v, ev u hu v hv])]
    exact h.cls u
  · rw [List.filter_eq_nil_iff.mpr fun u hu q => ex ⟨u, mem u hu, q⟩, List.filter_eq_nil_iff.mpr fun u hu q => ex ⟨u, hu, q⟩]
section
variable {X : Cx} {pins : List (Addr × Obj)} {σ : L2.St} {H : Hp} {s : Shared}
/-- an object of ours that was not tracked is tracked from now on -/
theorem inv_track {a : Addr} {o : HO} (I : Inv X pins σ H s) (hn : H a = none) (h0 : X.s_0.heap.objs.size ≤ a) (hL : a ≠ X.env.locals) (hc : ∀ x c, X.env.cells.lookup x = some c → c ≠ a) (hp : ∀ p ∈ X.pn ++ pins, p.1 ≠ a) (new : ObjOk X.prog X.w (upd H a o) s.heap a o) : Inv X pins σ (upd H a o) s := by
  have at_ : ∀ b u, H b = some u → upd H a o b = some u := fun b u e => (upd_ne (ne_of_none e hn)).trans e
  have old : ∀ b ob, X.s_0.heap.get? b = some ob → b ≠ a := fun b ob e z => by
    rw [z] at e
    exact Nat.lt_irrefl _ (Nat.lt_of_lt_of_le (Heap.lt_size e) h0)
  refine ⟨I.ok, I.os, I.bare, ⟨I.base.keep, I.base.slot, fun b ob e n hx => (upd_ne (old b ob e)).trans (I.base.free b ob e n hx), I.base.there, fun b xs e => at_ _ _ (I.base.tups b xs e), fun b ob u e => at_ _ _ (I.base.frzs b ob u e), fun b ps e => ?_⟩, I.loc, I.cell, (upd_ne hL.symm).trans I.free,
    fun x c e => (upd_ne (hc x c e)).trans (I.freeC x c e), fun p h => ?_, fun b u e => ?_, I.len⟩
  · obtain ⟨more, q⟩ := I.base.tbls b ps e
    exact ⟨more, at_ _ _ q⟩
  · obtain ⟨e1, e2, e3⟩ := I.pin p h
    exact ⟨e1, (upd_ne (hp p h)).trans e2, e3⟩
  · by_cases hb : b = a
    · rw [hb, upd_same] at e
      cases e
      rw [hb]
      exact new
    · rw [upd_ne hb] at e
      exact (I.hok b u e).stay (fun _ _ _ q => q) (fun c q => at_ _ _ q) fun c xs q => at_ _ _ q
end
def KeyAt (g : V → Int × Int) (H : Hp) (x : V) (u : Value) : Prop := ∃ t, u = .ref t ∧ H t = some (.tup [.int (g x).1, .int (g x).2])
theorem KeyAt.same {g : V → Int × Int} {H H' : Hp} {x : V} {u : Value} (h : KeyAt g H x u) (s : L2.Same H H') : KeyAt g H' x u := by
  obtain ⟨t, e, q⟩ := h
  exact ⟨t, e, s _ _ q⟩
theorem keyAt_pair {P : Program} {w : World} {g : V → Int × Int} {H : Hp} {h : Heap} {x : V} {u : Value} (k : KeyAt g H x u) (ok : HOk P w H h) : IsPair h u (g x).1 (g x).2 := by
  obtain ⟨t, e, q⟩ := k
  obtain ⟨_, its, r, o, ho, hc, n, hd⟩ := ok t _ q
  cases r with
  | cons r1 r' =>
    cases r' with
    | cons r2 r'' =>
      cases r''
      obtain ⟨t1, rfl⟩ := r1
      obtain ⟨t2, rfl⟩ := r2
      exact ⟨t, o, t1, t2, n, e, ho, hc, hd⟩
/-- the key that stands at a value -/
def kfOf (H : Hp) : Value → Int × Int
  | .ref t => match H t with
    | some (.tup [.int i, .int j]) => (i, j)
    | _ => (0, 0)
  | _ => (0, 0)
theorem kfOf_at {g : V → Int × Int} {H : Hp} {x : V} {u : Value} (k : KeyAt g H x u) : kfOf H u = g x := by
  obtain ⟨t, e, q⟩ := k
  rw [e]
  unfold kfOf
  simp only [q]
/-- the list is emptied, its items' keys are asked, sorted -/
theorem Inv.turn {X : Cx} {pins : List (Addr × Obj)} {σ : L2.St} {H : Hp} {s : Shared} {a : Addr} {o o' : Obj} {h' : Heap} (I : Inv X ((a, o) :: pins) σ H s) (k : ∀ b u, b ≠ a → s.heap.get? b = some u → h'.get? b = some u) (e : h'.get? a = some o') (d : ∀ v, o'.data ≠ .cell v)
    (h0 : X.s_0.heap.objs.size ≤ a) (hp : ∀ p ∈ X.pn ++ pins, p.1 ≠ a) : Inv X ((a, o') :: pins) σ H { s with heap := h' } := by
  obtain ⟨g, n, nl, nf, nd⟩ := I.pin (a, o) (List.mem_append_right _ List.mem_cons_self)
  have I0 : Inv X pins σ H s := I.pins_of fun p h => I.pin p (List.mem_append_right _ (List.mem_cons_of_mem _ h))
  have hc : ∀ x c, X.env.cells.lookup x = some c → c ≠ a := fun x c e z => by
    obtain ⟨v, ob, ho, hd⟩ := I.cell x c e
    rw [z] at ho
    have g' : s.heap.get? a = some o := g
    rw [g'] at ho
    cases ho
    exact nd v hd
  have I1 : Inv X pins σ H { s with heap := h' } := I0.turned (t' := s.toks) k n nl (.inr h0) hc hp
  refine I1.pins_of fun p h => ?_
  rcases List.mem_cons.mp h with z | z
  · rw [z]
    exact ⟨e, n, nl, nf, d⟩
  · exact I1.pin p (List.mem_append_right _ z)
section
variable {X : Cx} {k j : Nat} {pins : List (Addr × Obj)} {σ : L2.St} {H : Hp} {s : Shared} {f a kS : Addr} {spk : Sp} {g : V → Int × Int} {xs : List V} {vs : List Value} {e0 e1 : Nat}
theorem key_call {sp : Sp} {H' : Hp} {s' : Shared} {Q : VK} {x : V} {u : Value} (Fv : FV X.prog X.w X.K X.mg X.base C8.CX0 k H f sp) (hr : Room (k + 2) X.A) (I : Inv X pins σ H' s') (e : ExtN H H') (r : L2.RelV x u) (h : sp [x] H' Q C8.E0) :
    wpAny (model X.prog X.w) X.A.in1.in1 (call (.ref f) [u]) (EP X pins σ Q) (fun _ _ => False) s' := by
  have e0 : Env0 X.prog X.w X.K X.mg X.base X.A.in1.in1 X.stack s' H' := I.env0.in1.in1
  refine wpAny_call (codeAny_mono (Fv.2 X.A.in1.in1 X.stack s' H' [u] [x] Q C8.E0 e (Room.in1 (Room.in1 hr)) e0 (.cons r .nil) h) fun r s2 hq => ?_)
  cases r with
  | error e => exact (show False from hq).elim
  | ok fl =>
    cases fl with
    | ret u => exact I.after hq
    | next => exact False.elim hq
    | brk => exact False.elim hq
    | cont => exact False.elim hq
theorem keys_run {E : Value → Shared → Prop} {R : PySem.Fin → Shared → Prop} (Fv : FV X.prog X.w X.K X.mg X.base C8.CX0 k H f spk) (hr : Room (k + 2) X.A) (hsp : ∀ x ∈ xs, ∀ H1 Q, L2.Same H H1 → (∀ v H2, L2.Same H1 H2 → (∃ t, v = V.ref t ∧ H2 t = some (.tup [.int (g x).1, .int (g x).2])) → Q v H2) → spk [x] H1 Q C8.E0)
    (I : Inv X ((kS, seqObj "list" #[] 0) :: (a, seqObj "list" #[] e1) :: pins) σ H s) (r : Vals xs vs) (hz : xs.length < sizeLine) (hx : ∀ x ∈ xs, ∃ t, x = V.ref t) (hk0 : X.s_0.heap.objs.size ≤ kS) (ha0 : X.s_0.heap.objs.size ≤ a) (hka : kS ≠ a) (hpk : ∀ p ∈ X.pn ++ pins, p.1 ≠ kS) (hpa : ∀ p ∈ X.pn ++ pins, p.1 ≠ a)
    (h : ∀ (ys : List V) (H' : Hp) (s' : Shared), L2.Same H H' → H' a = none → Srtd (ltP g) ys → Stb (ltP g) ys xs → Inv X pins σ (upd H' a (.lst ys)) s' → R (.done (.ret .none)) s') :
    wpAny (model X.prog X.w) X.A.in1.in1 (ksk_rest a (.ref f) false vs.toArray e1 (.ref kS)) R E s := by
  have hl : xs.length = vs.length := r.length
  unfold ksk_rest
  refine wpAny_bind (wpAny_rule ?_)
  first
    | rw [List.forIn_toArray]
    | (rw [← Array.forIn_toList]; simp only [List.toList_toArray])
    | rw [← Array.forIn_toList]
  refine wpAny_bind (ksk_fold (fun i s' => ∃ H' kA e, Inv X ((kS, seqObj "list" kA e) :: (a, seqObj "list" #[] e1) :: pins) σ H' s' ∧ L2.Same H H' ∧ Paired (KeyAt g H') (xs.take i) kA.toList) vs 0 s ⟨H, #[], 0, I, fun _ _ q => q, by simpa using Paired.nil⟩ ?step ?done)
  case step =>
    rintro j u s' hu ⟨H', kA, e, I', sm, hk⟩
    simp only [Nat.zero_add] at hk ⊢
    have hj : j < vs.length := (List.getElem?_eq_some_iff.mp hu).1
    have hxj : xs[j]? = some xs[j] := List.getElem?_eq_getElem (by omega)
    obtain ⟨u', hu', ru⟩ := r.get hxj
    rw [hu] at hu'
    cases hu'
    have hm : xs[j] ∈ xs := List.getElem_mem (by omega)
    refine wpAny_bind (wpAny_attempt (wpAny_mono (key_call (Q := fun v H2 => L2.Same H' H2 ∧ ∃ t, v = V.ref t ∧ H2 t = some (.tup [.int (g xs[j]).1, .int (g xs[j]).2])) Fv hr I' (ExtN.of sm) ru (hsp _ hm H' _ sm fun v H2 a b => ⟨a, b⟩)) (fun v s2 hq => ?_) fun _ _ hF => False.elim hF))
    obtain ⟨v', H2, I2, rv, sm2, t, ev, ht⟩ := hq
    subst ev
    obtain rfl : v = Value.ref t := rv
    try dsimp only
    have nk := (I2.pin (kS, seqObj "list" kA e) (List.mem_append_right _ List.mem_cons_self)).1
    have s1 := Heap.SameBut.update s2.heap kS (Obj.mapSeq (·.push (.ref t)))
    obtain ⟨c2, hc2⟩ : ∃ c2, (s2.heap.update kS (Obj.mapSeq (·.push (.ref t)))).get? kS = some (seqObj "list" (kA.push (.ref t)) c2) := ⟨_, get?_update_seq nk (·.push (.ref t))⟩
    have kl : kA.size = j := by
      have q := Paired.length hk
      rw [List.length_take] at q
      have e : kA.toList.length = kA.size := Array.length_toList
      omega
    have I3 := Inv.turn (h' := s2.heap.update kS (Obj.mapSeq (·.push (.ref t)))) I2 (fun b u hb e => (s1.2 b hb).trans e) hc2 (fun v z => by cases z) hk0 (fun p hp => by
      rcases List.mem_append.mp hp with z | z
      · exact hpk p (List.mem_append_left _ z)
      · rcases List.mem_cons.mp z with z | z
        · rw [z]; exact hka.symm
        · exact hpk p (List.mem_append_right _ z))
    refine wpAny_bind (listUpdate_at nk rfl ?_ (by omega) (by rw [Array.size_push]; omega))
    refine wpAny_pure ⟨rfl, H2, kA.push (.ref t), c2, I3, fun b o q => sm2 b o (sm b o q), ?_⟩
    have ek : xs.take (j + 1) = xs.take j ++ [xs[j]] := by rw [List.take_add_one, hxj]; rfl
    rw [ek, Array.toList_push]
    exact (Paired.mapP hk fun x u q => q.same sm2).snoc ⟨t, rfl, ht⟩
  case done =>
    rintro s' ⟨H', kA, e, I', sm, hk⟩
    have e3 : xs.take (0 + vs.length) = xs := List.take_of_length_le (by omega)
    rw [e3] at hk
    have nk := (I'.pin (kS, seqObj "list" kA e) (List.mem_append_right _ List.mem_cons_self)).1
    have na := (I'.pin (a, seqObj "list" #[] e1) (List.mem_append_right _ (List.mem_cons_of_mem _ List.mem_cons_self))).1
    have kl : kA.size = vs.length := by
      have q := Paired.length hk
      have e : kA.toList.length = kA.size := Array.length_toList
      omega
    try dsimp only
    refine wpAny_bind (listItems_at nk rfl ?_)
    refine end_o (kf := kfOf H') nk na hka (by omega) kl (fun v hv => ?_) fun arr h1 h2 => ?_
    · obtain ⟨i, hi⟩ := List.mem_iff_getElem?.mp hv
      obtain ⟨x, _, kx⟩ := L2.DX.pget hk hi
      rw [kfOf_at kx]
      exact keyAt_pair kx I'.hok
    · obtain ⟨eb, er⟩ := refs_back r hx
      have ez : (kA.zip vs.toArray).toList = kA.toList.zip vs := ksk_zip kA vs
      rw [ez] at h2
      have zf : ∀ p ∈ kA.toList.zip vs, kfOf H' p.1 = g (backV p.2) := fun p hp => by
        obtain ⟨i, hi⟩ := List.mem_iff_getElem?.mp hp
        obtain ⟨i1, i2⟩ := List.getElem?_zip_eq_some.mp hi
        obtain ⟨x, hxi, kx⟩ := L2.DX.pget hk i1
        rw [kfOf_at kx]
        rw [eb, List.getElem?_map, i2] at hxi
        rw [← Option.some.inj hxi]
      have af : ∀ p ∈ arr, kfOf H' p.1 = g (backV p.2) := fun p hp => zf p (h2.perm.mem_iff.mp hp)
      have O2 : Swo (fun p q : Keyed => ltP g (backV p.2) (backV q.2)) := ⟨fun x y => (ltP_swo g).1 _ _, fun x y z => (ltP_swo g).2 _ _ _⟩
      have st := Stb.map (ltP_swo g) (fun p : Keyed => backV p.2) (stb_on O2 h2 fun p hp q hq => by rw [zf p hp, zf q hq])
      have em : (kA.toList.zip vs).map (fun p : Keyed => backV p.2) = xs := by
        rw [eb, show (fun p : Keyed => backV p.2) = backV ∘ Prod.snd from rfl, ← List.map_map, List.map_snd_zip (by have e : kA.toList.length = kA.size := Array.length_toList; omega)]
      rw [em] at st
      have so : Srtd (ltP g) (arr.map fun p : Keyed => backV p.2) := srtd_map (lt := ltP g) (f := fun p : Keyed => backV p.2) (List.Pairwise.imp_of_mem (fun {p q} hp hq e => by
        show lexB (g (backV q.2)) (g (backV p.2)) = false
        rw [← af p hp, ← af q hq]
        exact e) h1)
      have vv : Vals (arr.map fun p : Keyed => backV p.2) (arr.map (·.2)) := by
        have all : ∀ l : List Keyed, (∀ p ∈ l, ∃ t, p.2 = Value.ref t) → Vals (l.map fun p : Keyed => backV p.2) (l.map (·.2)) := fun l => by
          induction l with
          | nil => intro _; exact .nil
          | cons p l ih =>
            intro hh
            obtain ⟨t, e⟩ := hh p List.mem_cons_self
            refine .cons ?_ (ih fun q hq => hh q (List.mem_cons_of_mem _ hq))
            show L2.RelV (backV p.2) p.2
            rw [e]
            exact rfl
        exact all arr fun p hp => er _ (List.of_mem_zip (h2.perm.mem_iff.mp hp)).2
      have s1 := Heap.SameBut.update s'.heap kS (Obj.mapSeq fun _ => (#[] : Array Value))
      obtain ⟨c1, hc1⟩ : ∃ c1, (s'.heap.update kS (Obj.mapSeq fun _ => (#[] : Array Value))).get? kS = some (seqObj "list" #[] c1) := ⟨_, get?_update_seq nk fun _ => #[]⟩
      have I1 := Inv.turn (h' := s'.heap.update kS (Obj.mapSeq fun _ => (#[] : Array Value))) I' (fun b u hb e => (s1.2 b hb).trans e) hc1 (fun v z => by cases z) hk0 (fun p hp => by
        rcases List.mem_append.mp hp with z | z
        · exact hpk p (List.mem_append_left _ z)
        · rcases List.mem_cons.mp z with z | z
          · rw [z]; exact hka.symm
          · exact hpk p (List.mem_append_right _ z))
      have I2 : Inv X ((a, seqObj "list" #[] e1) :: pins) σ H' { s' with heap := s'.heap.update kS (Obj.mapSeq fun _ => (#[] : Array Value)) } := I1.pins_of fun p hp => I1.pin p (List.mem_append_right _ (List.mem_cons_of_mem _ hp))
      have na1 := (I2.pin (a, seqObj "list" #[] e1) (List.mem_append_right _ List.mem_cons_self)).1
      have s2 := Heap.SameBut.update (s'.heap.update kS (Obj.mapSeq fun _ => (#[] : Array Value))) a (Obj.mapSeq fun _ => (arr.map (·.2)).toArray)
      obtain ⟨c2, hc2⟩ : ∃ c2, ((s'.heap.update kS (Obj.mapSeq fun _ => (#[] : Array Value))).update a (Obj.mapSeq fun _ => (arr.map (·.2)).toArray)).get? a = some (seqObj "list" (arr.map (·.2)).toArray c2) := ⟨_, get?_update_seq na1 fun _ => (arr.map (·.2)).toArray⟩
      have I3 := Inv.turn (h' := (s'.heap.update kS (Obj.mapSeq fun _ => (#[] : Array Value))).update a (Obj.mapSeq fun _ => (arr.map (·.2)).toArray)) I2 (fun b u hb e => (s2.2 b hb).trans e) hc2 (fun v z => by cases z) ha0 hpa
      obtain ⟨g3, n3, nl3, _, nd3⟩ := I3.pin (a, seqObj "list" (arr.map (·.2)).toArray c2) (List.mem_append_right _ List.mem_cons_self)
      have I4 : Inv X pins σ H' { s' with heap := endH s'.heap kS a (arr.map (·.2)).toArray } := I3.pins_of fun p hp => I3.pin p (List.mem_append_right _ (List.mem_cons_of_mem _ hp))
      have hcells : ∀ x c, X.env.cells.lookup x = some c → c ≠ a := fun x c e z => by
        obtain ⟨v, ob, ho, hd⟩ := I4.cell x c e
        rw [z] at ho
        rw [show (endH s'.heap kS a (arr.map (·.2)).toArray).get? a = _ from g3] at ho
        cases ho
        exact nd3 v hd
      have ln : (arr.map fun p : Keyed => backV p.2).length ≤ sizeLine := by
        rw [st.len]
        omega
      exact h _ H' _ sm n3 so st (inv_track I4 n3 ha0 nl3 hcells hpa ⟨ln, _, c2, vv, g3⟩)
end
end LV
set_option Elab.async false
set_option linter.all false
set_option maxRecDepth 100000
set_option maxHeartbeats 4000000
/-! # sorted(xs, key=f): the rule -/
namespace LV
open PySem PySem.Spec PyProof.Rows L2 LamX NdefX Srt SrtO SK
/-- sorted(xs, key=f): f tells a pair of ints of each item and keeps all that stands -/
def rSortedF (X : Cx) (k : Nat) : List V → List V → Hp → VK → Prop := fun vs zs H Q => ∃ (a f : Addr) (xs : List V) (spk : Sp) (g : V → Int × Int), vs = [V.ref a] ∧ zs = [V.ref f] ∧ SqL X.K H a xs ∧ xs.length < sizeLine ∧ (∀ x ∈ xs, ∃ t, x = V.ref t) ∧ FV X.prog X.w X.K X.mg X.base C8.CX0 k H f spk ∧
  (∀ x ∈ xs, ∀ H1 Q, L2.Same H H1 → (∀ v H2, L2.Same H1 H2 → (∃ t, v = V.ref t ∧ H2 t = some (.tup [.int (g x).1, .int (g x).2])) → Q v H2) → spk [x] H1 Q C8.E0) ∧
  ∀ ys p H', L2.Same H H' → H' p = none → Srtd (ltP g) ys → Stb (ltP g) ys xs → Q (.ref p) (upd H' p (.lst ys))
section
variable {X : Cx} {k : Nat}
theorem cr_sortedF (hr : Room (k + 2) X.A) : CallRK X (.builtin "sorted") [Str.ofString "key"] (rSortedF X k) := by
  intro pins s σ H vs zs us ws Q I r rz h
  obtain ⟨l, f, xs, spk, g, rfl, rfl, hs, hz, hx, Fv, hsp, hq⟩ := h
  obtain ⟨its, rv, hl, _⟩ := I.list hs
  obtain ⟨u, rfl, ru⟩ := vals1 r
  obtain rfl : u = Value.ref l := ru
  obtain ⟨u2, rfl, ru2⟩ := vals1 rz
  obtain rfl : u2 = Value.ref f := ru2
  have hlen : xs.length = its.length := rv.length
  show wpAny _ _ (call (.builtin "sorted") [.ref l] [(Str.ofString "key", .ref f)]) _ _ _
  refine call_function_entry_kw kind_sorted plain_sorted entry_sorted (ksk_s1 _ _) ?_
  unfold Builtin.«sorted»
  refine wpAny_bind (m := checkCount "sorted" 1 1 _) (wpAny_pure ?_)
  refine wpAny_bind (collect_list hl.isList ?_ (by omega))
  refine wpAny_bind (wpAny_newList ?_ (by show its.length ≤ _; omega))
  have hsz : ((s.heap.push (seqObj "list" #[] 0)).update s.heap.objs.size (Obj.mapSeq (· ++ its.toArray))).objs.size = s.heap.objs.size + 1 := by
    rw [Heap.size_update, size_push']
  have hoL : (((s.heap.push (seqObj "list" #[] 0)).update s.heap.objs.size (Obj.mapSeq (· ++ its.toArray))).push (seqObj "list" its.toArray 0)).get? (s.heap.objs.size + 1) = some (seqObj "list" its.toArray 0) := by
    rw [← hsz]; exact Heap.get?_push_size _ rfl
  have keep : ∀ b o, s.heap.get? b = some o → (((s.heap.push (seqObj "list" #[] 0)).update s.heap.objs.size (Obj.mapSeq (· ++ its.toArray))).push (seqObj "list" its.toArray 0)).get? b = some o := fun b o q => by
    have hlt : b < s.heap.objs.size := Heap.lt_size q
    rw [Heap.get?_push_ne _ _ _ (by rw [hsz]; exact Nat.ne_of_lt (Nat.lt_succ_of_lt hlt)), Heap.get?_update_ne _ _ _ _ (Nat.ne_of_lt hlt), Heap.get?_push_ne _ _ _ (Nat.ne_of_lt hlt)]
    exact q
  show wpAny _ _ _ _ _ { s with heap := ((s.heap.push (seqObj "list" #[] 0)).update s.heap.objs.size (Obj.mapSeq (· ++ its.toArray))).push (seqObj "list" its.toArray 0) }
  rw [hsz]
  generalize hh1 : ((s.heap.push (seqObj "list" #[] 0)).update s.heap.objs.size (Obj.mapSeq (· ++ its.toArray))).push (seqObj "list" its.toArray 0) = h1 at hoL keep ⊢
  have hn1 : h1.objs.size = s.heap.objs.size + 2 := by rw [← hh1, size_push', hsz]
  clear hh1
  refine wpAny_bind (wpAny_holding (wpAny_call_entry_kw slot_list_sort ⟨_, hoL, rfl⟩ entry_list_sort ?body (ksk_l1 _ _)))
  case body =>
    show wpAny (model X.prog X.w) X.A.in1.in1 (Builtin.«list.sort» ⟨[.ref (s.heap.objs.size + 1)], [(Str.ofString "key", .ref f)]⟩) _ _ _
    rw [ksk_t1]
    have s1 := Heap.SameBut.update h1 (s.heap.objs.size + 1) (Obj.mapSeq fun _ => (#[] : Array Value))
    obtain ⟨e1, ho1⟩ : ∃ e1, (h1.update (s.heap.objs.size + 1) (Obj.mapSeq fun _ => (#[] : Array Value))).get? (s.heap.objs.size + 1) = some (seqObj "list" #[] e1) := ⟨_, get?_update_seq hoL fun _ => #[]⟩
    unfold ksk_tree
    refine wpAny_bind (listItems_at hoL rfl ?_)
    refine wpAny_bind (listUpdate_at hoL rfl ?_ (by rw [List.size_toArray]; omega) (Nat.zero_le _))
    refine wpAny_bind (seqEpoch_at ho1 rfl ?_)
    refine wpAny_bind (wpAny_newTuple ?_ (by show its.length ≤ _; omega))
    refine wpAny_bind (wpAny_newList ?_ (Nat.zero_le _))
    refine wpAny_holding ?_
    have sz2 : (h1.update (s.heap.objs.size + 1) (Obj.mapSeq fun _ => (#[] : Array Value))).objs.size = s.heap.objs.size + 2 := by rw [Heap.size_update, hn1]
    have sz3 : ((h1.update (s.heap.objs.size + 1) (Obj.mapSeq fun _ => (#[] : Array Value))).push (seqObj "tuple" its.toArray 0)).objs.size = s.heap.objs.size + 3 := by rw [size_push', sz2]
    have kp : ∀ b o, s.heap.get? b = some o → (((h1.update (s.heap.objs.size + 1) (Obj.mapSeq fun _ => (#[] : Array Value))).push (seqObj "tuple" its.toArray 0)).push (seqObj "list" #[] 0)).get? b = some o := fun b o q => by
      have hlt : b < s.heap.objs.size := Heap.lt_size q
      exact Heap.get?_push_of_some _ (Heap.get?_push_of_some _ ((s1.2 b (Nat.ne_of_lt (Nat.lt_succ_of_lt hlt))).trans (keep b o q)))
    have hA : (((h1.update (s.heap.objs.size + 1) (Obj.mapSeq fun _ => (#[] : Array Value))).push (seqObj "tuple" its.toArray 0)).push (seqObj "list" #[] 0)).get? (s.heap.objs.size + 1) = some (seqObj "list" #[] e1) := Heap.get?_push_of_some _ (Heap.get?_push_of_some _ ho1)
    have hK : (((h1.update (s.heap.objs.size + 1) (Obj.mapSeq fun _ => (#[] : Array Value))).push (seqObj "tuple" its.toArray 0)).push (seqObj "list" #[] 0)).get? (s.heap.objs.size + 3) = some (seqObj "list" #[] 0) := by
      rw [← sz3]; exact Heap.get?_push_size _ rfl
    have I0 : Inv X pins σ H { s with heap := ((h1.update (s.heap.objs.size + 1) (Obj.mapSeq fun _ => (#[] : Array Value))).push (seqObj "tuple" its.toArray 0)).push (seqObj "list" #[] 0) } := I.kept (t' := s.toks) kp
    have low : ∀ p ∈ X.pn ++ pins, p.1 < s.heap.objs.size := fun p hp => Heap.lt_size (I.pin p hp).1
    have fresh : ∀ n, s.heap.objs.size ≤ n → H n = none ∧ n ≠ X.env.locals ∧ n ∉ X.fs := fun n hn => ⟨I.hok.fresh hn, Nat.ne_of_gt (Nat.lt_of_lt_of_le I.lt hn), I.nofs hn⟩
    have I1 : Inv X ((s.heap.objs.size + 3, seqObj "list" #[] 0) :: (s.heap.objs.size + 1, seqObj "list" #[] e1) :: pins) σ H { s with heap := ((h1.update (s.heap.objs.size + 1) (Obj.mapSeq fun _ => (#[] : Array Value))).push (seqObj "tuple" its.toArray 0)).push (seqObj "list" #[] 0) } := I0.pins_of fun p hp => by
      rcases List.mem_cons.mp hp with z | hp
      · rw [z]
        obtain ⟨f1, f2, f3⟩ := fresh (s.heap.objs.size + 3) (Nat.le_add_right _ _)
        exact ⟨hK, f1, f2, f3, fun v z => by cases z⟩
      · rcases List.mem_cons.mp hp with z | hp
        · rw [z]
          obtain ⟨f1, f2, f3⟩ := fresh (s.heap.objs.size + 1) (Nat.le_add_right _ _)
          exact ⟨hA, f1, f2, f3, fun v z => by cases z⟩
        · exact I0.pin p (List.mem_append_right _ hp)
    have ne31 : s.heap.objs.size + 3 ≠ s.heap.objs.size + 1 := by omega
    rw [sz3]
    refine keys_run (kS := s.heap.objs.size + 3) (a := s.heap.objs.size + 1) Fv hr hsp I1 rv hz hx (Nat.le_trans I.sz (Nat.le_add_right _ _)) (Nat.le_trans I.sz (Nat.le_add_right _ _)) ne31 (fun p hp => Nat.ne_of_lt (Nat.lt_of_lt_of_le (low p hp) (Nat.le_add_right _ _))) (fun p hp => Nat.ne_of_lt (Nat.lt_of_lt_of_le (low p hp) (Nat.le_add_right _ _))) fun ys H' s' sm hn so st J => ⟨_, rfl, ?_⟩
    exact wpAny_pure ⟨_, rfl, V.ref (s.heap.objs.size + 1), _, J, rfl, hq ys _ H' sm hn so st⟩
end
end LV
set_option Elab.async false
set_option linter.all false
set_option maxRecDepth 100000
set_option maxHeartbeats 4000000
/-! # max(xs, default=d) -/
namespace MD
open PySem PyProof.Rows
theorem args_maxD (a d : Value) : argsOk "max" ⟨[a], [(Str.ofString "default", d)]⟩ := by unfold argsOk; kernel_rfl
section
variable {prog : Program} {w : World} {A : Around} {R : Result → Shared → Prop} {I : Addr} {fp wr : List Addr} {n : Nat} {P : Nat → Value → Prop} {St : Nat → Heap → Prop} {d : Value}
theorem loopD (W : Walks prog w A.in1 I fp wr n P St) (bt : Nat → Nat → Bool) (hcmp : CmpOf prog w A.in1 .Gt P bt) (S : Addr) (hSf : S ∉ fp) :
    ∀ (k j : Nat) (s : Shared) (vb : Value) (c : Nat), n - (j + 1) = k → j + 1 ≤ n → St (j + 1) s.heap → P (argBest bt j) vb →
    s.heap.get? S = some { cls := .type "list", dict := none, data := .seq #[vb, vb] c, slots := #[] } →
    (∀ v h' tk, P (argBest bt (n - 1)) v → (∀ b o, b ∉ wr → b ≠ S → s.heap.get? b = some o → h'.get? b = some o) → R (.ok (.ret v)) { s with heap := h', toks := tk }) →
    codeAny (model prog w) A (.builtin "max.loop" ⟨[.ref I, .none, .ref S], [(Str.ofString "default", d)]⟩) R s := by
  have hSw : S ∉ wr := fun h => hSf (W.sub _ h)
  have hname : (toString "max" ++ toString ".loop" : String) = "max.loop" := by decide
  intro k
  induction k with
  | zero =>
    intro j s vb c hk hj hst hPb hS hR
    have hin : j + 1 = n := by omega
    refine codeAny_builtin F.entry_max_loop ?_
    rw [Around.under_plainId F.plain_max_loop _]
    show wpAny _ A.in1 (seqItems? (.ref S) >>= _) _ _ s
    refine wpAny_bind (wpAny_seqItems hS rfl ?_)
    show wpAny _ A.in1 (tryCatch (pyNext (.ref I)) _ >>= _) _ _ s
    refine wpAny_bind (wpAny_tryCatch (W.done s _ _ (hin ▸ hst) fun h' tk hk' => ?_))
    have hS' := hk' S _ hSw hS
    show wpAny _ A.in1 (updateSeq S (fun _ => #[]) >>= _) _ _ _
    refine wpAny_bind ?_
    refine wpAny_updateSeq hS' rfl (wpAny_bind (wpAny_letGo (wpAny_pure ?_)))
    refine hR vb _ tk (by rw [← hin]; exact hPb) fun b o hbw hbS e => (Heap.get?_update_other _ _ (Ne.symm hbS)).trans (hk' b o hbw e)
  | succ k ih =>
    intro j s vb c hk hj hst hPb hS hR
    have hlt : j + 1 < n := by omega
    refine codeAny_builtin F.entry_max_loop ?_
    rw [Around.under_plainId F.plain_max_loop _]
    show wpAny _ A.in1 (seqItems? (.ref S) >>= _) _ _ s
    refine wpAny_bind (wpAny_seqItems hS rfl ?_)
    show wpAny _ A.in1 (tryCatch (pyNext (.ref I)) _ >>= _) _ _ s
    refine wpAny_bind (wpAny_tryCatch (W.item (j + 1) s _ _ hlt hst fun v h' tk hP hst' hk' => ?_))
    have hS' := hk' S _ hSw hS
    show wpAny _ A.in1 (tryCatch (holding [v, v] (richCompare .Gt v vb >>= _)) _ >>= _) _ _ _
    refine wpAny_bind (wpAny_tryCatch (wpAny_holding (wpAny_bind (hcmp (j + 1) (argBest bt j) v vb _ _ _ hP hPb ?_))))
    refine wpAny_bind (wpAny_holding (wpAny_truthy_bool ?_))
    refine wpAny_bind (wpAny_letGo (wpAny_pure ?_))
    cases hb : bt (j + 1) (argBest bt j) with
    | true =>
      simp only [if_true]
      refine wpAny_bind ?_
      refine wpAny_updateSeq hS' rfl (wpAny_bind (wpAny_letGo ?_))
      rw [hname]
      refine wpAny_pure ⟨plainId_quiet F.plain_max_loop _, ih (j + 1) _ v _ (by omega) hlt (W.frame _ _ _ hst' fun b hbf o e => ?_) (by simp only [argBest, hb, if_true]; exact hP) (Heap.get?_update_self _ hS' rfl)
        fun v' h'' tk'' hP' hk'' => ?_⟩
      · exact (Heap.get?_update_other _ _ (fun h : S = b => hSf (by rw [h]; exact hbf))).trans e
      · exact hR v' h'' tk'' hP' fun b o hbw hbS e => hk'' b o hbw hbS ((Heap.get?_update_other _ _ (Ne.symm hbS)).trans (hk' b o hbw e))
    | false =>
      simp only [Bool.false_eq_true, if_false]
      refine wpAny_bind (wpAny_letGo ?_)
      rw [hname]
      refine wpAny_pure ⟨plainId_quiet F.plain_max_loop _, ih (j + 1) _ vb c (by omega) hlt hst' (by simp only [argBest, hb, Bool.false_eq_true, if_false]; exact hPb) hS' fun v' h'' tk'' hP' hk'' => ?_⟩
      exact hR v' h'' tk'' hP' fun b o hbw hbS e => hk'' b o hbw hbS (hk' b o hbw e)
theorem firstD (W : Walks prog w A.in1 I fp wr n P St) (bt : Nat → Nat → Bool) (hcmp : CmpOf prog w A.in1 .Gt P bt) (S : Addr) (hSf : S ∉ fp) {s : Shared} {c : Nat} (hst : St 0 s.heap)
    (hS : s.heap.get? S = some { cls := .type "list", dict := none, data := .seq #[] c, slots := #[] })
    (hR : ∀ v h' tk, (0 < n ∧ P (argBest bt (n - 1)) v ∨ n = 0 ∧ v = d) → (∀ b o, b ∉ wr → b ≠ S → s.heap.get? b = some o → h'.get? b = some o) → R (.ok (.ret v)) { s with heap := h', toks := tk }) :
    codeAny (model prog w) A (.builtin "max.loop" ⟨[.ref I, .none, .ref S], [(Str.ofString "default", d)]⟩) R s := by
  have hSw : S ∉ wr := fun h => hSf (W.sub _ h)
  have hname : (toString "max" ++ toString ".loop" : String) = "max.loop" := by decide
  refine codeAny_builtin F.entry_max_loop ?_
  rw [Around.under_plainId F.plain_max_loop _]
  show wpAny _ A.in1 (seqItems? (.ref S) >>= _) _ _ s
  refine wpAny_bind (wpAny_seqItems hS rfl ?_)
  show wpAny _ A.in1 (tryCatch (pyNext (.ref I)) _ >>= _) _ _ s
  rcases Nat.eq_zero_or_pos n with hn | hn
  · subst hn
    refine wpAny_bind (wpAny_tryCatch (W.done s _ _ hst fun h' tk hk' => ?_))
    show wpAny _ A.in1 (rule _ >>= _) _ _ _
    refine wpAny_bind (wpAny_rule (wpAny_pure ?_))
    exact hR d h' tk (.inr ⟨rfl, rfl⟩) fun b o hbw hbS e => hk' b o hbw e
  · refine wpAny_bind (wpAny_tryCatch (W.item 0 s _ _ hn hst fun v h' tk hP hst' hk' => ?_))
    have hS' := hk' S _ hSw hS
    show wpAny _ A.in1 (updateSeq S (fun _ => #[v, v]) >>= _) _ _ _
    refine wpAny_bind ?_
    refine wpAny_updateSeq hS' rfl ?_
    rw [hname]
    refine wpAny_pure ⟨plainId_quiet F.plain_max_loop _, loopD W bt hcmp S hSf _ 0 _ v _ rfl hn (W.frame _ _ _ hst' fun b hbf o e => ?_) hP (Heap.get?_update_self _ hS' rfl) fun v' h'' tk'' hP' hk'' => ?_⟩
    · exact (Heap.get?_update_other _ _ (fun h : S = b => hSf (by rw [h]; exact hbf))).trans e
    · exact hR v' h'' tk'' (.inl ⟨hn, hP'⟩) fun b o hbw hbS e => hk'' b o hbw hbS ((Heap.get?_update_other _ _ (Ne.symm hbS)).trans (hk' b o hbw e))
end
end MD
set_option Elab.async false
set_option linter.all false
set_option maxRecDepth 100000
set_option maxHeartbeats 4000000
/-! # max(xs, default=d): the rule -/
namespace MD
open PySem PySem.Spec PyProof.Rows L2
section
variable {prog : Program} {w : World} {A : Around} {E : Value → Shared → Prop} {s : Shared} {l : Addr} {its : List Value} {ns : List Int} {d : Value} {Q : Value → Shared → Prop}
theorem max_rawD (hh : A.handled = none) (hl : s.heap.IsList l its.toArray) (hi : IntsAre its ns)
    (h : ∀ h' tk v, (∀ b o, s.heap.get? b = some o → h'.get? b = some o) → (ns = [] ∧ v = d ∨ ∃ M t', v = Value.int M t' ∧ M ∈ ns ∧ ∀ a, a ∈ ns → a ≤ M) → Q v { s with heap := h', toks := tk }) :
    wpAny (model prog w) A (call (.builtin "max") [.ref l] [(Str.ofString "default", d)]) Q E s := by
  obtain ⟨xs, e⟩ := hi.allInts.items
  have hn : numsOf (intItems xs).toList = ns := by rw [← e]; exact hi.numsOf
  rw [nums_intItems] at hn
  subst hn
  rw [e] at hl
  have hname : (toString "max" ++ toString ".loop" : String) = "max.loop" := by decide
  refine kmk_tree PySem.F.kind_max PySem.F.plain_max PySem.F.entry_max (args_maxD _ _) ?_
  show wpAny _ A.in1 (Builtin.Builtins.bindParams "max" ["key", "default"] 0 ⟨[], [(Str.ofString "default", d)]⟩ >>= _) _ _ s
  refine wpAny_bind (wpAny_of_eq (show Builtin.Builtins.bindParams "max" ["key", "default"] 0 ⟨[], [(Str.ofString "default", d)]⟩ = pure [none, some d] from rfl) ?_)
  refine wpAny_bind (wpAny_pure ?_)
  refine wpAny_bind (iter_intList hl fun s₂ e2 st hfp hlI => ?_)
  refine wpAny_bind (wpAny_newList ?_ (Nat.zero_le _))
  have hSf : s₂.heap.objs.size ∉ [s.heap.objs.size, l] := fun hm => Nat.lt_irrefl _ (hfp _ hm)
  rw [hname]
  have W := Walks.list (prog := prog) (w := w) (A := A.in1) hh s.heap.objs.size l hlI (intItems xs)
  have hsz : (intItems xs).size = xs.size := by simp [intItems]
  refine wpAny_pure ⟨plainId_quiet PySem.F.plain_max_loop _, firstD W _ (CmpOf.ints_gt (numAt xs) (fun _ _ => intItems_at)) s₂.heap.objs.size hSf (W.frame 0 s₂.heap _ st fun b _ o e => Heap.get?_push_of_some _ e) (Heap.get?_push_size _ rfl) fun v h' tk hP hk => ?_⟩
  subst e2
  refine h h' tk v (fun b o q => ?_) ?_
  · have hb := Heap.lt_size q
    refine hk b o (fun hm => ?_) (fun z => ?_) (Heap.get?_push_of_some _ (Heap.get?_push_of_some _ q))
    · have z : b = s.heap.objs.size := by simpa using hm
      exact Nat.lt_irrefl _ (z ▸ hb)
    · have z2 : b = s.heap.objs.size + 1 := z.trans (Heap.size_push ..)
      rw [z2] at hb
      exact Nat.lt_irrefl _ (Nat.lt_of_succ_lt hb)
  · rcases hP with ⟨hn, hv⟩ | ⟨hn, hv⟩
    · refine .inr ?_
      rw [hsz] at hn hv
      obtain ⟨t, rfl⟩ := intItems_at hv
      obtain ⟨h1, h2⟩ := argBest_gt (numAt xs) (xs.size - 1)
      refine ⟨_, t, rfl, ?_, fun a ha => ?_⟩
      · rw [numAt_eq]; exact PySem.getD_mem (by rw [List.length_map, Array.length_toList]; omega)
      · obtain ⟨j, hj, rfl⟩ := mem_getD ha
        rw [List.length_map, Array.length_toList] at hj
        rw [← numAt_eq]; exact h2 j (by omega)
    · refine .inl ⟨?_, hv⟩
      rw [hsz] at hn
      have : xs.toList = [] := List.length_eq_zero_iff.mp (by rw [Array.length_toList]; exact hn)
      rw [this]
      rfl
end
/-- max(xs, default=d), xs a list of ints, d an int -/
def rMaxD (K : PySem.W.Frag) : List V → List V → Hp → VK → Prop := fun vs zs H Q => ∃ (a : Addr) (ns : List Int) (d : Int), vs = [V.ref a] ∧ zs = [V.int d] ∧ SqL K H a (ns.map V.int) ∧ ∀ m, (ns = [] ∧ m = d ∨ m ∈ ns ∧ ∀ y, y ∈ ns → y ≤ m) → Q (.int m) H
theorem cr_maxD {X : Cx} (hc : X.calm = true) : CallRK X (.builtin "max") [Str.ofString "default"] (rMaxD X.K) := by
  intro pins s σ H vs zs us ws Q I r rz h
  obtain ⟨a, ns, d, rfl, rfl, hs, q⟩ := h
  obtain ⟨its, rv, hl, _⟩ := I.list hs
  rw [Vals.ref1 r]
  obtain ⟨u2, rfl, t2, rfl⟩ := vals1 rz
  show wpAny _ _ (call (.builtin "max") [.ref a] [(Str.ofString "default", Value.int d t2)]) _ _ _
  refine max_rawD (I.ok.hd hc) hl.isList rv.ints fun h' tk v hk hv => ?_
  rcases hv with ⟨h1, h2⟩ | ⟨M, t', h1, h2, h3⟩
  · rw [h2]
    exact ⟨.int d, H, I.kept hk, ⟨_, rfl⟩, q d (.inl ⟨h1, rfl⟩)⟩
  · rw [h1]
    exact ⟨.int M, H, I.kept hk, ⟨_, rfl⟩, q M (.inr ⟨h2, h3⟩)⟩
end MD
set_option Elab.async false
set_option linter.all false
set_option maxRecDepth 100000
set_option maxHeartbeats 4000000
/-! # dict comprehensions, the keys tuples (printed by gen14.py) -/
namespace L2.DT2
open PySem PySem.Spec PyProof.Rows L2
theorem d_dictSetT {X : Cx} {A : Around} {pins : List (Addr × Obj)} {σ : St} {H : Hp} {s : Shared} {E : Value → Shared → Prop} {D b : Addr} {kvs : List (List Key × V)} {k : List Key} {v : V} {u r : Value} {Q : Unit → Shared → Prop} (hu : (tupleKind (mixKind X.prog X.w)).room A) (I : Inv X pins σ H s) (hD : H D = some (.dT kvs)) (eb : H b = some (.tup (k.map kV)))
    (hz : kvs.length < sizeLine) (ry : RelV (.ref b) u) (rv : RelV v r) (h : ∀ s', Inv X pins σ (upd H D (.dT (putK kvs k v))) s' → Q () s') : wpAny (model X.prog X.w) A (dictSet D u r) Q E s := by
  cases (show u = Value.ref b from ry)
  obtain ⟨z, hd, xs, rel, dd⟩ := dt_of I.hok hD
  have hzx : xs.length ≤ sizeLine := by rw [← Paired.length rel]; exact z
  have hl : (putK kvs k v).length ≤ sizeLine := by have := length_putK kvs k v; omega
  refine wpAny_dictSet_heap (hsz := hzx) hu (key_of I.hok eb) dd fun h' dd' hs => h _ ?_
  obtain ⟨q, es, ep, hq, h2, h3, h4, _, h5⟩ := dd'
  refine d_write I (by rw [hD]; exact True.intro) hs ⟨q, hq⟩ ⟨hl, hd, _, (rel.put k eb rv).keeps fun c ys ec => ?_, q, es, ep, hq, h2, h3, h4, h5⟩
  rw [upd_ne (ne_of ec hD (fun z => nomatch z))]
  exact ec
section
variable {X : Cx}
def tDcT (wi : TI) (g : TG) (tt : TT) (tk tv : TE) (vs : List Nat) : TE := fun σ H Q => wi σ H fun J H1 => ∀ D, H1 D = none → ∃ W : Nat → Nat → Hp → Prop, (∃ m, W 0 m (upd H1 D (.dT []))) ∧ ∀ i m H, W i m H →
  (J.stop i H ∧ Q (.ref D) H) ∨ (J.go i H ∧ ∃ Nx : Hp → Prop, (∀ H', Nx H' → ∃ m', m' < m ∧ W (i + 1) m' H') ∧ ∀ x H', J.yld i H x H' → g x (wipe σ vs) H' fun σ2 H2 => wipe σ2 vs = wipe σ vs ∧ tt σ2 H2 fun b H3 =>
    if b = true then tk σ2 H3 fun y H4 => tv σ2 H4 fun z H5 => ∃ kvs k b, y = .ref b ∧ H5 b = some (.tup (k.map kV)) ∧ H5 D = some (.dT kvs) ∧ kvs.length < sizeLine ∧ Nx (upd H5 D (.dT (putK kvs k z))) else Nx H3)
theorem dcT_core {pins : List (Addr × Obj)} {s : Shared} {σ : St} {H : Hp} {Q : VK} {kx vx tg iter : Expr} {ifs : List Expr} {scope : Scope} {own : List (Str × Nat)} {pos pos' : Pos} {wi : TI} {g : TG} {tt : TT} {tk tv : TE} {use : Option (Value → Sem Unit)} {Qf : Value → Shared → Prop}
    (hu : X.A.units + 2 < cLine) (hc : X.calm = true) (hN : X.N.Nodup) (I : Inv X pins σ H s) (hi : PI X tg iter wi) (ok : BlkOk X.N X.env.scope scope own)
    (hg : ∀ (s : Shared) (H : Hp) (C : Addr) (cl : List (Str × Addr)) (fp : List Addr), PG (X.blk s H scope (compEnvC scope cl C X.env) fp) tg g) (ht : ∀ (s : Shared) (H : Hp) (C : Addr) (cl : List (Str × Addr)) (fp : List Addr), PTs (X.blk s H scope (compEnvC scope cl C X.env) fp) ifs tt)
    (hk : ∀ (s : Shared) (H : Hp) (C : Addr) (cl : List (Str × Addr)) (fp : List Addr), PE (X.blk s H scope (compEnvC scope cl C X.env) fp) kx tk)
    (he : ∀ (s : Shared) (H : Hp) (C : Addr) (cl : List (Str × Addr)) (fp : List Addr), PE (X.blk s H scope (compEnvC scope cl C X.env) fp) vx tv) (hs : ∀ x, foldedSetIterable iter X.env x = pure x)
    (h : tDcT wi g tt tk tv (own.map (·.2)) σ H Q)
    (hRR : ∀ D C s' m H', Inv X pins σ H' s' → Q (.ref D) H' → s'.heap.Ns C m → FpOk X pins H' C → compPost (model X.prog X.w) X.A X.xe use Qf (.ref D) C (.ok .next) s') :
    wpAny (model X.prog X.w) X.A (comprehension (.DictComp kx vx [⟨tg, iter, ifs, 0⟩] scope pos) scope X.env pos' newDict false (eval iter X.env) use) Qf X.xe s := by
  have hfree : ∀ y ∈ scope.names, y.2 = .free → ∃ c, X.env.cells.lookup y.1 = some c := fun y hy e => by
    rcases ok.free y hy e with k | k
    · exact I.ok.has _ (.inl k)
    · exact I.ok.has _ (.inr k)
  refine wpAny_comprehension_free (use := use) rfl hs (closure_ok hfree) ok.kind (fun y hy e => by rw [ok.uniq y hy, e])
    (thn (hi.run pins s σ H _ I h) fun xv s1 hx => thn hx fun itv s2 h2 => ?_)
  obtain ⟨it, fp, tn, J, H2, e, I2, T, st2, f2, q⟩ := h2
  subst e
  refine wpAny_newObj_type (newEnv_comp ?_)
  generalize hD : s2.heap.objs.size = D
  have hDn : H2 D = none := I2.hok.fresh (Nat.le_of_eq hD)
  obtain ⟨W, ⟨m0, w0⟩, turn⟩ := q D hDn
  -- the new list
  generalize hs3 : ({ s2 with heap := s2.heap.push { cls := .type "dict", data := .dict #[] } } : Shared) = s3
  have I3 : Inv X pins σ (upd H2 D (.dT [])) s3 := by
    rw [← hs3]
    refine I2.laid (t' := s2.toks) (fun b o e => Heap.get?_push_of_some _ e) (Nat.le_of_eq hD) ?_
    rw [← hD]
    exact dt_empty s2.heap I2.big
  have h3 : s3.heap = s2.heap.push { cls := .type "dict", data := .dict #[] } := by rw [← hs3]
  have sz : ∀ b ∈ fp, b < s2.heap.objs.size := fun b hb => by
    obtain ⟨o, e, _⟩ := T.obj _ _ st2 b hb
    exact Heap.lt_size e
  have f3 : ∀ b ∈ fp, FpOk X pins (upd H2 D (.dT [])) b ∧ b < s3.heap.objs.size := fun b hb => by
    have hlt := sz b hb
    refine ⟨⟨?_, (f2 b hb).2⟩, by rw [h3, Heap.size_push]; exact Nat.lt_succ_of_lt hlt⟩
    rw [upd_ne (by rw [← hD]; exact Nat.ne_of_lt hlt)]
    exact (f2 b hb).1
  have st3 : tn 0 s3.heap := T.keep _ _ _ st2 fun b _ o e => by rw [h3]; exact Heap.get?_push_of_some _ e
  have I4 := block_start I3 ok hN f3
  have pg := hg s3 (upd H2 D (.dT [])) s3.heap.objs.size (cellsFrom (s3.heap.objs.size + 1) scope.names (cloFrom X.env.cells scope.names [])) fp
  have pt := ht s3 (upd H2 D (.dT [])) s3.heap.objs.size (cellsFrom (s3.heap.objs.size + 1) scope.names (cloFrom X.env.cells scope.names [])) fp
  have pk := hk s3 (upd H2 D (.dT [])) s3.heap.objs.size (cellsFrom (s3.heap.objs.size + 1) scope.names (cloFrom X.env.cells scope.names [])) fp
  have pe := he s3 (upd H2 D (.dT [])) s3.heap.objs.size (cellsFrom (s3.heap.objs.size + 1) scope.names (cloFrom X.env.cells scope.names [])) fp
  show codeAny _ _ (.compStart (.DictComp kx vx [⟨tg, iter, ifs, 0⟩] scope pos) 0 (.ref it) (.ref D) (compEnvC scope (cellsFrom (s3.heap.objs.size + 1) scope.names (cloFrom X.env.cells scope.names [])) s3.heap.objs.size X.env)) (compPost (model X.prog X.w) X.A X.xe use Qf (.ref D) s3.heap.objs.size) { s3 with heap := pushCells (s3.heap.push { cls := .type "dict", data := .dict #[] }) scope.names }
  have nfp : ∀ b ∈ fp, (upd H2 D (.dT [])) b = none := fun b hb => (f3 b hb).1.1
  generalize hce : compEnvC scope (cellsFrom (s3.heap.objs.size + 1) scope.names (cloFrom X.env.cells scope.names [])) s3.heap.objs.size X.env = ce at I4 pg pt pk pe ⊢
  have cL : ce.locals = s3.heap.objs.size := by subst hce; rfl
  generalize hH3 : upd H2 D (.dT []) = H3 at I3 I4 pg pt pk pe w0 nfp f3
  generalize hs4 : ({ s3 with heap := pushCells (s3.heap.push { cls := .type "dict", data := .dict #[] }) scope.names } : Shared) = s4 at I4 ⊢
  have st4 : tn 0 s4.heap := T.keep _ _ _ st3 fun b _ o e => by rw [← hs4]; exact pushCells_keeps _ _ _ _ (Heap.get?_push_of_some _ e)
  have stat : ∀ {σ' : St} {H' : Hp} {s' : Shared}, Inv (X.blk s3 H3 scope ce fp) [] σ' H' s' → (∀ b ∈ fp, H' b = none) → ∀ b ∈ fp, FpOk (X.blk s3 H3 scope ce fp) [] H' b := fun {σ' H' s'} I' hn b hb =>
    ⟨hn b hb, (I'.ok.exf b hb).1, I'.ok.exfs b hb, .inl hb, fun x c e => (I'.ok.exf b hb).2 x c e, fun p hp => absurd (show p ∈ ([] : List (Addr × Obj)) ++ [] from hp) (by simp)⟩
  have loop : codeAny (model X.prog X.w) X.A (.compLoop (.DictComp kx vx [⟨tg, iter, ifs, 0⟩] scope pos) 0 (.ref it) (.ref D) ce) (compPost (model X.prog X.w) X.A X.xe use Qf (.ref D) s3.heap.objs.size) s4 := by
    refine compLoop_anyD (fun n s' => ∃ i H', Inv (X.blk s3 H3 scope ce fp) [] (wipe σ (own.map (·.2))) H' s' ∧ tn i s'.heap ∧ (∀ b ∈ fp, H' b = none) ∧ W i n H') ?_ m0 ⟨0, H3, I4, st4, nfp, w0⟩
    rintro n s5 ⟨i, H5, I5, st5, n5, w5⟩
    rcases turn i n H5 w5 with ⟨stop, qq⟩ | ⟨go, Nx, hNx, step⟩
    · have td := T.done (X.blk s3 H3 scope ce fp) rfl rfl rfl hc i [] s5 _ H5 (fun _ _ => False) I5 (stat I5 n5) st5 stop
      refine thnF td fun r s6 ⟨hr, I6⟩ => ?_
      subst hr
      -- back in the def's context
      have I7 : Inv X pins σ H5 s6 := I3.call' (ch := fp) I6.os I6.base I6.hok I6.bare fun b hb => ⟨(f3 b hb).1.2.2.2.1, (f3 b hb).1.2.1, (f3 b hb).1.2.2.2.2.1, (f3 b hb).1.2.2.2.2.2⟩
      have nC : H5 s3.heap.objs.size = none := by
        have z : H5 ce.locals = none := I6.free
        rw [cL] at z
        exact z
      obtain ⟨m, hn, _⟩ := I6.loc
      have hn : s6.heap.Ns ce.locals m := hn
      rw [cL] at hn
      exact hRR D s3.heap.objs.size s6 m H5 I7 qq hn (I3.fpOk (Nat.le_refl _) nC)
    · have ti := T.item (X.blk s3 H3 scope ce fp) rfl rfl rfl hc i [] s5 _ H5 (fun _ _ => False) I5 (stat I5 n5) st5 go
      refine thnF ti fun r s6 ⟨u, hr, h6⟩ => ?_
      subst hr
      refine thnF h6 fun _ s7 ⟨x, H7, I7, r7, y7, st7, n7⟩ => ?_
      have I7' := I7.pinned (stat I7 n7) (T.obj _ _ st7)
      refine thnF (pg.run _ s7 _ H7 x u _ I7' r7 (step x H7 y7)) fun _ s8 ⟨σ8, H8, I8, hw8, q8⟩ => ?_
      refine thnF (pt.run _ s8 σ8 H8 _ I8 q8) fun b s9 ⟨H9, I9, q9⟩ => ?_
      -- the turn's end
      have fin : ∀ {s' : Shared} {H' : Hp}, Inv (X.blk s3 H3 scope ce fp) ([] ++ pinsAt fp s7.heap) σ8 H' s' → Nx H' → ∃ m, m < n ∧ ∃ i H', Inv (X.blk s3 H3 scope ce fp) [] (wipe σ (own.map (·.2))) H' s' ∧ tn i s'.heap ∧ (∀ b ∈ fp, H' b = none) ∧ W i m H' := fun {s' H'} I' nx => by
        obtain ⟨m', hm, w'⟩ := hNx H' nx
        have pin' : ∀ b ∈ fp, ∀ o, s7.heap.get? b = some o → s'.heap.get? b = some o ∧ H' b = none := fun b hb o e =>
          let z := I'.pin (b, o) (List.mem_append_right _ (List.mem_append_right _ (mem_pinsAt hb e)))
          ⟨z.1, z.2.1⟩
        have hl : (wipe σ (own.map (·.2))).length = σ8.length := by rw [← hw8, wipe_length]
        refine ⟨m', hm, i + 1, H', (I'.unpinned (pins := [])).weak hl (fun j v e => ?_), T.keep _ _ _ st7 fun b hb o e => (pin' b hb o e).1, fun b hb => ?_, w'⟩
        · rw [← hw8] at e
          exact (wipe_some e).1
        · obtain ⟨o, e, _⟩ := T.obj _ _ st7 b hb
          exact (pin' b hb o e).2
      cases b with
      | false =>
        simp only [Bool.false_eq_true, if_false] at q9 ⊢
        exact fin I9 q9
      | true =>
        simp only [if_true] at q9 ⊢
        refine thnF (pk.run _ s9 σ8 H9 _ I9 q9) fun z s10 ⟨yk, H10, I10, r10, q10⟩ => ?_
        refine thnF (pe.run _ s10 σ8 H10 _ I10 q10) fun z2 s11 ⟨yv, H11, I11, r11, kvs, k, b, ek, eb, hD11, hz11, nx⟩ => ?_
        subst ek
        exact d_dictSetT (X := X.blk s3 H3 scope ce fp) (show X.A.units < cLine from by omega) I11 hD11 eb hz11 r10 r11 fun s12 I12 => fin I12 nx
  exact codeAny_compStart_dict loop (T.self X.A 0 _ _ _ st4 loop)
/-- as a value -/
theorem pe_dcT {kx vx tg iter : Expr} {ifs : List Expr} {scope : Scope} {own : List (Str × Nat)} {pos : Pos} {wi : TI} {g : TG} {tt : TT} {tk tv : TE} (hu : X.A.units + 2 < cLine) (hc : X.calm = true) (hN : X.N.Nodup) (hi : PI X tg iter wi) (ok : BlkOk X.N X.env.scope scope own)
    (hg : ∀ (s : Shared) (H : Hp) (C : Addr) (cl : List (Str × Addr)) (fp : List Addr), PG (X.blk s H scope (compEnvC scope cl C X.env) fp) tg g) (ht : ∀ (s : Shared) (H : Hp) (C : Addr) (cl : List (Str × Addr)) (fp : List Addr), PTs (X.blk s H scope (compEnvC scope cl C X.env) fp) ifs tt)
    (hk : ∀ (s : Shared) (H : Hp) (C : Addr) (cl : List (Str × Addr)) (fp : List Addr), PE (X.blk s H scope (compEnvC scope cl C X.env) fp) kx tk)
    (he : ∀ (s : Shared) (H : Hp) (C : Addr) (cl : List (Str × Addr)) (fp : List Addr), PE (X.blk s H scope (compEnvC scope cl C X.env) fp) vx tv) (hs : ∀ x, foldedSetIterable iter X.env x = pure x := by intro _; rfl) :
    PE X (.DictComp kx vx [⟨tg, iter, ifs, 0⟩] scope pos) (tDcT wi g tt tk tv (own.map (·.2))) := by
  refine ⟨fun pins s σ H Q I h => ?_⟩
  rw [arm_eval_DictComp]
  refine dcT_core hu hc hN I hi ok hg ht hk he hs h fun D C s' m H' I' q hn f => ⟨m, hn, fun h'' sb => ?_⟩
  obtain ⟨f0, f1, f2, f3, f4, f5⟩ := f
  exact ⟨.ref D, H', I'.turned (t' := s'.toks) (fun b o hb e => (sb.2 b hb).trans e) f0 f1 f3 f4 f5, rfl, q⟩
end
end L2.DT2
set_option Elab.async false
set_option linter.all false
set_option maxRecDepth 100000
set_option maxHeartbeats 4000000
/-! # dict(d), the keys tuples whose hashes are apart -/
namespace L2.DT2
open PySem PySem.Spec PyProof.Rows L2
section
variable {X : Cx}
abbrev hashT (P : Program) (w : World) (k : List Key) := (tupleKind (mixKind P w)).hash k
theorem kt_hash {P : Program} {w : World} {H : Hp} : ∀ {kvs : List (List Key × V)} {xs : List (List Key × Addr × Value)}, KT H kvs xs → xs.map (fun x => hashT P w x.1) = kvs.map (fun x => hashT P w x.1)
  | _, _, .nil => rfl
  | _, _, .cons r t => by
    rw [List.map_cons, List.map_cons, kt_hash t, r.1]
def rDictT (X : Cx) : List V → Hp → VK → Prop := fun vs H Q => ∃ (a : Addr) (kvs : List (List Key × V)), vs = [.ref a] ∧ H a = some (.dT kvs) ∧ (kvs.map fun x => hashT X.prog X.w x.1).Nodup ∧ ∀ p, H p = none → Q (.ref p) (upd H p (.dT kvs))
theorem call_dictT (hu : X.A.units + 2 < cLine) : CallR X (.type "dict") (rDictT X) := by
  intro pins s σ H vs us Q I r h
  obtain ⟨a, kvs, rfl, ha, hap, q⟩ := h
  rw [Vals.ref1 r]
  have I0 : Inv X pins σ H { s with heap := s.heap.push { cls := .type "dict", data := .dict #[] } } := I.kept (t' := s.toks) fun b o e => Heap.get?_push_of_some _ e
  obtain ⟨z, hd, xs, rel, dd⟩ := dt_of I0.hok ha
  have hlt : a < s.heap.objs.size := I.hok.lt ha
  have hzx : xs.length ≤ sizeLine := by rw [← Paired.length rel]; exact z
  have hn : H s.heap.objs.size = none := I.hok.fresh (Nat.le_refl _)
  refine callType_codes (Q₁ := fun obj s₁ => obj = .ref s.heap.objs.size ∧ s₁ = { s with heap := s.heap.push { cls := .type "dict", data := .dict #[] } }) PySem.F.kt_called_dict (PySem.F.kt_typeCall_dict_1 _) PySem.F.entry_dict_init (kt_code_dict_new _ ⟨rfl, rfl⟩) ?_
  rintro obj s₁ ⟨rfl, rfl⟩
  have hnew : (s.heap.push { cls := .type "dict", data := .dict #[] }).DictOfH (tupleKind (mixKind X.prog X.w)) s.heap.objs.size [] := Heap.DictOfH.new s.heap
  have k0 : ∀ b o, s.heap.get? b = some o → (s.heap.push { cls := .type "dict", data := .dict #[] }).get? b = some o := fun b o e => Heap.get?_push_of_some _ e
  refine ⟨hnew.typeIs, PySem.F.args_dict_init_2 _ _, ?_⟩
  unfold Builtin.«dict.__init__»
  refine wpAny_bind ?_
  unfold Builtin.Dict.selfAndRest
  refine wpAny_bind (wpAny_notOrdered_dict hnew.typeIs ?_)
  show wpAny _ _ (pure (s.heap.objs.size, [Value.ref a])) _ _ _
  refine wpAny_pure ?_
  show wpAny _ _ (Builtin.Dict.updateFrom "dict.__init__" s.heap.objs.size (.ref a) [] .none) _ _ _
  have ty : ∀ x ∈ xs, ({ s with heap := s.heap.push { cls := .type "dict", data := .dict #[] } } : Shared).TypeIs (.ref x.2.1) "tuple" := fun x hx => by
    obtain ⟨i, hi⟩ := List.mem_iff_getElem?.mp hx
    obtain ⟨y, _, r1, r2, _⟩ := DX.pget rel hi
    obtain ⟨_, _, _, o, ho, hc, _⟩ := I0.hok _ _ r2
    exact ⟨o, ho, hc⟩
  have hx : ((xs.map fun x => (tupleKind (mixKind X.prog X.w)).hash x.1)).Nodup := by
    have e := kt_hash (P := X.prog) (w := X.w) rel
    rw [e]
    exact hap
  refine updateFrom_dictH (R := wants (fun r s₂ => r = .none ∧ EP X pins σ Q (.ref s.heap.objs.size) s₂) X.xe) .none (show X.A.in1.in1.units < cLine from by show X.A.units + 1 + 1 < cLine; omega) (Nat.ne_of_gt hlt) hd hnew dd (.inr ⟨ty, hx⟩) (by rw [List.length_nil, Nat.zero_add]; exact hzx) fun h' hd' ho' hs => ⟨rfl, ?_⟩
  rw [storedAllH_nil_of_nodup xs dd.nodup] at hd'
  obtain ⟨o, es, ep, h1, h2, h3, h4, _, h5⟩ := hd'
  have kk : ∀ b u, s.heap.get? b = some u → h'.get? b = some u := fun b u e => (hs.2 b (Nat.ne_of_lt (Heap.lt_size e))).trans (k0 b u e)
  have hm : (s.heap.objs.size == sysModules) = false := beq_eq_false_iff_ne.mpr (Nat.ne_of_gt I.big)
  refine ⟨.ref s.heap.objs.size, upd H s.heap.objs.size (.dT kvs), I.laid (t' := s.toks) kk (Nat.le_refl _) (show ObjOk X.prog X.w _ _ _ (.dT kvs) from ⟨z, hm, xs, KT.keeps rel fun c ys ec => ?_, o, es, ep, h1, h2, h3, h4, h5⟩), rfl, q _ hn⟩
  rw [upd_ne (ne_of_none ec hn)]
  exact ec
end
end L2.DT2
set_option Elab.async false
set_option linter.all false
set_option maxRecDepth 100000
set_option maxHeartbeats 4000000
/-! # dicts with tuple keys: setdefault, sorted -/
namespace L2.DT2
open PySem PySem.Spec PyProof.Rows L2
section
variable {X : Cx} {pins : List (Addr × Obj)} {σ : L2.St} {H : Hp} {s : Shared} {a b : Addr} {r : Value} {d : V} {k : List Key} {A : Around} {E : Value → Shared → Prop}
theorem d_setdT {kvs : List (List Key × V)} {Q : Value → Shared → Prop} (hu : A.units + 1 < cLine) (I : Inv X pins σ H s) (e : H a = some (.dT kvs)) (eb : H b = some (.tup (k.map kV))) (rd : RelV d r) (hl : kvs.length < sizeLine)
    (h1 : ∀ v, valV kvs k = some v → ∀ (w' : Value) (s' : Shared), Inv X pins σ H s' → RelV v w' → Q w' s') (h2 : valV kvs k = none → ∀ (w' : Value) (s' : Shared), Inv X pins σ (upd H a (.dT (putK kvs k d))) s' → RelV d w' → Q w' s') :
    wpAny (model X.prog X.w) A (call (.builtin "dict.setdefault") [.ref a, .ref b, r]) Q E s := by
  obtain ⟨z, hd, xs, rel, dd⟩ := dt_of I.hok e
  have hz : xs.length ≤ sizeLine := by rw [← Paired.length rel]; exact z
  have hl2 : (putK kvs k d).length ≤ sizeLine := by have := length_putK kvs k d; omega
  refine call_setdefault_heap (hsz := hz) (knd := tupleKind (mixKind X.prog X.w)) (tupleKind_room_in1 hu) (key_of I.hok eb) hd dd (fun p hp => ?_) fun hn h' dd' hs => ?_
  · have q := rel.val k
    rw [hp] at q
    cases q0 : valV kvs k with
    | none =>
      rw [q0] at q
      exact (show False from q).elim
    | some v0 =>
      rw [q0] at q
      exact h1 v0 q0 _ _ (I.tok _) q
  · have q := rel.val k
    rw [hn] at q
    cases q0 : valV kvs k with
    | some v0 =>
      rw [q0] at q
      exact (show False from q).elim
    | none =>
      obtain ⟨o, es, ep, hq, h2', h3, h4, _, h5⟩ := dd'
      refine h2 q0 _ _ (d_write (t' := _) I (by rw [e]; exact True.intro) hs ⟨o, hq⟩ ⟨hl2, hd, _, (rel.put k eb rd).keeps (fun c ys ec => ?_), o, es, ep, hq, h2', h3, h4, h5⟩) rd
      rw [upd_ne (ne_of ec e (fun z => nomatch z))]
      exact ec
/-- d.setdefault(t, z), t a tuple -/
def tDSetdT (td ty tx : TE) : TE := fun σ H Q => td σ H fun x H1 => ∃ a, x = .ref a ∧ IsD H1 a ∧ ty σ H1 fun y H2 => tx σ H2 fun z H3 => ∃ (kvs : List (List Key × V)) (k : List Key) (b : Addr), H3 a = some (.dT kvs) ∧ y = .ref b ∧ H3 b = some (.tup (k.map kV)) ∧ kvs.length < sizeLine ∧
  (∀ v, valV kvs k = some v → Q v H3) ∧ (valV kvs k = none → Q z (upd H3 a (.dT (putK kvs k z))))
end
section
variable {X : Cx} {o e f : Expr} {td ty tx : TE} {apos cpos : Pos}
theorem pe_dsetdT (hu : X.A.units + 1 < cLine) (ho : PE X o td) (he : PE X e ty) (hf : PE X f tx) (m : M2 X o "setdefault" apos e f cpos) : PE X (.Call (.Attribute o "setdefault" apos) [e, f] [] cpos) (tDSetdT td ty tx) := by
  refine ⟨fun pins s σ H Q I h => ?_⟩
  refine wpAny_Call_method m.base m.few m.line PySem.F.plainAttrs_dict PySem.F.slot_dict_setdefault PySem.F.type_dict_setdefault (thn (ho.run pins s σ H _ I h) fun u s1 ⟨x, H1, I1, rx, a, ex, d, q1⟩ => ?_)
  subst ex
  obtain rfl : u = Value.ref a := rx
  obtain ⟨t1, t2, _⟩ := isD_at I1 d
  refine ⟨t1, t2, ?_⟩
  rw [m.trees]
  refine Calls.callWith_builtin rfl (Calls.evalArgs_plain (Calls.spliced_cons (thn (he.run pins s1 σ H1 _ I1 q1) fun iv s2 ⟨y, H2, I2, ry, q2⟩ =>
    Calls.spliced_cons (thn (hf.run pins s2 σ H2 _ I2 q2) fun fv s3 ⟨z, H3, I3, rz, kvs, k, b, ea, ey, eb, hl, q3, q4⟩ => Calls.spliced_nil ?_))))
  subst ey
  obtain rfl : iv = Value.ref b := ry
  exact d_setdT hu I3 ea eb rz hl (fun v hv w' s4 I4 rw' => ⟨v, _, I4, rw', q3 v hv⟩) fun hn w' s4 I4 rw' => ⟨z, _, I4, rw', q4 hn⟩
end
/-! ### sorted(d), keys pairs of ints -/
open Srt SrtO in
def rSortedDT : List V → Hp → VK → Prop := fun vs H Q => ∃ (a : Addr) (kvs : List (List Key × V)) (cs : List (Int × Int)), vs = [.ref a] ∧ H a = some (.dT kvs) ∧ kvs.map (·.1) = cs.map (fun c => [Sum.inl c.1, Sum.inl c.2]) ∧
  ∀ (zs : List (Int × Int)) (bs : List Addr) (p : Addr), zs.Perm cs → zs.Pairwise (fun x y => lexB y x = false) → Paired (fun z b => H b = some (.tup [.int z.1, .int z.2])) zs bs → H p = none → Q (.ref p) (upd H p (.lst (bs.map V.ref)))
section
open Srt SrtO
variable {X : Cx}
/-- what stands at a tracked pair -/
def kOf (H : Hp) : Value → Int × Int
  | .ref t => match H t with
    | some (.tup [.int i, .int j]) => (i, j)
    | _ => (0, 0)
  | _ => (0, 0)
theorem kOf_at {H : Hp} {t : Addr} {z : Int × Int} (h : H t = some (.tup [.int z.1, .int z.2])) : kOf H (.ref t) = z := by
  show (match H t with
    | some (.tup [.int i, .int j]) => (i, j)
    | _ => (0, 0)) = z
  rw [h]
theorem cr_sortedDT (hcalm : X.calm = true) : CallR X (.builtin "sorted") rSortedDT := by
  intro pins s σ H xs us Q I r q
  obtain ⟨a, kvs, cs, ex, hd, hks, q⟩ := q
  subst ex
  obtain ⟨u, eu, rx⟩ := vals1 r
  subst eu
  cases rx
  obtain ⟨z, hs, ks, pr, o, es, ep, ho, hx, hdt, he, hnn⟩ := (show ObjOk X.prog X.w H s.heap a (.dT kvs) from I.hok a _ hd)
  have l1 : es.size = ks.length := size_of_entries he
  have l2 : kvs.length = ks.length := Paired.length pr
  have lc : kvs.length = cs.length := by
    have e := congrArg List.length hks
    rw [List.length_map, List.length_map] at e
    exact e
  refine Calls.call_function_entry PyProof.Rows.kind_sorted PyProof.Rows.plain_sorted PyProof.Rows.entry_sorted (PyProof.Rows.args_sorted1 _) ?_
  unfold Builtin.«sorted»
  refine wpAny_bind (m := checkCount "sorted" 1 1 _) (wpAny_pure ?_)
  refine wpAny_bind (PySem.W.kdu_collect (A := X.A.in1) (kdl_raw hs hx hdt) (I.ok.hd hcalm) ho (by omega) fun h' tk acc' kp it => ?_)
  have ea : acc'.toList = ks.map fun x => Value.ref x.2.1 := by
    have hl : acc'.toList.length = ks.length := by rw [Array.length_toList, it.1]; exact l1
    apply List.ext_getElem?
    intro j
    rw [List.getElem?_map]
    cases hj : acc'.toList[j]? with
    | none =>
      have h1 := List.getElem?_eq_none_iff.mp hj
      rw [List.getElem?_eq_none (by omega)]
      all_goals rfl
    | some v =>
      obtain ⟨en, hen, hv⟩ := it.2 j v (by rw [← Array.getElem?_toList]; exact hj)
      have qe := entry_at he j
      rw [hen] at qe
      cases hb : ks[j]? with
      | none =>
        rw [hb] at qe
        exact nomatch (show some en = none from qe)
      | some b =>
        rw [hb] at qe
        have e2 : en = entryOfKey (tupleKind (mixKind X.prog X.w)) b := Option.some.inj qe
        rw [hv, e2]
        all_goals rfl
  have hat : ∀ (j : Nat) (x : List Key × Addr × Value), ks[j]? = some x → ∃ c, cs[j]? = some c ∧ H x.2.1 = some (.tup [.int c.1, .int c.2]) := fun j x hj => by
    obtain ⟨y, hy, r1, r2, r3⟩ := L2.DX.pget pr hj
    have e3 : (kvs.map (·.1))[j]? = some y.1 := by rw [List.getElem?_map, hy]; rfl
    rw [hks, List.getElem?_map] at e3
    cases ec : cs[j]? with
    | none => rw [ec] at e3; cases e3
    | some c =>
      rw [ec] at e3
      have e4 : [Sum.inl c.1, Sum.inl c.2] = y.1 := Option.some.inj e3
      rw [← e4] at r2
      exact ⟨c, rfl, r2⟩
  have I1 : Inv X pins σ H { s with heap := h', toks := tk } := I.kept kp
  have hza : acc'.toList.length ≤ sizeLine := by rw [ea, List.length_map]; omega
  have hpr : ∀ v ∈ acc'.toList, ∃ t z, v = Value.ref t ∧ H t = some (.tup [.int z.1, .int z.2]) ∧ z ∈ cs := fun v hv => by
    rw [ea] at hv
    obtain ⟨x, hx, rfl⟩ := List.mem_map.mp hv
    obtain ⟨j, hj⟩ := List.mem_iff_getElem?.mp hx
    obtain ⟨c, h1, h2⟩ := hat j x hj
    exact ⟨_, c, rfl, h2, List.mem_of_getElem? h1⟩
  refine wpAny_bind (wpAny_newList ?_ hza)
  have hoL : (h'.push (seqObj "list" acc'.toList.toArray 0)).get? h'.objs.size = some (seqObj "list" acc'.toList.toArray 0) := Heap.get?_push_size _ rfl
  show wpAny _ _ _ _ _ { s with heap := h'.push (seqObj "list" acc'.toList.toArray 0), toks := tk }
  refine wpAny_bind (wpAny_holding (wpAny_call_entry PyProof.Rows.slot_list_sort ⟨_, hoL, rfl⟩ PyProof.Rows.entry_list_sort
    (list_sort_ord (s := { s with heap := h'.push (seqObj "list" acc'.toList.toArray 0), toks := tk }) (swo_lex (kOf H)) hoL hza (fun h2 => pairs_sortableO (s := { s with heap := h'.push (seqObj "list" acc'.toList.toArray 0), toks := tk }) (by omega) (fun v hv => ?_) fun o e => ?_) fun out hs hb => ⟨_, rfl, ?_⟩) (PyProof.Rows.args_list_sort _)))
  · obtain ⟨t, z, rfl, ht, _⟩ := hpr v hv
    rw [kOf_at ht]
    obtain ⟨_, its, r, o, ho, hc, n, hd⟩ := I1.hok t _ ht
    cases r with
    | cons r1 r' =>
      cases r' with
      | cons r2 r'' =>
        cases r''
        obtain ⟨t1, rfl⟩ := r1
        obtain ⟨t2, rfl⟩ := r2
        exact ⟨t, o, t1, t2, n, rfl, Heap.get?_push_of_some _ ho, hc, hd⟩
  · have e' : some o = some (seqObj "list" acc'.toList.toArray 0) := e.symm.trans hoL
    cases e'
    intro c
    exact absurd (Value.type.inj c) (by decide)
  · obtain ⟨e', he'⟩ := PyProof.Rows.sortedHeap_at (vs := acc'.toList) (out := out.toArray) hoL
    have ho3 : ∀ v ∈ out, ∃ t z, v = Value.ref t ∧ H t = some (.tup [.int z.1, .int z.2]) ∧ z ∈ cs := fun v hv => hpr v (hb.perm.mem_iff.mp hv)
    have ho4 : ∀ u ∈ out, ∃ a, u = Value.ref a := fun u hu => let ⟨t, _, e, _⟩ := ho3 u hu; ⟨t, e⟩
    have hlen : out.length = acc'.toList.length := hb.perm.length_eq
    have pz : ∀ l : List Value, (∀ v ∈ l, ∃ t z, v = Value.ref t ∧ H t = some (.tup [.int z.1, .int z.2]) ∧ z ∈ cs) → ∃ bs : List Addr, l.map backV = bs.map V.ref ∧ Paired (fun z b => H b = some (.tup [.int z.1, .int z.2])) (l.map (kOf H)) bs := fun l => by
      induction l with
      | nil => intro _; exact ⟨[], rfl, .nil⟩
      | cons v l ih =>
        intro hh
        obtain ⟨t, z, e, ht, _⟩ := hh v List.mem_cons_self
        obtain ⟨bs, b1, b2⟩ := ih fun u hu => hh u (List.mem_cons_of_mem _ hu)
        refine ⟨t :: bs, by rw [List.map_cons, List.map_cons, b1, e]; rfl, ?_⟩
        rw [List.map_cons]
        exact .cons (by rw [e, kOf_at ht]; exact ht) b2
    obtain ⟨bs, b1, b2⟩ := pz out ho3
    have ec : acc'.toList.map (kOf H) = cs := by
      rw [ea, List.map_map]
      apply List.ext_getElem?
      intro j
      rw [List.getElem?_map]
      cases hj : ks[j]? with
      | none =>
        have h1 := List.getElem?_eq_none_iff.mp hj
        rw [List.getElem?_eq_none (by omega)]
        rfl
      | some x =>
        obtain ⟨c, c1, c2⟩ := hat j x hj
        rw [c1]
        show some (kOf H (.ref x.2.1)) = _
        rw [kOf_at c2]
    have pm : (out.map (kOf H)).Perm cs := by
      have h3 := hb.perm.map (kOf H)
      rw [ec] at h3
      exact h3
    have hpw : (out.map (kOf H)).Pairwise (fun x y => lexB y x = false) := List.pairwise_map.mpr hs
    refine wpAny_pure ⟨_, rfl, .ref h'.objs.size, upd H h'.objs.size (.lst (bs.map V.ref)), I1.laid (t' := tk) (fun b u e => ?_) (Nat.le_refl _) ?_, rfl, q _ bs _ pm hpw b2 (I1.hok.fresh (Nat.le_refl _))⟩
    · have hb : b < h'.objs.size := Heap.lt_size e
      rw [PyProof.Rows.sortedHeap_old (Nat.ne_of_lt hb) (by rw [size_push']; exact Nat.lt_succ_of_lt hb)]
      exact Heap.get?_push_of_some _ e
    · refine ⟨?_, out, e', ?_, he'⟩
      · rw [← b1, List.length_map, hlen]
        exact hza
      · rw [← b1]
        exact vals_back ho4
end
end L2.DT2
set_option Elab.async false
set_option linter.all false
set_option maxRecDepth 100000
set_option maxHeartbeats 4000000
/-! # x or {}, x a dict with tuple keys; a dict that is walked and never written again -/
namespace L2.DT2
open PySem PySem.Spec PyProof.Rows L2
section
variable {prog : Program} {w : World} {K : Type} [DecidableEq K] {knd : HeapKind prog w K} {A : Around} {E : Value → Shared → Prop} {s : Shared}
theorem truthy_dictH {d : Addr} {kvs : List (K × Addr × Value)} {Q : Bool → Shared → Prop} (hd : (d == sysModules) = false) (hm : s.heap.DictOfH knd d kvs) (hfit : (kvs.length : Int) < 2 ^ 63)
    (h : Q (!kvs.isEmpty) { s with toks := s.toks + 1 + 1 }) : wpAny (model prog w) A (truthy (.ref d)) Q E s := by
  have hne : ((kvs.length : Int) != 0) = !kvs.isEmpty := by cases kvs <;> simp <;> omega
  have key : wpAny (model prog w) A (runValue (.builtin "len" ⟨[.ref d], []⟩)) (fun r s' => r = .int kvs.length (s.toks + 1) ∧ Q (!kvs.isEmpty) s') E s := by
    refine wpAny_runValue (codeAny_builtin entry_len ?_)
    rw [Around.under_plainId plain_len _]
    exact wpAny_mono (wpAny_len_body_dictH (Q := fun r s' => r = .int kvs.length (s.toks + 1) ∧ Q (!kvs.isEmpty) s') hd hm hfit ⟨rfl, h⟩)
      (fun fin s' h' => by obtain ⟨r, rfl, hq⟩ := h'; exact hq) fun _ _ e => e
  unfold truthy
  first
    | refine wpAny_bind (wpAny_callSpecial?_none (name := Str.ofString "__bool__") hm.typeIs noBool_dict ?_)
    | refine wpAny_bind (wpAny_pure (wpAny_bind (wpAny_callSpecial?_none (name := Str.ofString "__bool__") hm.typeIs noBool_dict ?_)))
  first
    | refine wpAny_bind (wpAny_specialOf (name := Str.ofString "__len__") hm.typeIs F.slot_dict_len.lookup ?_)
    | refine wpAny_bind (wpAny_pure (wpAny_bind (wpAny_specialOf (name := Str.ofString "__len__") hm.typeIs F.slot_dict_len.lookup ?_)))
  first
    | exact wpAny_bind (wpAny_mono key (fun r s' h' => by obtain ⟨rfl, hq⟩ := h'; exact wpAny_pure (hne ▸ hq)) fun _ _ e => e)
    | exact wpAny_bind (wpAny_pure (wpAny_bind (wpAny_mono key (fun r s' h' => by obtain ⟨rfl, hq⟩ := h'; exact wpAny_pure (hne ▸ hq)) fun _ _ e => e)))
end
/-- a or b, a None or a dict with tuple keys -/
def tOrD (ta tb : TE) : TE := fun σ H Q => ta σ H fun x H1 => (x = .non ∧ tb σ H1 Q) ∨ ∃ (d : Addr) (kvs : List (List Key × V)), x = .ref d ∧ Rd H1 d (.dT kvs) ∧ (kvs ≠ [] → Q x H1) ∧ (kvs = [] → tb σ H1 Q)
section
variable {X : Cx} {a b : Expr} {rest : List Expr} {ta tb : TE} {pos : Pos}
theorem pe_orD (ha : PE X a ta) (hb : PE X (.BoolOp .Or (b :: rest) pos) tb) : PE X (.BoolOp .Or (a :: b :: rest) pos) (tOrD ta tb) := by
  refine ⟨fun pins s σ H Q I h => ?_⟩
  refine BoolOp_or (thn (ha.run pins s σ H _ I h) fun v s1 ⟨x, H1, I1, r1, q1⟩ => ?_)
  rcases q1 with ⟨ex, q1⟩ | ⟨d, kvs, ex, hd, q1, q2⟩
  · subst ex
    cases r1
    exact truthy_none (hb.run pins s1 σ H1 Q I1 q1)
  · subst ex
    obtain rfl : v = Value.ref d := r1
    obtain ⟨z, hs, xs, rel, dd⟩ := dt_rd I1.hok hd
    have hl : kvs.length = xs.length := Paired.length rel
    refine truthy_dictH hs dd (by rw [← hl]; rw [sizeLine_eq] at z; omega) ?_
    cases kvs with
    | nil =>
      cases rel
      exact hb.run pins _ σ H1 Q (I1.tok _) (q2 rfl)
    | cons p r =>
      cases rel
      exact ⟨.ref d, H1, I1.tok _, rfl, q1 (fun z => nomatch z)⟩
end
/-- a dict is walked that nobody writes from now on -/
def iFrzT (td : TE) : TI := fun σ H R => td σ H fun x H1 => ∃ (d : Addr) (kvs : List (List Key × V)), x = .ref d ∧ H1 d = some (.dT kvs) ∧ ∀ o, R (Itkt d o kvs) (upd H1 d (.frz o (.dT kvs)))
section
variable {X : Cx} {tg e : Expr} {td : TE}
theorem pi_frzT (he : PE X e td) : PI X tg e (iFrzT td) := by
  refine ⟨fun pins s σ H R I h => ?_⟩
  refine thn (he.run pins s σ H _ I h) fun u s1 ⟨x, H1, I1, rx, d, kvs, ex, hd, q⟩ => ?_
  subst ex
  obtain rfl : u = Value.ref d := rx
  obtain ⟨o, I2⟩ := I1.lock hd True.intro
  have hd2 : upd H1 d (.frz o (.dT kvs)) d = some (.frz o (.dT kvs)) := upd_same
  obtain ⟨hs, hgd, hx, es, ep, hdt, hsz, ent⟩ := I2.frzT hd2
  refine iter_keys hs hgd hx hdt (pi_one (tk := s1.toks) I2 _ (turn_keysT _ hdt) ⟨_, Heap.get?_push_size _ rfl, rfl, ?_⟩ (q o))
  rw [hsz] <;> rfl
end
end L2.DT2
set_option Elab.async false
set_option linter.all false
set_option maxRecDepth 100000
set_option maxHeartbeats 4000000
/-! # a def that is handed a lambda: the heap behind the call as a name -/
namespace LV
open PySem PySem.Spec PyProof.Rows L2 LamX NdefX
def tCallU (cl : List (Str × Addr)) (fr : List Str) (js : List Nat) (sp : Sp) (E : XK) (t : TA) : TE := fun σ H Q => t σ H fun vs H1 => (∀ j ∈ js, ∃ v, slotAt σ j = some v) ∧
  ∀ H2 : Hp, (∀ b ∈ cellsL cl, H1 b = none) → (∀ b, b ∉ cellsL cl → H2 b = H1 b) → TrackAt cl fr (js.map fun j => (slotAt σ j).getD .non) H2 →
    sp vs H2 (fun v H' => ∀ Hd : Hp, (L2.Same H2 H' → L2.Same H1 Hd) → (ExtN H2 H' → ExtN H1 Hd) → (∀ b o, H1 b = some o → H' b = some o → Hd b = some o) → (ExtN H2 H' → ∀ b o, (∀ ob u, o ≠ .frz ob u) → H' b = some o → Hd b = some o) → Q v Hd) E
section
variable {X : Cx} {k j : Nat} {x : Str} {ps fr : List Str} {cl : List (Str × Addr)} {js : List Nat} {sp : Sp} {E : XK} {p pos : Pos} {e : Expr} {es : List Expr} {t : TA}
theorem pe_clU (c : G.CL X.prog X.w X.K X.mg X.base C8.CX0 k x ps sp) (hr : Room j X.A) (hk : k ≤ j) (cp : X.Ok → Caps X cl fr js) (nd : fr.Nodup) (sub : ∀ y c, cl.lookup y = some c → y ∈ fr) (fn : ∀ y ∈ fr, X.fn y = true) (ha : PA X (e :: es) t) (hg : Gl X x := by rfl)
    (hdb : (x == ("__debug__" : Str)) = false := by decide) (he : starEach (e :: es) X.env = (false, eval e X.env) :: starEach es X.env := by rfl) (hpl : (backTo pos (starEach es X.env)).any (·.1) = false := by rfl) :
    PE X (.Call (.Name x p) (e :: es) [] pos) (tCallU cl fr js sp E t) := by
  obtain ⟨f, fd, F, hm, kp, b⟩ := c.ex
  refine ⟨fun pins s σ H Q I h => ?_⟩
  refine wpAny_Call_Name_kw (ld_glob I hg hm ?_ hdb)
  refine PySem.W.callWith_K (h₀ := X.base) I.ok.mod.kin kp (thn (ha.run pos pins s σ H _ I h) fun us s1 ⟨vs, H1, I1, r, hv, q⟩ => ⟨I1.kIn, ?_⟩) he hpl
  obtain ⟨H2, a1, a2, a3, a4, e2⟩ := track I1 (cp I1.ok) nd sub fn hv
  have hq := q H2 a1 a2 a4
  have hl : (us ++ []).length = ps.length := by
    rw [List.append_nil, ← r.length]
    exact F.len _ _ _ _ hq
  refine wpAny_call (codeAny_mono (F.run X.A X.stack s1 H2 ⟨us, []⟩ (us ++ []) vs _ E (hr.mono hk) e2 (b s1 us I1.kIn hl) (by rw [List.append_nil]; exact r) hq) fun r s' hq' => ?_)
  cases r with
  | error e => exact (show False from hq').elim
  | ok fl =>
    cases fl with
    | ret u =>
      obtain ⟨v, H', os, bare, un, hok, rv, qq⟩ := hq'
      have no : ∀ b o, H1 b = some o → b ∉ cellsL cl := fun b o e hb => by
        rw [a1 b hb] at e; cases e
      refine I1.after (ce_drp e2.hok a3 a1 a2 ⟨v, H', os, bare, un, hok, rv, qq (drp H' (cellsL cl)) (fun s b o e => ?_) (fun s b o e n => ?_) (fun b o e e' => ?_) (fun s b o n e => ?_)⟩)
      · rw [drp_out (no b o e)]
        exact s b o (by rw [a2 b (no b o e)]; exact e)
      · rw [drp_out (no b o e)]
        exact s b o (by rw [a2 b (no b o e)]; exact e) n
      · rw [drp_out (no b o e)]
        exact e'
      · refine Fz.keep (fun c hc => ?_) e n
        obtain ⟨v, ob, z⟩ := a3 c hc
        exact ⟨v, ob, s _ _ z fun ps q => by cases q⟩
    | next => exact False.elim hq'
    | brk => exact False.elim hq'
    | cont => exact False.elim hq'
end
end LV
set_option Elab.async false
set_option linter.all false
set_option maxRecDepth 100000
set_option maxHeartbeats 4000000
/-! # set(xs), xs a list of ints (call_set_lstI printed by gen19.py) -/
namespace L2.LS
open PySem PySem.Spec PyProof.Rows L2
section
variable {P : Program} {w : World} {A : Around} {E : Value → Shared → Prop} {s : Shared}
set_option maxRecDepth 100000 in
set_option maxHeartbeats 3200000 in
theorem call_set_lstI {l : Addr} {items : Array Value} (ns : List Int) {Q : Value → Shared → Prop} (hh : A.handled = none) (hl : s.heap.IsList l items) (hit : IntsAre items.toList ns) (hb : ns.length + 1 < scanBound)
    (h : ∀ (h' : Heap) (tk c : Nat), SetR w h' s.heap.objs.size (fun j => decide (j ∈ ns)) c → c ≤ ns.length → (∀ b o, s.heap.get? b = some o → h'.get? b = some o) → Q (.ref s.heap.objs.size) { s with heap := h', toks := tk }) :
    wpAny (model P w) A (call (.type "set") [.ref l]) Q E s := by
  have hisz : items.size = ns.length := by
    have q := IntsAre.length hit
    rw [Array.length_toList] at q
    exact q
  obtain ⟨c, tl, hmro⟩ := F.called_set.mro
  have hmade := F.called_set.made
  have hsub := F.called_set.sub
  refine wpAny_call (codeAny_of_tree ?_)
  show wpAny _ _ (callAny (.type "set") _) _ _ _
  refine wpAny_pure ⟨Code.quiet_builtin _ (by decide +kernel), codeAny_builtin F.entry_type_call ?_⟩
  rw [Around.under_plain (weight_type_call_type "set" [.ref l] []) rfl]
  have h1 := F.called_set.notType
  have h2 := F.called_set.canCreate
  have hct := F.typeCall_set_1 (.ref l)
  repeat (any_goals (first | assumption | wp_step))

  refine codeAny_mono (code_set_led1 (.ref l) (E := E) (Q₁ := fun obj s₁ => obj = .ref s.heap.objs.size ∧ s₁ = { s with heap := s.heap.push { cls := .type "set", dict := none, data := .set #[] 0 (.fresh 0 0 (!w.params.followText "set-order")) } }) ⟨rfl, rfl⟩) fun r s₁ hr => ?_
  cases r with
  | error e => exact hr
  | ok fl =>
    cases fl with
    | ret obj =>
      obtain ⟨rfl, rfl⟩ := hr
      have hS : (s.heap.push { cls := .type "set", dict := none, data := .set #[] 0 (.fresh 0 0 (!w.params.followText "set-order")) }).get? s.heap.objs.size = some { cls := .type "set", dict := none, data := .set #[] 0 (.fresh 0 0 (!w.params.followText "set-order")) } := Heap.get?_push_size _ rfl
      have hT : Shared.TypeIs { s with heap := s.heap.push { cls := .type "set", dict := none, data := .set #[] 0 (.fresh 0 0 (!w.params.followText "set-order")) } } (.ref s.heap.objs.size) "set" := ⟨_, hS, rfl⟩
      have hli := F.called_set.init.lookup
      have hbi := F.called_set.init.bind (.ref s.heap.objs.size)
      repeat (any_goals (first | assumption | wp_step))

      refine codeAny_mono (codeAny_call_builtin (R := wants (fun r s₂ => r = .none ∧ ∃ h' tk c, s₂ = { s with heap := h', toks := tk } ∧ SetR w h' s.heap.objs.size (fun j => decide (j ∈ ns)) c ∧ c ≤ ns.length ∧
          (∀ b o, s.heap.get? b = some o → h'.get? b = some o)) E) F.called_set.init.plain F.entry_set_init (check_set_init_1 hT ?_)) fun r₂ s₂ hr₂ => ?_
      · obtain ⟨ol, hol, hcl, nl, hdl⟩ := hl
        obtain ⟨ocls, odict, odata, oslots⟩ := ol
        simp only at hcl hdl
        subst hcl; subst hdl
        have hol' : (s.heap.push { cls := .type "set", dict := none, data := .set #[] 0 (.fresh 0 0 (!w.params.followText "set-order")) }).get? l = some { cls := .type "list", dict := odict, data := .seq items nl, slots := oslots } := Heap.get?_push_of_some _ hol
        have hsls := F.sub_list_set
        have hslf := F.sub_list_frozenset
        have hne : (Value.type "list" == Value.type "dict") = false := by decide
        have hl1 : (s.heap.push { cls := .type "set", dict := none, data := .set #[] 0 (.fresh 0 0 (!w.params.followText "set-order")) }).IsList l items := ⟨_, hol', rfl, nl, rfl⟩
        unfold Builtin.«set.__init__» noKeywords Builtin.Frozenset.updateFrom
        generalize hPI : pyIter = PI
        wp_walk
        subst hPI

        refine wpAny_pyIter_list hl1 ?_
        refine wpAny_bind (wpAny_runValue ?_)
        have hlS : l < s.heap.objs.size := Heap.lt_size hol
        have hh3 : A.in1.in1.in1.handled = none := by simp [hh]
        have hz1 : (s.heap.push { cls := .type "set", dict := none, data := .set #[] 0 (.fresh 0 0 (!w.params.followText "set-order")) }).objs.size = s.heap.objs.size + 1 := Heap.size_push ..
        have hneI : l ≠ (s.heap.push { cls := .type "set", dict := none, data := .set #[] 0 (.fresh 0 0 (!w.params.followText "set-order")) }).objs.size := by
          rw [Heap.size_push]; exact Nat.ne_of_lt (Nat.lt_succ_of_lt hlS)
        have hSf : s.heap.objs.size ∉ [(s.heap.push { cls := .type "set", dict := none, data := .set #[] 0 (.fresh 0 0 (!w.params.followText "set-order")) }).objs.size, l] := by
          rw [Heap.size_push]; simp only [List.mem_cons, List.mem_singleton, List.not_mem_nil, or_false, not_or]
          exact ⟨Nat.ne_of_lt (Nat.lt_succ_self _), Nat.ne_of_gt hlS⟩
        have hval : ∀ (i : Nat) (v : Value), items[i]? = some v → ∃ k t, ns[i]? = some k ∧ v = .int k t := fun i v hv => by
          have hi : i < ns.length := by rw [← hisz]; exact (Array.getElem?_eq_some_iff.mp hv).1
          obtain ⟨t, e⟩ := PyProof.Rows.IntsAre.int_at hit i v (by rw [Array.getElem?_toList]; exact hv)
          refine ⟨ns[i], t, List.getElem?_eq_getElem hi, ?_⟩
          rw [e, List.getD_eq_getElem?_getD, List.getElem?_eq_getElem hi] <;> rfl
        refine set_update_ints ((Walks.list hh3 _ l hneI items).toS) s.heap.objs.size
          hSf ns hisz hb hval (items.size - 0) 0 _ (by omega) (Nat.zero_le _)
          ⟨⟨_, Heap.get?_push_size _ rfl, rfl, rfl⟩, (hl1.push _)⟩ ?hS0 ?hR
        case hS0 =>
          have hget : ((s.heap.push { cls := .type "set", dict := none, data := .set #[] 0 (.fresh 0 0 (!w.params.followText "set-order")) }).push { cls := .type "list_iterator", data := .fields #[.ref l, .int 0 0] }).get? s.heap.objs.size
              = some { cls := .type "set", dict := none, data := .set #[] 0 (.fresh 0 0 (!w.params.followText "set-order")) } := Heap.get?_push_of_some _ hS
          exact ⟨0, Nat.le_refl 0, setR_new_at hget⟩
        case hR =>
          intro s' c' hm hc' hS'
          obtain ⟨h', g2, d', tk', os'⟩ := s'
          have eg : g2 = s.gens := hm.gens
          have ed : d' = s.drawn := hm.drawn
          have eo : os' = s.os := hm.os
          subst eg; subst ed; subst eo
          show wpAny _ _ _ _ _ _
          refine wpAny_pure ?_
          show wpAny _ _ (ret Value.none) _ _ _
          rw [hisz] at hc'
          refine wpAny_pure ⟨rfl, h', tk', c', rfl, hS', hc', fun b o e => ?_⟩
          have hb0 : b < s.heap.objs.size := Heap.lt_size e
          have hb1 : b ≠ s.heap.objs.size := Nat.ne_of_lt hb0
          have hb2 : b ≠ (s.heap.push { cls := .type "set", dict := none, data := .set #[] 0 (.fresh 0 0 (!w.params.followText "set-order")) }).objs.size := by
            rw [Heap.size_push]; exact Nat.ne_of_lt (Nat.lt_succ_of_lt hb0)
          exact hm.heap b o (by simp only [List.mem_cons, List.mem_singleton, List.not_mem_nil, or_false, not_or]; exact ⟨hb1, hb2⟩) (Heap.get?_push_of_some _ (Heap.get?_push_of_some _ e))

      · cases r₂ with
        | error e => exact hr₂
        | ok fl₂ =>
          cases fl₂ with
          | ret r =>
            obtain ⟨rfl, h', tk, c', rfl, hS', hc', hk'⟩ := hr₂
            repeat (any_goals (first | assumption | wp_step))
            exact h _ _ _ hS' hc' hk'
          | _ => exact hr₂.elim
    | _ => exact hr.elim
end
theorem nd_le : ∀ {a l : List Int}, a.Nodup → (∀ x ∈ a, x ∈ l) → a.length ≤ l.length
  | [], _, _, _ => Nat.zero_le _
  | x :: r, l, nd, h => by
    have h1 := List.pairwise_cons.mp nd
    have hx := h x (List.mem_cons_self ..)
    have ih := nd_le (l := l.erase x) h1.2 fun y hy => (List.mem_erase_of_ne (fun z => h1.1 y hy z.symm)).mpr (h y (List.mem_cons_of_mem _ hy))
    rw [List.length_erase_of_mem hx] at ih
    have : 0 < l.length := List.length_pos_of_mem hx
    rw [List.length_cons]
    omega
/-- no more members than any list that holds them -/
theorem setR_le {w : World} {h : Heap} {a : Addr} {ns l : List Int} {c : Nat} (R : SetR w h a (fun j => decide (j ∈ ns)) c) (hl : ∀ j ∈ ns, j ∈ l) : c ≤ l.length := by
  obtain ⟨o, es, ep, t, _, _, _, _, nd, hm, _, _, hn, _⟩ := R
  have h1 : (es.toList.map keyOf).length ≤ l.length := nd_le nd fun j hj => hl j (by simpa using (hm j).mpr hj)
  rw [List.length_map, Array.length_toList, hn] at h1
  exact h1
section
variable {X : Cx}
def rSetL (X : Cx) : List V → Hp → VK → Prop := fun xs H Q => ∃ (l : Addr) (ns : List Int), xs = [.ref l] ∧ SqL X.K H l (ns.map V.int) ∧ ns.length < 4000 ∧ ∀ p c, H p = none → c ≤ ns.length → (∀ m : List Int, (∀ j ∈ ns, j ∈ m) → c ≤ m.length) → Q (.ref p) (upd H p (SetO X.w p (fun j => decide (j ∈ ns)) c))
theorem cr_setL (hc : X.calm = true) : CallR X (.type "set") (rSetL X) := by
  intro pins s σ H vs us Q I r h
  obtain ⟨l, ns, rfl, hs, hz, q⟩ := h
  rw [Vals.ref1 r]
  obtain ⟨its, rv, pl, _⟩ := I.list hs
  refine call_set_lstI (P := X.prog) ns (I.ok.hd hc) pl.isList (by simpa using intsAre_of rv) (by unfold scanBound; omega) fun h' tk c R hcn k => ?_
  have hn : H s.heap.objs.size = none := I.hok.fresh (Nat.le_refl _)
  exact ⟨.ref s.heap.objs.size, _, I.laid (t' := tk) k (Nat.le_refl _) (setO_new R), rfl, q _ c hn hcn fun m hm => setR_le R hm⟩
end
end L2.LS
set_option Elab.async false
set_option linter.all false
set_option maxRecDepth 100000
set_option maxHeartbeats 4000000
/-! # d.update(d2), keys tuples; try: suite / finally: suite, nothing raised -/
namespace L2.DT2
open PySem PySem.Spec PyProof.Rows L2
def putAllK (kvs more : List (List Key × V)) : List (List Key × V) := more.foldl (fun acc p => putK acc p.1 p.2) kvs
theorem kt_putAll {H : Hp} : ∀ {more : List (List Key × V)} {ms : List (List Key × Addr × Value)} {kvs : List (List Key × V)} {xs : List (List Key × Addr × Value)}, KT H kvs xs → KT H more ms → KT H (putAllK kvs more) (storedAllH xs ms)
  | _, _, _, _, r, .nil => r
  | (k, v) :: _, (k', b, u) :: _, kvs, xs, r, .cons h t => by
    obtain ⟨e, hb, rv⟩ := h
    have e : k = k' := e
    subst e
    exact kt_putAll (kvs := putK kvs k v) (xs := storedH xs k b u) (r.put k hb rv) t
theorem len_putAll : ∀ (more kvs : List (List Key × V)), (putAllK kvs more).length ≤ kvs.length + more.length
  | [], kvs => Nat.le_refl _
  | p :: r, kvs => by
    have h1 := len_putAll r (putK kvs p.1 p.2)
    have h2 := length_putK kvs p.1 p.2
    show (putAllK (putK kvs p.1 p.2) r).length ≤ kvs.length + (r.length + 1)
    omega
section
variable {X : Cx}
def rUpdT (X : Cx) : V → List V → Hp → VK → Prop := fun x vs H Q => ∃ (a b : Addr) (kvs more : List (List Key × V)), x = .ref a ∧ vs = [.ref b] ∧ H a = some (.dT kvs) ∧ H b = some (.dT more) ∧ a ≠ b ∧ (kvs ≠ [] ∨ (more.map fun x => hashT X.prog X.w x.1).Nodup) ∧ kvs.length + more.length ≤ sizeLine ∧ Q .non (upd H a (.dT (putAllK kvs more)))
theorem mt_updT (hu : X.A.units + 2 < cLine) : MtR X "dict.update" (rUpdT X) := by
  intro pins s σ H x vs v us Q I rx rv h
  obtain ⟨a, b, kvs, more, rfl, rfl, ha, hb, hne, hap, hz, q⟩ := h
  cases rx
  obtain ⟨u, rfl, ru⟩ := rv.one
  cases ru
  obtain ⟨za, hda, xs, rel, dda⟩ := dt_of I.hok ha
  obtain ⟨zb, hdb, ms, relb, ddb⟩ := dt_of I.hok hb
  have l1 := Paired.length rel
  have l2 := Paired.length relb
  refine call_update_dictH (knd := tupleKind (mixKind X.prog X.w)) (show X.A.in1.units < cLine from by show X.A.units + 1 < cLine; omega) hne hdb dda ddb (hap.imp (fun n z => n (by rw [z] at l1; exact List.eq_nil_of_length_eq_zero l1)) fun n => ⟨fun x hx => ?_, by rw [kt_hash (P := X.prog) (w := X.w) relb]; exact n⟩) (by omega) fun h' hd' _ hs => ?_
  · obtain ⟨i, hi⟩ := List.mem_iff_getElem?.mp hx
    obtain ⟨y, _, r1, r2, _⟩ := DX.pget relb hi
    obtain ⟨_, _, _, o, ho, hc, _⟩ := I.hok _ _ r2
    exact ⟨o, ho, hc⟩
  · obtain ⟨o, es, ep, h1, h2, h3, h4, _, h5⟩ := hd'
    refine ⟨.non, _, d_write (ob := .dT (putAllK kvs more)) (t' := s.toks) I (by rw [ha]; exact True.intro) hs ⟨o, h1⟩ ⟨?_, hda, _, (kt_putAll rel relb).keeps fun c ys ec => ?_, o, es, ep, h1, h2, h3, h4, h5⟩, rfl, q⟩
    · have := len_putAll more kvs
      omega
    · rw [upd_ne (ne_of ec ha (fun z => nomatch z))]
      exact ec
/-- try: suite / finally: suite, nothing raised, the suite falls through -/
def tTryFin (tb tf : TS) : TS := fun D σ H => tb { nx := fun σ1 H1 => tf D σ1 H1, rt := fun _ _ => False, bk := fun _ _ => False, ct := fun _ _ => False } σ H
theorem ps_tryFin {body : List Stmt} {f₀ : Stmt} {fs : List Stmt} {pos : Pos} {tb tf : TS} (hb : PSs X.nox body tb) (hf : PSs X.nox (f₀ :: fs) tf) : PS X (.Try body [] [] (f₀ :: fs) pos) (tTryFin tb tf) := by
  refine ⟨fun pins s σ H D I h => ?_⟩
  refine wpAny_Try_finally (wpAny_mono (hb.run pins s σ H _ (I.wish _) h) (fun f s1 q => ?_) fun _ _ z => False.elim z)
  have q' := q.unwish
  cases f with
  | next =>
    obtain ⟨σ1, H1, I1, q1⟩ := q'
    show wpAny (model X.prog X.w) X.A (execs [] X.env) _ _ s1
    refine wpAny_execs_nil ?_
    refine wpAny_mono (hf.run pins s1 σ1 H1 D (I1.wish _) q1) (fun g s2 z => ?_) fun _ _ z => False.elim z
    have z' : SP X pins D g s2 := z.unwish
    cases g with
    | next => exact z'
    | ret w2 => exact z'
    | brk => exact z'
    | cont => exact z'
  | brk => obtain ⟨σ1, H1, I1, q1⟩ := q'; exact q1.elim
  | cont => obtain ⟨σ1, H1, I1, q1⟩ := q'; exact q1.elim
  | ret v => obtain ⟨x, σ1, H1, I1, r, q1⟩ := q'; exact q1.elim
end
end L2.DT2
set_option Elab.async false
set_option linter.all false
set_option maxRecDepth 100000
set_option maxHeartbeats 4000000
/-! # {k: v for .. for ..}, the keys tuples (printed by gen21.py) -/
namespace L2.DT2
open PySem PySem.Spec PyProof.Rows L2
theorem compTurnD2_out (kx vx t0 i0 t1 i1 : Expr) (ifs0 ifs1 : List Expr) (scope : Scope) (pos : Pos) (it : Value) (D : Addr) (env : Env) :
    compTurn (.DictComp kx vx [⟨t0, i0, ifs0, 0⟩, ⟨t1, i1, ifs1, 0⟩] scope pos) 0 it (.ref D) env = (do
      standAt i0.pos
      match ← pyNext it with
      | none => pure (.done .next)
      | some v =>
        letOwnedTupleGo t0 it v
        assign t0 env v
        let mut ok := true
        for c in ifs0 do
          if ok then ok ← isTrue c env (eval c env)
        if ok then
          let x ← eval i1 env
          standAt i1.pos
          let x ← foldedSetIterable i1 env x
          let _ ← runOwn (.compStart (.DictComp kx vx [⟨t0, i0, ifs0, 0⟩, ⟨t1, i1, ifs1, 0⟩] scope pos) 1 (← holding [x] (pyIter x)) (.ref D) env) env
        again (.compLoop (.DictComp kx vx [⟨t0, i0, ifs0, 0⟩, ⟨t1, i1, ifs1, 0⟩] scope pos) 0 it (.ref D) env)) := by rfl
theorem compTurnD2_in (kx vx t0 i0 t1 i1 : Expr) (ifs0 ifs1 : List Expr) (scope : Scope) (pos : Pos) (it : Value) (D : Addr) (env : Env) :
    compTurn (.DictComp kx vx [⟨t0, i0, ifs0, 0⟩, ⟨t1, i1, ifs1, 0⟩] scope pos) 1 it (.ref D) env = (do
      standAt i1.pos
      match ← pyNext it with
      | none => pure (.done .next)
      | some v =>
        letOwnedTupleGo t1 it v
        assign t1 env v
        let mut ok := true
        for c in ifs1 do
          if ok then ok ← isTrue c env (eval c env)
        if ok then
          (do
            let kv ← eval kx env
            let vv ← holding [kv] (eval vx env)
            standAt { kx.pos with endLine := vx.pos.endLine, endCol := vx.pos.endCol }
            holding [kv, vv] (dictSet D kv vv))
        again (.compLoop (.DictComp kx vx [⟨t0, i0, ifs0, 0⟩, ⟨t1, i1, ifs1, 0⟩] scope pos) 1 it (.ref D) env)) := by rfl

section
variable {prog : Program} {w : World} {A : Around} {R : Result → Shared → Prop} {s : Shared} {kx vx t0 i0 t1 i1 : Expr} {ifs0 ifs1 : List Expr} {scope : Scope} {pos : Pos} {it : Value} {D : Addr} {env : Env}
/-- the loop of the first clause -/
theorem compLoopD2_out (hs : ∀ x, foldedSetIterable i1 env x = pure x) (I : Nat → Shared → Prop)
    (turn : ∀ n s, I n s → wpAny (model prog w) A (pyNext it) (fun r s₁ => match r with
      | none => R (.ok .next) s₁
      | some v => wpAny (model prog w) A (letOwnedTupleGo t0 it v) (fun _ s₁' => wpAny (model prog w) A (assign t0 env v) (fun _ s₂ =>
          wpAny (model prog w) A (forIn ifs0 true fun c r => if r = true then do let ok ← isTrue c env (eval c env); pure (ForInStep.yield ok) else pure (ForInStep.yield r)) (fun ok s₃ =>
            if ok = true then wpAny (model prog w) A (eval i1 env) (fun x s₄ => wpAny (model prog w) A (pyIter x) (fun it1 s₅ =>
              codeAny (model prog w) A (.compStart (.DictComp kx vx [⟨t0, i0, ifs0, 0⟩, ⟨t1, i1, ifs1, 0⟩] scope pos) 1 it1 (.ref D) env) (fun r s' => match r with
                | .ok _ => ∃ m, m < n ∧ I m s'
                | .error _ => False) s₅) (notedBy (model prog w) A env fun e s' => R (.error e) s') s₄) (notedBy (model prog w) A env fun e s' => R (.error e) s') s₃
            else ∃ m, m < n ∧ I m s₃) (notedBy (model prog w) A env fun e s' => R (.error e) s') s₂) (notedBy (model prog w) A env fun e s' => R (.error e) s') s₁') (notedBy (model prog w) A env fun e s' => R (.error e) s') s₁) (notedBy (model prog w) A env fun e s' => R (.error e) s') s)
    (n : Nat) (h : I n s) :
    codeAny (model prog w) A (.compLoop (.DictComp kx vx [⟨t0, i0, ifs0, 0⟩, ⟨t1, i1, ifs1, 0⟩] scope pos) 0 it (.ref D) env) R s := by
  refine codeAny_loop rfl I (fun n s hI => ?_) n h
  show wpAny _ A ((compTurn (.DictComp kx vx [⟨t0, i0, ifs0, 0⟩, ⟨t1, i1, ifs1, 0⟩] scope pos) 0 it (.ref D) env).onRaise (fun x => do noteFrame x env; theTreesLotGoes x)) _ _ s
  refine wpAny_noted ?_
  rw [compTurnD2_out]
  refine wpAny_bind (wpAny_standAt (wpAny_bind (wpAny_mono (turn n s hI) (fun r s₁ h₁ => ?_) fun _ _ h' => h')))
  cases r with
  | none => exact wpAny_pure h₁
  | some v =>
    refine wpAny_bind (wpAny_mono h₁ (fun _ s₁' h₁' => ?_) fun _ _ h' => h')
    refine wpAny_bind (wpAny_mono h₁' (fun _ s₂ h₂ => wpAny_bind (wpAny_mono h₂ (fun ok s₃ h₃ => ?_) fun _ _ h' => h')) fun _ _ h' => h')
    cases ok with
    | false => exact wpAny_pure ⟨rfl, h₃⟩
    | true =>
      refine wpAny_bind (wpAny_mono h₃ (fun x s₄ h₄ => ?_) fun _ _ h' => h')
      refine wpAny_bind (wpAny_standAt (wpAny_bind (wpAny_of_eq (hs x) (wpAny_bind (wpAny_holding (wpAny_mono h₄ (fun it1 s₅ h₅ => ?_) fun _ _ h' => h'))))))
      refine wpAny_bind (wpAny_runOwn ?_)
      rw [Around.mark_none]
      refine codeAny_mono h₅ fun r s' hr => ?_
      cases r with
      | ok f =>
        first
          | exact wpAny_pure ⟨rfl, hr⟩
          | exact wpAny_bind (wpAny_pure (wpAny_pure ⟨rfl, hr⟩))
      | error e => exact hr.elim
/-- the loop of the second -/
theorem compLoopD2_in (I : Nat → Shared → Prop)
    (turn : ∀ n s, I n s → wpAny (model prog w) A (pyNext it) (fun r s₁ => match r with
      | none => R (.ok .next) s₁
      | some v => wpAny (model prog w) A (letOwnedTupleGo t1 it v) (fun _ s₁' => wpAny (model prog w) A (assign t1 env v) (fun _ s₂ =>
          wpAny (model prog w) A (forIn ifs1 true fun c r => if r = true then do let ok ← isTrue c env (eval c env); pure (ForInStep.yield ok) else pure (ForInStep.yield r)) (fun ok s₃ =>
            if ok = true then wpAny (model prog w) A (eval kx env) (fun kv s₄ => wpAny (model prog w) A (eval vx env) (fun vv s₅ =>
              wpAny (model prog w) A (dictSet D kv vv) (fun _ s₆ => ∃ m, m < n ∧ I m s₆) (notedBy (model prog w) A env fun e s' => R (.error e) s') s₅) (notedBy (model prog w) A env fun e s' => R (.error e) s') s₄) (notedBy (model prog w) A env fun e s' => R (.error e) s') s₃
            else ∃ m, m < n ∧ I m s₃) (notedBy (model prog w) A env fun e s' => R (.error e) s') s₂) (notedBy (model prog w) A env fun e s' => R (.error e) s') s₁') (notedBy (model prog w) A env fun e s' => R (.error e) s') s₁) (notedBy (model prog w) A env fun e s' => R (.error e) s') s)
    (n : Nat) (h : I n s) :
    codeAny (model prog w) A (.compLoop (.DictComp kx vx [⟨t0, i0, ifs0, 0⟩, ⟨t1, i1, ifs1, 0⟩] scope pos) 1 it (.ref D) env) R s := by
  refine codeAny_loop rfl I (fun n s hI => ?_) n h
  show wpAny _ A ((compTurn (.DictComp kx vx [⟨t0, i0, ifs0, 0⟩, ⟨t1, i1, ifs1, 0⟩] scope pos) 1 it (.ref D) env).onRaise (fun x => do noteFrame x env; theTreesLotGoes x)) _ _ s
  refine wpAny_noted ?_
  rw [compTurnD2_in]
  refine wpAny_bind (wpAny_standAt (wpAny_bind (wpAny_mono (turn n s hI) (fun r s₁ h₁ => ?_) fun _ _ h' => h')))
  cases r with
  | none => exact wpAny_pure h₁
  | some v =>
    refine wpAny_bind (wpAny_mono h₁ (fun _ s₁' h₁' => ?_) fun _ _ h' => h')
    refine wpAny_bind (wpAny_mono h₁' (fun _ s₂ h₂ => wpAny_bind (wpAny_mono h₂ (fun ok s₃ h₃ => ?_) fun _ _ h' => h')) fun _ _ h' => h')
    cases ok with
    | false => exact wpAny_pure ⟨rfl, h₃⟩
    | true =>
      exact wpAny_bind (wpAny_bind (wpAny_mono h₃ (fun kv s₄ h₄ => wpAny_bind (wpAny_holding (wpAny_mono h₄ (fun vv s₅ h₅ => wpAny_bind (wpAny_standAt (wpAny_holding (wpAny_mono h₅ (fun _ s₆ h₆ => wpAny_pure ⟨rfl, h₆⟩) fun _ _ h' => h')))) fun _ _ h' => h'))) fun _ _ h' => h'))
/-- the second clause's start -/
theorem compStartD1_ok (h0 : codeAny (model prog w) A (.compLoop (.DictComp kx vx [⟨t0, i0, ifs0, 0⟩, ⟨t1, i1, ifs1, 0⟩] scope pos) 1 it (.ref D) env) R s)
    (h : wpAny (model prog w) A (pyIter it) (fun it' s' => codeAny (model prog w) A (.compLoop (.DictComp kx vx [⟨t0, i0, ifs0, 0⟩, ⟨t1, i1, ifs1, 0⟩] scope pos) 1 it' (.ref D) env) R s')
      (notedBy (model prog w) A env fun x s' => R (.error x) s') s) :
    codeAny (model prog w) A (.compStart (.DictComp kx vx [⟨t0, i0, ifs0, 0⟩, ⟨t1, i1, ifs1, 0⟩] scope pos) 1 it (.ref D) env) R s := by
  refine codeAny_of_tree ?_
  show wpAny _ _ ((compStart (.DictComp kx vx [⟨t0, i0, ifs0, 0⟩, ⟨t1, i1, ifs1, 0⟩] scope pos) 1 it (.ref D) env).onRaise (fun x => do noteFrame x env; standAt theWindowsPlace)) _ _ s
  refine wpAny_notedAt ?_
  unfold compStart
  show wpAny _ _ (ask >>= _) _ _ s
  refine wpAny_bind (wpAny_askSetting (wpAny_ite ?_))
  split
  · first
      | exact wpAny_bind (wpAny_pure (wpAny_pure (And.intro rfl h0)))
      | exact wpAny_pure (And.intro rfl h0)
  · first
      | exact wpAny_bind (wpAny_rule (wpAny_bind (wpAny_standAt (wpAny_bind (wpAny_mono h (fun it' s' h' => wpAny_pure (And.intro rfl h')) fun _ _ x => x)))))
      | (refine wpAny_bind (wpAny_rule ?_); show wpAny _ _ (standAt i1.pos >>= _) _ _ s; exact wpAny_bind (wpAny_standAt (wpAny_bind (wpAny_mono h (fun it' s' h' => wpAny_pure (And.intro rfl h')) fun _ _ x => x))))
end
section
variable {X : Cx}
def tDcT2 (wi : TI) (g : TG) (tt : TT) (wi1 : TI) (g1 : TG) (tt1 : TT) (tk tv : TE) (vs vs1 : List Nat) : TE := fun σ H Q => wi σ H fun J H1 => ∀ D, H1 D = none → ∃ W : Nat → Nat → Hp → Prop, (∃ m, W 0 m (upd H1 D (.dT []))) ∧ ∀ i m H, W i m H →
  (J.stop i H ∧ Q (.ref D) H) ∨ (J.go i H ∧ ∃ Nx : Hp → Prop, (∀ H', Nx H' → ∃ m', m' < m ∧ W (i + 1) m' H') ∧ ∀ x H', J.yld i H x H' → g x (wipe σ vs) H' fun σ2 H2 => wipe σ2 vs = wipe σ vs ∧ tt σ2 H2 fun b H3 =>
    if b = true then wi1 σ2 H3 fun J1 H4 => ∃ W1 : Nat → Nat → Hp → Prop, (∃ m, W1 0 m H4) ∧ ∀ j k H, W1 j k H →
      (J1.stop j H ∧ Nx H) ∨ (J1.go j H ∧ ∃ Nx1 : Hp → Prop, (∀ H', Nx1 H' → ∃ k', k' < k ∧ W1 (j + 1) k' H') ∧ ∀ x H', J1.yld j H x H' → g1 x (wipe σ2 vs1) H' fun σ3 H5 => wipe σ3 vs1 = wipe σ2 vs1 ∧ tt1 σ3 H5 fun b H6 =>
        if b = true then tk σ3 H6 fun y H7 => tv σ3 H7 fun z H8 => ∃ kvs k b, y = .ref b ∧ H8 b = some (.tup (k.map kV)) ∧ H8 D = some (.dT kvs) ∧ kvs.length < sizeLine ∧ Nx1 (upd H8 D (.dT (putK kvs k z))) else Nx1 H6)
    else Nx H3)
theorem dcT2_core {pins : List (Addr × Obj)} {s : Shared} {σ : St} {H : Hp} {Q : VK} {kx vx tg iter tg1 iter1 : Expr} {ifs ifs1 : List Expr} {scope : Scope} {own : List (Str × Nat)} {vs1 : List Nat} {pos pos' : Pos} {wi wi1 : TI} {g g1 : TG} {tt tt1 : TT} {tk tv : TE} {use : Option (Value → Sem Unit)} {Qf : Value → Shared → Prop}
    (hu : X.A.units + 2 < cLine) (hc : X.calm = true) (hN : X.N.Nodup) (I : Inv X pins σ H s) (hi : PI X tg iter wi) (ok : BlkOk X.N X.env.scope scope own) (hv : ∀ i ∈ vs1, i ∈ own.map (·.2))
    (hg : ∀ (s : Shared) (H : Hp) (C : Addr) (cl : List (Str × Addr)) (fp : List Addr), PG (X.blk s H scope (compEnvC scope cl C X.env) fp) tg g) (ht : ∀ (s : Shared) (H : Hp) (C : Addr) (cl : List (Str × Addr)) (fp : List Addr), PTs (X.blk s H scope (compEnvC scope cl C X.env) fp) ifs tt)
    (hk : ∀ (s : Shared) (H : Hp) (C : Addr) (cl : List (Str × Addr)) (fp : List Addr), PE (X.blk s H scope (compEnvC scope cl C X.env) fp) kx tk) (he : ∀ (s : Shared) (H : Hp) (C : Addr) (cl : List (Str × Addr)) (fp : List Addr), PE (X.blk s H scope (compEnvC scope cl C X.env) fp) vx tv) (hs : ∀ x, foldedSetIterable iter X.env x = pure x)
    (hi1 : ∀ (s : Shared) (H : Hp) (C : Addr) (cl : List (Str × Addr)) (fp : List Addr), PI (X.blk s H scope (compEnvC scope cl C X.env) fp) tg1 iter1 wi1)
    (hg1 : ∀ (s : Shared) (H : Hp) (C : Addr) (cl : List (Str × Addr)) (fp : List Addr), PG (X.blk s H scope (compEnvC scope cl C X.env) fp) tg1 g1)
    (ht1 : ∀ (s : Shared) (H : Hp) (C : Addr) (cl : List (Str × Addr)) (fp : List Addr), PTs (X.blk s H scope (compEnvC scope cl C X.env) fp) ifs1 tt1)
    (hs1 : ∀ env x, foldedSetIterable iter1 env x = pure x)
    (h : tDcT2 wi g tt wi1 g1 tt1 tk tv (own.map (·.2)) vs1 σ H Q)
    (hRR : ∀ D C s' m H', Inv X pins σ H' s' → Q (.ref D) H' → s'.heap.Ns C m → FpOk X pins H' C → compPost (model X.prog X.w) X.A X.xe use Qf (.ref D) C (.ok .next) s') :
    wpAny (model X.prog X.w) X.A (comprehension (.DictComp kx vx [⟨tg, iter, ifs, 0⟩, ⟨tg1, iter1, ifs1, 0⟩] scope pos) scope X.env pos' newDict false (eval iter X.env) use) Qf X.xe s := by
  have hfree : ∀ y ∈ scope.names, y.2 = .free → ∃ c, X.env.cells.lookup y.1 = some c := fun y hy e => by
    rcases ok.free y hy e with k | k
    · exact I.ok.has _ (.inl k)
    · exact I.ok.has _ (.inr k)
  refine wpAny_comprehension_free (use := use) rfl hs (closure_ok hfree) ok.kind (fun y hy e => by rw [ok.uniq y hy, e])
    (thn (hi.run pins s σ H _ I h) fun xv s1 hx => thn hx fun itv s2 h2 => ?_)
  obtain ⟨it, fp, tn, J, H2, e, I2, T, st2, f2, q⟩ := h2
  subst e
  refine wpAny_newObj_type (newEnv_comp ?_)
  generalize hD : s2.heap.objs.size = D
  have hDn : H2 D = none := I2.hok.fresh (Nat.le_of_eq hD)
  obtain ⟨W, ⟨m0, w0⟩, turn⟩ := q D hDn
  -- the new list
  generalize hs3 : ({ s2 with heap := s2.heap.push { cls := .type "dict", data := .dict #[] } } : Shared) = s3
  have I3 : Inv X pins σ (upd H2 D (.dT [])) s3 := by
    rw [← hs3]
    refine I2.laid (t' := s2.toks) (fun b o e => Heap.get?_push_of_some _ e) (Nat.le_of_eq hD) ?_
    rw [← hD]
    exact dt_empty s2.heap I2.big
  have h3 : s3.heap = s2.heap.push { cls := .type "dict", data := .dict #[] } := by rw [← hs3]
  have sz : ∀ b ∈ fp, b < s2.heap.objs.size := fun b hb => by
    obtain ⟨o, e, _⟩ := T.obj _ _ st2 b hb
    exact Heap.lt_size e
  have f3 : ∀ b ∈ fp, FpOk X pins (upd H2 D (.dT [])) b ∧ b < s3.heap.objs.size := fun b hb => by
    have hlt := sz b hb
    refine ⟨⟨?_, (f2 b hb).2⟩, by rw [h3, Heap.size_push]; exact Nat.lt_succ_of_lt hlt⟩
    rw [upd_ne (by rw [← hD]; exact Nat.ne_of_lt hlt)]
    exact (f2 b hb).1
  have st3 : tn 0 s3.heap := T.keep _ _ _ st2 fun b _ o e => by rw [h3]; exact Heap.get?_push_of_some _ e
  have I4 := block_start I3 ok hN f3
  have pg := hg s3 (upd H2 D (.dT [])) s3.heap.objs.size (cellsFrom (s3.heap.objs.size + 1) scope.names (cloFrom X.env.cells scope.names [])) fp
  have pt := ht s3 (upd H2 D (.dT [])) s3.heap.objs.size (cellsFrom (s3.heap.objs.size + 1) scope.names (cloFrom X.env.cells scope.names [])) fp
  have pk := hk s3 (upd H2 D (.dT [])) s3.heap.objs.size (cellsFrom (s3.heap.objs.size + 1) scope.names (cloFrom X.env.cells scope.names [])) fp
  have pe := he s3 (upd H2 D (.dT [])) s3.heap.objs.size (cellsFrom (s3.heap.objs.size + 1) scope.names (cloFrom X.env.cells scope.names [])) fp
  have pi1 := hi1 s3 (upd H2 D (.dT [])) s3.heap.objs.size (cellsFrom (s3.heap.objs.size + 1) scope.names (cloFrom X.env.cells scope.names [])) fp
  have pg1 := hg1 s3 (upd H2 D (.dT [])) s3.heap.objs.size (cellsFrom (s3.heap.objs.size + 1) scope.names (cloFrom X.env.cells scope.names [])) fp
  have pt1 := ht1 s3 (upd H2 D (.dT [])) s3.heap.objs.size (cellsFrom (s3.heap.objs.size + 1) scope.names (cloFrom X.env.cells scope.names [])) fp
  show codeAny _ _ (.compStart (.DictComp kx vx [⟨tg, iter, ifs, 0⟩, ⟨tg1, iter1, ifs1, 0⟩] scope pos) 0 (.ref it) (.ref D) (compEnvC scope (cellsFrom (s3.heap.objs.size + 1) scope.names (cloFrom X.env.cells scope.names [])) s3.heap.objs.size X.env)) (compPost (model X.prog X.w) X.A X.xe use Qf (.ref D) s3.heap.objs.size) { s3 with heap := pushCells (s3.heap.push { cls := .type "dict", data := .dict #[] }) scope.names }
  have nfp : ∀ b ∈ fp, (upd H2 D (.dT [])) b = none := fun b hb => (f3 b hb).1.1
  generalize hce : compEnvC scope (cellsFrom (s3.heap.objs.size + 1) scope.names (cloFrom X.env.cells scope.names [])) s3.heap.objs.size X.env = ce at I4 pg pt pk pe pi1 pg1 pt1 ⊢
  have cL : ce.locals = s3.heap.objs.size := by subst hce; rfl
  generalize hH3 : upd H2 D (.dT []) = H3 at I3 I4 pg pt pk pe pi1 pg1 pt1 w0 nfp f3
  generalize hs4 : ({ s3 with heap := pushCells (s3.heap.push { cls := .type "dict", data := .dict #[] }) scope.names } : Shared) = s4 at I4 ⊢
  have st4 : tn 0 s4.heap := T.keep _ _ _ st3 fun b _ o e => by rw [← hs4]; exact pushCells_keeps _ _ _ _ (Heap.get?_push_of_some _ e)
  have stat : ∀ {σ' : St} {H' : Hp} {s' : Shared}, Inv (X.blk s3 H3 scope ce fp) [] σ' H' s' → (∀ b ∈ fp, H' b = none) → ∀ b ∈ fp, FpOk (X.blk s3 H3 scope ce fp) [] H' b := fun {σ' H' s'} I' hn b hb =>
    ⟨hn b hb, (I'.ok.exf b hb).1, I'.ok.exfs b hb, .inl hb, fun x c e => (I'.ok.exf b hb).2 x c e, fun p hp => absurd (show p ∈ ([] : List (Addr × Obj)) ++ [] from hp) (by simp)⟩
  have loop : codeAny (model X.prog X.w) X.A (.compLoop (.DictComp kx vx [⟨tg, iter, ifs, 0⟩, ⟨tg1, iter1, ifs1, 0⟩] scope pos) 0 (.ref it) (.ref D) ce) (compPost (model X.prog X.w) X.A X.xe use Qf (.ref D) s3.heap.objs.size) s4 := by
    refine compLoopD2_out (hs1 ce) (fun n s' => ∃ i H', Inv (X.blk s3 H3 scope ce fp) [] (wipe σ (own.map (·.2))) H' s' ∧ tn i s'.heap ∧ (∀ b ∈ fp, H' b = none) ∧ W i n H') ?_ m0 ⟨0, H3, I4, st4, nfp, w0⟩
    rintro n s5 ⟨i, H5, I5, st5, n5, w5⟩
    rcases turn i n H5 w5 with ⟨stop, qq⟩ | ⟨go, Nx, hNx, step⟩
    · have td := T.done (X.blk s3 H3 scope ce fp) rfl rfl rfl hc i [] s5 _ H5 (fun _ _ => False) I5 (stat I5 n5) st5 stop
      refine thnF td fun r s6 ⟨hr, I6⟩ => ?_
      subst hr
      -- back in the def's context
      have I7 : Inv X pins σ H5 s6 := I3.call' (ch := fp) I6.os I6.base I6.hok I6.bare fun b hb => ⟨(f3 b hb).1.2.2.2.1, (f3 b hb).1.2.1, (f3 b hb).1.2.2.2.2.1, (f3 b hb).1.2.2.2.2.2⟩
      have nC : H5 s3.heap.objs.size = none := by
        have z : H5 ce.locals = none := I6.free
        rw [cL] at z
        exact z
      obtain ⟨m, hn, _⟩ := I6.loc
      have hn : s6.heap.Ns ce.locals m := hn
      rw [cL] at hn
      exact hRR D s3.heap.objs.size s6 m H5 I7 qq hn (I3.fpOk (Nat.le_refl _) nC)
    · have ti := T.item (X.blk s3 H3 scope ce fp) rfl rfl rfl hc i [] s5 _ H5 (fun _ _ => False) I5 (stat I5 n5) st5 go
      refine thnF ti fun r s6 ⟨u, hr, h6⟩ => ?_
      subst hr
      refine thnF h6 fun _ s7 ⟨x, H7, I7, r7, y7, st7, n7⟩ => ?_
      have I7' := I7.pinned (stat I7 n7) (T.obj _ _ st7)
      refine thnF (pg.run _ s7 _ H7 x u _ I7' r7 (step x H7 y7)) fun _ s8 ⟨σ8, H8, I8, hw8, q8⟩ => ?_
      refine thnF (pt.run _ s8 σ8 H8 _ I8 q8) fun b s9 ⟨H9, I9, q9⟩ => ?_
      -- the turn's end, from any slots that know what the block knew at its start
      have fin : ∀ {σ9 : St} {s' : Shared} {H' : Hp}, Inv (X.blk s3 H3 scope ce fp) ([] ++ pinsAt fp s7.heap) σ9 H' s' → (wipe σ (own.map (·.2))).length = σ9.length → (∀ (j : Nat) v, (wipe σ (own.map (·.2)))[j]? = some (some v) → σ9[j]? = some (some v)) → Nx H' →
          ∃ m, m < n ∧ ∃ i H', Inv (X.blk s3 H3 scope ce fp) [] (wipe σ (own.map (·.2))) H' s' ∧ tn i s'.heap ∧ (∀ b ∈ fp, H' b = none) ∧ W i m H' := fun {σ9 s' H'} I' hl hk nx => by
        obtain ⟨m', hm, w'⟩ := hNx H' nx
        have pin' : ∀ b ∈ fp, ∀ o, s7.heap.get? b = some o → s'.heap.get? b = some o ∧ H' b = none := fun b hb o e =>
          let z := I'.pin (b, o) (List.mem_append_right _ (List.mem_append_right _ (mem_pinsAt hb e)))
          ⟨z.1, z.2.1⟩
        refine ⟨m', hm, i + 1, H', (I'.unpinned (pins := [])).weak hl hk, T.keep _ _ _ st7 fun b hb o e => (pin' b hb o e).1, fun b hb => ?_, w'⟩
        obtain ⟨o, e, _⟩ := T.obj _ _ st7 b hb
        exact (pin' b hb o e).2
      have hl8 : (wipe σ (own.map (·.2))).length = σ8.length := by rw [← hw8, wipe_length]
      have hk8 : ∀ (j : Nat) v, (wipe σ (own.map (·.2)))[j]? = some (some v) → σ8[j]? = some (some v) := fun j v e => by
        rw [← hw8] at e
        exact (wipe_some e).1
      have hk9 : ∀ (j : Nat) v, (wipe σ (own.map (·.2)))[j]? = some (some v) → (wipe σ8 vs1)[j]? = some (some v) := fun j v e => by
        rw [← hw8] at e
        obtain ⟨e1, e2⟩ := wipe_some e
        rw [wipe_out fun z => e2 (hv j z)]
        exact e1
      cases b with
      | false =>
        simp only [Bool.false_eq_true, if_false] at q9 ⊢
        exact fin I9 hl8 hk8 q9
      | true =>
        simp only [if_true] at q9 ⊢
        refine thnF (pi1.run _ s9 σ8 H9 _ I9 q9) fun xv s10 hx => thnF hx fun itv s11 h11 => ?_
        obtain ⟨it1, fp1, tn1, J1, H11, e1, I11, T1, st11, f11, W1, ⟨m1, w1⟩, turn1⟩ := h11
        subst e1
        -- the inner loop
        have stat1 : ∀ {H' : Hp}, (∀ b ∈ fp1, H' b = none) → ∀ b ∈ fp1, FpOk (X.blk s3 H3 scope ce fp) ([] ++ pinsAt fp s7.heap) H' b := fun hn b hb => ⟨hn b hb, (f11 b hb).2⟩
        have loop1 : codeAny (model X.prog X.w) X.A (.compLoop (.DictComp kx vx [⟨tg, iter, ifs, 0⟩, ⟨tg1, iter1, ifs1, 0⟩] scope pos) 1 (.ref it1) (.ref D) ce)
            (fun r s' => match r with
              | .ok _ => ∃ m, m < n ∧ ∃ i H', Inv (X.blk s3 H3 scope ce fp) [] (wipe σ (own.map (·.2))) H' s' ∧ tn i s'.heap ∧ (∀ b ∈ fp, H' b = none) ∧ W i m H'
              | .error _ => False) s11 := by
          refine compLoopD2_in (fun k s' => ∃ j H', Inv (X.blk s3 H3 scope ce fp) ([] ++ pinsAt fp s7.heap) (wipe σ8 vs1) H' s' ∧ tn1 j s'.heap ∧ (∀ b ∈ fp1, H' b = none) ∧ W1 j k H') ?_ m1 ⟨0, H11, I11.weak (wipe_length _ _) (fun j v e => (wipe_some e).1), st11, fun b hb => (f11 b hb).1, w1⟩
          rintro k s12 ⟨j, H12, I12, st12, n12, w12⟩
          rcases turn1 j k H12 w12 with ⟨stop1, nx1⟩ | ⟨go1, Nx1, hNx1, step1⟩
          · refine thnF (T1.done (X.blk s3 H3 scope ce fp) rfl rfl rfl hc j _ s12 (wipe σ8 vs1) H12 (fun _ _ => False) I12 (stat1 n12) st12 stop1) fun r s13 ⟨hr, I13⟩ => ?_
            subst hr
            exact fin I13 (hl8.trans (wipe_length σ8 vs1).symm) hk9 nx1
          · refine thnF (T1.item (X.blk s3 H3 scope ce fp) rfl rfl rfl hc j _ s12 (wipe σ8 vs1) H12 (fun _ _ => False) I12 (stat1 n12) st12 go1) fun r s13 ⟨u1, hr, h13⟩ => ?_
            subst hr
            refine thnF h13 fun _ s14 ⟨x1, H14, I14, r14, y14, st14, n14⟩ => ?_
            have I14' := I14.pinned (stat1 n14) (T1.obj _ _ st14)
            refine thnF (pg1.run _ s14 (wipe σ8 vs1) H14 x1 u1 _ I14' r14 (step1 x1 H14 y14)) fun _ s15 ⟨σ15, H15, I15, hw15, q15⟩ => ?_
            refine thnF (pt1.run _ s15 σ15 H15 _ I15 q15) fun b1 s16 ⟨H16, I16, q16⟩ => ?_
            have fin1 : ∀ {s' : Shared} {H' : Hp}, Inv (X.blk s3 H3 scope ce fp) (([] ++ pinsAt fp s7.heap) ++ pinsAt fp1 s14.heap) σ15 H' s' → Nx1 H' → ∃ m, m < k ∧ ∃ j H', Inv (X.blk s3 H3 scope ce fp) ([] ++ pinsAt fp s7.heap) (wipe σ8 vs1) H' s' ∧ tn1 j s'.heap ∧ (∀ b ∈ fp1, H' b = none) ∧ W1 j m H' := fun {s' H'} I' nx => by
              obtain ⟨m', hm, w'⟩ := hNx1 H' nx
              have pin' : ∀ b ∈ fp1, ∀ o, s14.heap.get? b = some o → s'.heap.get? b = some o ∧ H' b = none := fun b hb o e =>
                let z := I'.pin (b, o) (List.mem_append_right _ (List.mem_append_right _ (mem_pinsAt hb e)))
                ⟨z.1, z.2.1⟩
              refine ⟨m', hm, j + 1, H', I'.unpinned.weak (by rw [← hw15, wipe_length]) (fun j v e => by rw [← hw15] at e; exact (wipe_some e).1), T1.keep _ _ _ st14 fun b hb o e => (pin' b hb o e).1, fun b hb => ?_, w'⟩
              obtain ⟨o, e, _⟩ := T1.obj _ _ st14 b hb
              exact (pin' b hb o e).2
            cases b1 with
            | false =>
              simp only [Bool.false_eq_true, if_false] at q16 ⊢
              exact fin1 I16 q16
            | true =>
              simp only [if_true] at q16 ⊢
              refine thnF (pk.run _ s16 σ15 H16 _ I16 q16) fun z s17 ⟨yk, H17, I17, r17, q17⟩ => ?_
              refine thnF (pe.run _ s17 σ15 H17 _ I17 q17) fun z2 s18 ⟨yv, H18, I18, r18, kvs, k2, b2, ek, eb, hD18, hz18, nx⟩ => ?_
              subst ek
              exact d_dictSetT (X := X.blk s3 H3 scope ce fp) (show X.A.units < cLine from by omega) I18 hD18 eb hz18 r17 r18 fun s19 I19 => fin1 I19 nx
        exact compStartD1_ok loop1 (T1.self X.A 0 _ _ _ st11 loop1)
  exact codeAny_compStart_dict loop (T.self X.A 0 _ _ _ st4 loop)
/-- as a value -/
theorem pe_dcT2 {kx vx tg iter tg1 iter1 : Expr} {ifs ifs1 : List Expr} {scope : Scope} {own : List (Str × Nat)} {vs1 : List Nat} {pos : Pos} {wi wi1 : TI} {g g1 : TG} {tt tt1 : TT} {tk tv : TE} (hu : X.A.units + 2 < cLine) (hc : X.calm = true) (hN : X.N.Nodup) (hi : PI X tg iter wi) (ok : BlkOk X.N X.env.scope scope own) (hv : ∀ i ∈ vs1, i ∈ own.map (·.2))
    (hg : ∀ (s : Shared) (H : Hp) (C : Addr) (cl : List (Str × Addr)) (fp : List Addr), PG (X.blk s H scope (compEnvC scope cl C X.env) fp) tg g) (ht : ∀ (s : Shared) (H : Hp) (C : Addr) (cl : List (Str × Addr)) (fp : List Addr), PTs (X.blk s H scope (compEnvC scope cl C X.env) fp) ifs tt)
    (hi1 : ∀ (s : Shared) (H : Hp) (C : Addr) (cl : List (Str × Addr)) (fp : List Addr), PI (X.blk s H scope (compEnvC scope cl C X.env) fp) tg1 iter1 wi1)
    (hg1 : ∀ (s : Shared) (H : Hp) (C : Addr) (cl : List (Str × Addr)) (fp : List Addr), PG (X.blk s H scope (compEnvC scope cl C X.env) fp) tg1 g1) (ht1 : ∀ (s : Shared) (H : Hp) (C : Addr) (cl : List (Str × Addr)) (fp : List Addr), PTs (X.blk s H scope (compEnvC scope cl C X.env) fp) ifs1 tt1)
    (hk : ∀ (s : Shared) (H : Hp) (C : Addr) (cl : List (Str × Addr)) (fp : List Addr), PE (X.blk s H scope (compEnvC scope cl C X.env) fp) kx tk) (he : ∀ (s : Shared) (H : Hp) (C : Addr) (cl : List (Str × Addr)) (fp : List Addr), PE (X.blk s H scope (compEnvC scope cl C X.env) fp) vx tv) (hs : ∀ x, foldedSetIterable iter X.env x = pure x := by intro _; rfl) (hs1 : ∀ env x, foldedSetIterable iter1 env x = pure x := by intro _ _; rfl) :
    PE X (.DictComp kx vx [⟨tg, iter, ifs, 0⟩, ⟨tg1, iter1, ifs1, 0⟩] scope pos) (tDcT2 wi g tt wi1 g1 tt1 tk tv (own.map (·.2)) vs1) := by
  refine ⟨fun pins s σ H Q I h => ?_⟩
  rw [arm_eval_DictComp]
  refine dcT2_core hu hc hN I hi ok hv hg ht hk he hs hi1 hg1 ht1 hs1 h fun D C s' m H' I' q hn f => ⟨m, hn, fun h'' sb => ?_⟩
  obtain ⟨f0, f1, f2, f3, f4, f5⟩ := f
  exact ⟨.ref D, H', I'.turned (t' := s'.toks) (fun b o hb e => (sb.2 b hb).trans e) f0 f1 f3 f4 f5, rfl, q⟩
end
end L2.DT2
set_option Elab.async false
set_option linter.all false
set_option maxRecDepth 100000
set_option maxHeartbeats 4000000
/-! # xs[:0:-1]; d != {} where d is not empty -/
namespace L2.RV
open PySem PySem.Spec PyProof.Rows L2
theorem rv0_bounds (n : Nat) (h : 0 < n) : sliceBounds none (some 0) (some (-1)) n = ((n : Int) - 1, 0, -1) := by
  unfold sliceBounds
  simp
  omega
theorem rv0_range (m : Nat) : sliceRange (((m + 1 : Nat) : Int) - 1) 0 (-1) = (List.range m).map fun k => m - k := by
  unfold sliceRange
  have h1 : ¬ ((-1 : Int) > 0) := by decide
  by_cases h : ((m + 1 : Nat) : Int) - 1 > 0
  · have e : (((m + 1 : Nat) : Int) - 1 - 0 - -1 - 1) / (- -1) = (m : Int) := by
      rw [show (- -1 : Int) = 1 by decide, Int.ediv_one]
      omega
    simp only [h1, if_false, h, if_true, e, Int.toNat_natCast]
    apply List.map_congr_left
    intro k hk
    have := List.mem_range.mp hk
    omega
  · have e : m = 0 := by omega
    subst e
    simp
theorem rv0_pick (items : Array Value) (h : 0 < items.size) : slicePick items none (some 0) (some (-1)) = (items.toList.drop 1).reverse.toArray := by
  unfold slicePick
  rw [rv0_bounds _ h]
  obtain ⟨m, hm⟩ : ∃ m, items.size = m + 1 := ⟨items.size - 1, by omega⟩
  show ((sliceRange ((items.size : Int) - 1) 0 (-1)).filterMap (items[·]?)).toArray = _
  rw [hm, rv0_range]
  congr 1
  have hl : items.toList.length = m + 1 := by rw [Array.length_toList, hm]
  have e1 : ((List.range m).map fun k => m - k).filterMap (items[·]?) = (List.range m).map fun k => items.toList.getD (m - k) .none := by
    rw [List.filterMap_map]
    have : ∀ l : List Nat, (∀ k ∈ l, k < m) → l.filterMap ((items[·]?) ∘ fun k => m - k) = l.map fun k => items.toList.getD (m - k) .none := fun l => by
      induction l with
      | nil => exact fun _ => rfl
      | cons k r ih =>
        intro hk
        have hk0 := hk k (List.mem_cons_self ..)
        have e : (items[m - k]?) = some (items.toList.getD (m - k) .none) := by
          rw [← Array.getElem?_toList, List.getD_eq_getElem?_getD, List.getElem?_eq_getElem (by omega)]
          rfl
        rw [List.filterMap_cons_some (by show (items[m - k]?) = _; exact e), List.map_cons, ih fun x hx => hk x (List.mem_cons_of_mem _ hx)]
    exact this _ fun k hk => List.mem_range.mp hk
  rw [e1]
  apply List.ext_getElem
  · simp [hl]
  · intro i h1 h2
    rw [List.getElem_map, List.getElem_range, List.getElem_reverse, List.getElem_drop]
    rw [List.length_map, List.length_range] at h1
    rw [List.getD_eq_getElem?_getD, List.getElem?_eq_getElem (by omega)]
    have e3 : 1 + ((items.toList.drop 1).length - 1 - i) = m - i := by
      rw [List.length_drop, hl]
      omega
    simp only [e3]
    rfl
theorem vals_drop1 : ∀ {vs : List V} {us : List Value}, Vals vs us → Vals (vs.drop 1) (us.drop 1)
  | _, _, .nil => .nil
  | _, _, .cons r t => t
section
variable {X : Cx}
def tRev0 (K : PySem.W.Frag) (te : TE) : TE := fun σ H Q => te σ H fun x H1 => ∃ a xs, x = .ref a ∧ SqL K H1 a xs ∧ xs ≠ [] ∧ ∀ p, H1 p = none → Q (.ref p) (upd H1 p (.lst (xs.drop 1).reverse))
theorem pe_rev0 {e : Expr} {te : TE} {k k0 : Nat} {p0 p1 p2 p3 pos : Pos} (he : PE X e te) : PE X (.Subscript e (.Slice none (some (.Constant (.int 0) k0 p0)) (some (.UnaryOp .USub (.Constant (.int 1) k p1) p2)) p3) pos) (tRev0 X.K te) := by
  refine ⟨fun pins s σ H Q I h => ?_⟩
  refine Subscript_ (thn (he.run pins s σ H _ I h) fun v s1 ⟨x, H1, I1, r1, q1⟩ => ?_)
  obtain ⟨a, xs, ex, hx, hne, q⟩ := q1
  subst ex
  cases r1
  have hst : PO X (some (.UnaryOp .USub (.Constant (.int 1) k p1) p2)) (tPart (tUn (rU fun i => .int (-i)) (tC (.int 1)))) := po_some (pe_un un_neg pe_int)
  have hz0 : PO X (some (.Constant (.int 0) k0 p0)) (tPart (tC (.int 0))) := po_some pe_int
  refine wpAny_Slice (thn (po_none.run pins s1 σ H1 (fun o H2 => o = none ∧ H2 = H1) I1 ⟨rfl, rfl⟩) fun vl s2 ⟨l, H2, I2, pl, el, e2⟩ => ?_)
  subst el e2
  refine thn (hz0.run pins s2 σ H2 (fun o H3 => o = some 0 ∧ H3 = H2) I2 ⟨0, rfl, rfl, rfl⟩) fun vu s3 ⟨u, H3, I3, pu, eu, e3⟩ => ?_
  subst eu e3
  refine thn (hst.run pins s3 σ H3 (fun o H4 => o = some (-1) ∧ H4 = H3) I3 ⟨1, rfl, -1, rfl, rfl, rfl⟩) fun vs s4 ⟨o, H4, I4, ps, eo, e4⟩ => ?_
  subst eo e4
  have I5 : Inv X pins σ H4 { s4 with heap := s4.heap.push { cls := .type "slice", data := .fields #[vl, vu, vs] } } := I4.kept (t' := s4.toks) fun b ob q => Heap.get?_push_of_some _ q
  obtain ⟨its, r, ht, hz⟩ := I5.list hx
  have hlen := r.length
  show wpAny (model X.prog X.w) X.A (subscriptTail e (.Slice none (some (.Constant (.int 0) k0 p0)) (some (.UnaryOp .USub (.Constant (.int 1) k p1) p2)) p3) (.ref a) (.ref s4.heap.objs.size)) (EP X pins σ Q) X.xe { s4 with heap := s4.heap.push { cls := .type "slice", data := .fields #[vl, vu, vs] } }
  refine tail_any (ops := [.ref a, .ref s4.heap.objs.size]) ht.isList.typeIs (PySem.slot_list_getitem.lookup) ?_ (by with_unfolding_all rfl)
  refine wpAny_getItem_list_slice ht.isList (Heap.IsSliceOf.new _ vl vu vs) pl pu ps (by decide) ?_ (by rw [List.size_toArray]; omega)
  have hpos : 0 < its.toArray.size := by
    rw [List.size_toArray, ← hlen]
    exact List.length_pos_iff.mpr hne
  rw [rv0_pick _ hpos]
  refine ⟨.ref _, _, I5.laid (t' := s4.toks) (o := .lst (xs.drop 1).reverse) (fun b ob q => Heap.get?_push_of_some _ q) (Nat.le_refl _) ?_, rfl, q _ (I5.hok.fresh (Nat.le_refl _))⟩
  refine ⟨by rw [List.length_reverse, List.length_drop]; omega, _, 0, (vals_drop1 r).reverse, Heap.get?_push_size _ rfl⟩
end
end L2.RV
set_option Elab.async false
set_option linter.all false
set_option maxRecDepth 100000
set_option maxHeartbeats 4000000
/-! # d != {}: two dicts with tuple keys of other sizes -/
namespace L2.DT2
open PySem PySem.Spec PyProof.Rows L2 PySem.W PySem.Calls
section
variable {prog : Program} {w : World} {A : Around} {E : Value → Shared → Prop} {s : Shared}
theorem samePairs_no {nm : String} {a b : Addr} {oa ob : Obj} {es es' : Array DictEntry} {ep ep' : Nat} {Q : Bool → Shared → Prop} (ha : (a == sysModules) = false) (hb : (b == sysModules) = false) (hoa : s.heap.get? a = some oa) (hda : oa.data = .dict es ep) (hob : s.heap.get? b = some ob) (hdb : ob.data = .dict es' ep')
    (hsz : es.size ≠ es'.size) (h : Q false s) : wpAny (model prog w) A (Builtin.Dict.samePairs nm a b) Q E s := by
  unfold Builtin.Dict.samePairs Builtin.Dict.showsAll
  rw [if_neg (show ¬ (a == sysModules) = true by rw [ha]; exact Bool.false_ne_true), if_neg (show ¬ (b == sysModules) = true by rw [hb]; exact Bool.false_ne_true)]
  refine wpAny_bind (wpAny_pure (wpAny_bind (wpAny_pure ?_)))
  refine wpAny_bind (wpAny_dictEntries hoa hda ?_)
  dsimp only
  refine wpAny_bind (wpAny_dictEntries hob hdb ?_)
  rw [if_pos (by simpa using hsz)]
  exact wpAny_bind (wpAny_rule (wpAny_pure h))
theorem ne_sizes {a b : Addr} {oa ob : Obj} {es es' : Array DictEntry} {ep ep' : Nat} {Q : Value → Shared → Prop} (ha : (a == sysModules) = false) (hb : (b == sysModules) = false) (hoa : s.heap.get? a = some oa) (ta : s.TypeIs (.ref a) "dict") (hda : oa.data = .dict es ep) (hob : s.heap.get? b = some ob) (tb : s.TypeIs (.ref b) "dict") (hdb : ob.data = .dict es' ep')
    (hsz : es.size ≠ es'.size) (hu : A.units < cLine) (h : Q (.bool true) s) : wpAny (model prog w) A (compareOp .NotEq (.ref a) (.ref b)) Q E s := by
  refine wpAny_richCompare_same_room (op := .NotEq) ta tb PySem.F.slot_dict_ne (wpAny_call_entry PySem.F.slot_dict_ne ta PySem.F.entry_dict_ne ?_ (PySem.F.args_dict_ne_2 _ _)) hu
  show wpAny _ _ (Builtin.Dict.dictSlotArgs "__ne__" ⟨[.ref a, .ref b], []⟩ >>= _) _ _ s
  refine wpAny_bind ?_
  unfold Builtin.Dict.dictSlotArgs
  refine wpAny_bind (wpAny_notOrdered_dict ta ?_)
  show wpAny _ _ (pure (Value.ref a, Value.ref b)) _ _ s
  refine wpAny_pure ?_
  refine wpAny_bind (wpAny_isInstance (T := "dict") tb PySem.F.sub_dict_dict ?_)
  simp only [Bool.not_true, Bool.false_eq_true, if_false]
  refine wpAny_bind (wpAny_pure (wpAny_bind (wpAny_pure ?_)))
  refine wpAny_bind (samePairs_no ha hb hoa hda hob hdb hsz ?_)
  refine wpAny_pure ⟨_, rfl, ?_, ?_⟩
  · exact fun x => nomatch x
  · simpa using h
end
section
variable {X : Cx}
def rNeT : R2 := fun x y H Q => ∃ a b ks ls, x = .ref a ∧ y = .ref b ∧ H a = some (.dT ks) ∧ H b = some (.dT ls) ∧ ks.length ≠ ls.length ∧ Q (.bl true) H
theorem op_neT (hu : X.A.units < cLine) : OpR X (compareOp .NotEq) rNeT := by
  intro pins s σ H x y v u Q I rx ry h
  obtain ⟨a, b, ks, ls, rfl, rfl, ea, eb, hlen, q⟩ := h
  obtain rfl : v = Value.ref a := rx
  obtain rfl : u = Value.ref b := ry
  obtain ⟨_, ya, xa, ra, da⟩ := dt_of I.hok ea
  obtain ⟨_, yb, xb, rb, db⟩ := dt_of I.hok eb
  have l1 := Paired.length ra
  have l2 := Paired.length rb
  have ta := da.typeIs
  have tb := db.typeIs
  obtain ⟨oa, es, ep, h1, _, h3, h4, _⟩ := da
  obtain ⟨ob, es', ep', g1, _, g3, g4, _⟩ := db
  have z1 : es.size = ks.length := by rw [← Array.length_toList, h4, List.length_map, l1]
  have z2 : es'.size = ls.length := by rw [← Array.length_toList, g4, List.length_map, l2]
  exact ne_sizes ya yb h1 ta h3 g1 tb g3 (by rw [z1, z2]; exact hlen) hu ⟨.bl true, H, I, rfl, q⟩
end
end L2.DT2
set_option Elab.async false
set_option linter.all false
set_option maxRecDepth 100000
set_option maxHeartbeats 4000000
/-! # An own exception class over a built-in one whose __init__ stores its one argument under its own name (skel/42 turned to any base) -/
namespace ExW
open PySem PySem.W PySem.Calls PyProof.Rows PySem.HandSPX
open Builtin.ObjectAttr
/-! ### the text of __init__ -/
def iA (a : Str) (p1 p2 : Pos) : Arguments := { posonlyargs := [], args := [{ arg := "self", annotation := none, pos := p1 }, { arg := a, annotation := none, pos := p2 }], vararg := none, kwonlyargs := [], kw_defaults := [], kwarg := none, defaults := [] }
def iB (a : Str) (q1 q2 q3 q4 : Pos) : List Stmt := [.Assign [.Attribute (.Name "self" q1) a q2] (.Name a q3) q4]
def iS (a : Str) : Scope := { kind := .function, names := [(PySem.Str.ofString "self", .local), (a, .local)], isGenerator := false, isCoroutine := false, more := [] }
/-- what the written part says of the class at C (its name x, its field a) and of its __init__ -/
def exB (K : Frag) (C : Addr) (a : Str) (bmB : List Value) (newId : String) : Bool :=
  excInitIn K C bmB newId && (excOver K C bmB && (hasDictIn K C && (decide (findIn K (.ref C) "__setattr__" = some (some (.builtin "object.__setattr__"))) && (decide (findIn K (.ref C) a = some none) && (keepIn K (.ref C) &&
  (decide (subIn K (.ref C) (.type "BaseException") = some true) && (decide (typeIn K (.ref C) = some (.type "type")) && (decide (exmOne K (.ref C) (.ref C) = some true) && decide (typeIn K (.ref (He.ma K C "__init__")) = some (.type "function"))))))))))
structure ExTxt (K : Frag) (mg : Str → Option Value) (C fI : Addr) (x a : Str) (bmB : List Value) (newId : String) : Prop where
  gC : mg x = some (.ref C)
  ei : excInitIn K C bmB newId = true
  ov : excOver K C bmB = true
  hd : hasDictIn K C = true
  sa : findIn K (.ref C) "__setattr__" = some (some (.builtin "object.__setattr__"))
  noN : findIn K (.ref C) a = some none
  kC : keepIn K (.ref C) = true
  exC : subIn K (.ref C) (.type "BaseException") = some true
  tyC : typeIn K (.ref C) = some (.type "type")
  te : exmOne K (.ref C) (.ref C) = some true
  tC : typeIn K (.ref fI) = some (.type "function")
  iC : findIn K (.ref C) "__init__" = some (some (.ref fI))
  fn : ∃ (oc : Value) (od : Option Addr) (dV kV doc pm : Value) (an : Option Addr) (cdv ct : Value) (osl : Array (Option Value)) (qual : Str) (p1 p2 q1 q2 q3 q4 : Pos),
    K.lookup fI = some ⟨oc, od, .func (fnOf "__init__" qual (iA a p1 p2) (iB a q1 q2 q3 q4) (iS a) dV kV doc pm an cdv ct), osl⟩ ∧ codeIn K cdv qual = true ∧ dV = .none
theorem one_size (v : Value) : [v].length ≤ sizeLine := by
  rw [sizeLine_eq]
  exact (by decide : 1 ≤ 16777216)
theorem ldC {M : Model} {s : Shared} {name : Str} {scope : Scope} {L a : Addr} {cd : Value} {m : Str → Option Value} {x : Str} {pos : Pos} {v : Value} {Q : Value → Shared → Prop} {A : Around} {E : Value → Shared → Prop} (hn : s.heap.Ns L m) (hv : m x = some v) (h : Q v s)
    (hk : scope.kind = .function) (hl : (envOfC name scope L a cd).kindOf x = some .local) (hd : (x == ("__debug__" : Str)) = false) :
    wpAny M A (eval (.Name x pos) (envOfC name scope L a cd)) Q E s := wpAny_Name (wpAny_loadName_local hk hl hn hv h) hd
/-- what __init__ leaves of a fresh exception at x -/
structure InitEnd (h h' : Heap) (x C dx t1 : Addr) (a : Str) (v : Value) : Prop where
  keep : ∀ b o, b ≠ x → h.get? b = some o → h'.get? b = some o
  obj : h'.get? x = some { cls := .ref C, dict := some dx, data := .fields #[.ref t1, .none, .none, .none, .bool false, .none] }
  dbig : h.objs.size ≤ dx
  dne : dx ≠ x
  ns : h'.Ns1 dx (fun y => if y = a then some v else none)
/-- a made exception -/
structure OwnMade (h h' : Heap) (e C d : Addr) (a : Str) (v : Value) : Prop where
  keep : ∀ b o, h.get? b = some o → h'.get? b = some o
  new : h.objs.size ≤ e
  obj : ∃ oe vs, h'.get? e = some oe ∧ oe.cls = .ref C ∧ oe.dict = some d ∧ oe.data = .fields vs ∧ vs[1]? = some .none
  dbig : h.objs.size ≤ d
  dne : d ≠ e
  ns : h'.Ns1 d (fun y => if y = a then some v else none)
section
variable {prog : Program} {w : World} {A : Around} {E : Value → Shared → Prop} {R : Result → Shared → Prop} {s : Shared} {K : Frag} {mg : Str → Option Value} {C fI : Addr} {x a : Str} {B newId initId : String} {bmB : List Value}
/-- object.__setattr__ on an exception that has no dict yet -/
theorem osa_new {name : Str} {tk : Tok} {v : Value} {xa : Addr} {fv : Array Value} (SF : StoreFacts B bmB "object.__setattr__" "object")
    (X : K.In s.heap) (hx : s.heap.get? xa = some { cls := .ref C, data := .fields fv }) (ov : excOver K C bmB = true) (hh : hasDictIn K C = true) (ha : findIn K (.ref C) name = some none)
    (hq : ∀ h' tk' dx, (∀ b o, b ≠ xa → s.heap.get? b = some o → h'.get? b = some o) → s.heap.objs.size ≤ dx → dx ≠ xa → h'.get? xa = some { cls := .ref C, dict := some dx, data := .fields fv } →
      h'.Ns1 dx (fun y => if y = name then some v else none) → R (.ok (.ret .none)) { s with heap := h', toks := tk' }) :
    codeAny (model prog w) A (.call (.builtin "object.__setattr__") ⟨[.ref xa, .str name tk, v], []⟩) R s := by
  have I : InstAt s.heap xa { cls := .ref C, data := .fields fv } C none := ⟨hx, rfl, rfl, trivial⟩
  have hxs : xa ≠ s.heap.objs.size := Nat.ne_of_lt (Heap.lt_size hx)
  refine osa_openX SF X I ov (r := none) (by unfold takerIn; rw [ha]; rfl) fun b => ?_
  show wpAny _ _ (storeInOwnDict (.ref xa) (.ref C) (.str name tk) name v b) _ _ _
  obtain ⟨cd, hcd, hhd⟩ : ∃ cd, clsIn K C = some cd ∧ cd.hasDict = true := by
    unfold hasDictIn at hh
    exact any_some hh
  have hcls : Looks (model prog w) s.heap (classData C) cd := looks_clsIn X hcd
  obtain ⟨nm, bs, mro, ns, qn, hd, sn, sb, ab, col, del⟩ := cd
  dsimp only at hhd
  subst hhd
  obtain ⟨hp, g, d, t, os⟩ := s
  unfold storeInOwnDict ownDictForStores
  repeat (first | with_reducible refine store_in_new ?_ ?_ | with_reducible refine wpAny_loadPart_at hx ?_ | with_reducible refine hcls.at ?_ | wp_step)
  · exact ⟨_, #[], _, (Heap.get?_update_ne _ _ _ _ hxs.symm).trans (Heap.get?_push_at rfl rfl), rfl, fun e he => absurd he (by simp), fun _ => rfl⟩
  · intro h' tk' hn' hs
    have hx1 : (hp.push { cls := .type "dict", data := .dict #[] }).get? xa = some { cls := .ref C, data := .fields fv } := Heap.get?_push_of_some _ hx
    refine hq h' tk' hp.objs.size (fun b o hb ho => ?_) (Nat.le_refl _) hxs.symm ?_ hn'
    · exact (hs.2 b (Nat.ne_of_lt (Heap.lt_size ho))).trans ((Heap.get?_update_ne _ _ _ _ hb).trans (Heap.get?_push_of_some _ ho))
    · exact (hs.2 xa hxs).trans (Heap.get?_update_self _ hx1 rfl)
theorem ex_init {p1 p2 : Pos} (T : ExTxt K mg C fI x "way" bmB newId) (SF : StoreFacts B bmB "object.__setattr__" "object")
    {xa t0 : Addr} {v : Value} (X : K.In s.heap) (hlim : s.heap.NoLimit) (hx : s.heap.get? xa = some (excO C t0)) (hroom : A.depth < recursionLimit)
    (hq : ∀ h' tk dx, InitEnd s.heap h' xa C dx t0 "way" v → R (.ok (.ret .none)) { s with heap := h', toks := tk }) :
    codeAny (model prog w) A (.call (.ref fI) ⟨[.ref xa, v], []⟩) R s := by
  obtain ⟨oc, od, dV, kV, doc, pm, an, cdv, ct, osl, qual, p1, p2, q1, q2, q3, q4, ho, hcd, hdv⟩ := T.fn
  subst hdv
  refine Att.call_fn (binds := [("self", .ref xa), ("way", v)]) X hlim ho hcd hroom (BindsTo.of_eq (by first | rfl | with_unfolding_all rfl)) (by first | rfl | decide | with_unfolding_all rfl) (fun s1 IC => ?_) rfl rfl rfl
  obtain ⟨h1, tk1, rfl⟩ := IC.toInCall.same
  have k : ∀ b o, s.heap.get? b = some o → h1.get? b = some o := IC.toInCall.keep
  have hn := IC.toInCall.ns
  have X1 : K.In h1 := X.keeps k
  have hx1 := k _ _ hx
  -- self.many = many
  show wpAny _ _ (execs _ _) _ _ _
  refine wpAny_execs_cons (plainObj_wpAny_Assign_Attribute ?_)
  refine ldC (v := v) hn (by first | rfl | with_unfolding_all rfl | kernel_rfl) (ldC (v := .ref xa) hn (by first | rfl | with_unfolding_all rfl | kernel_rfl) ?_ rfl rfl (by decide)) rfl rfl (by decide)
  refine set_plain X1 (ox := excO C t0) (od := none) ⟨hx1, rfl, rfl, trivial⟩ T.sa ?_
  refine osa_new SF X1 hx1 T.ov T.hd T.noN (fun h3 tk3 dx k3 dn dne hx3 hn3 => ?_)
  show wpAny _ _ (execs _ _) _ _ _
  have z : s.heap.objs.size < h1.objs.size := hn.lt
  exact wpAny_execs_nil (hq h3 tk3 dx ⟨fun b o hb e => k3 b o hb (k b o e), hx3, Nat.le_of_lt (Nat.lt_of_lt_of_le z dn), dne, hn3⟩)
theorem ex_made (T : ExTxt K mg C fI x "way" bmB newId) (FB : ExcBaseFacts B newId initId bmB) (SF : StoreFacts B bmB "object.__setattr__" "object") {v : Value} (X : K.In s.heap) (hlim : s.heap.NoLimit) (hroom : A.depth + 1 < recursionLimit)
    (hq : ∀ h' tk e d, OwnMade s.heap h' e C d "way" v → R (.ok (.ret (.ref e))) { s with heap := h', toks := tk }) :
    codeAny (model prog w) A (.call (.ref C) ⟨[v], []⟩) R s := by
  obtain ⟨nm, N, q, bs, bm, hdct, sn, sub, ab, col, dd, k0, k1, k2, k3, k5, hC, hT⟩ := excInit_of X T.ei
  obtain ⟨hp, g, dr, tk, os⟩ := s
  have k : ∀ b o, hp.get? b = some o → ((hp.push (kdv_tup [v])).push (excO C hp.objs.size)).get? b = some o := fun b o e => Heap.get?_push_of_some _ (Heap.get?_push_of_some _ e)
  have hget : ((hp.push (kdv_tup [v])).push (excO C hp.objs.size)).get? (hp.objs.size + 1) = some (excO C hp.objs.size) := by heap_get
  refine call_own FB hT hC (looks_findIn X T.iC) (fun self => bind_fn X self T.tC) (one_size v) ?_
  refine ex_init (p1 := ⟨0, 0, 0, 0⟩) (p2 := ⟨0, 0, 0, 0⟩) (s := ⟨(hp.push (kdv_tup [v])).push (excO C hp.objs.size), g, dr, tk, os⟩) T SF (X.keeps k) (hlim.keeps k) hget ?_ fun h' tk' dx ⟨k', hx, dn, dne, hns⟩ => ?_
  · show A.depth + 1 < recursionLimit
    exact hroom
  · have old : ∀ b o, hp.get? b = some o → h'.get? b = some o := fun b o e => k' b o (Nat.ne_of_lt (Nat.lt_succ_of_lt (Heap.lt_size e))) (k b o e)
    have z : hp.objs.size + 1 + 1 ≤ dx := by
      first
        | (simpa only [Heap.size_push] using dn)
        | exact dn
        | (have q := dn; rw [Heap.size_push, Heap.size_push] at q; exact q)
    exact ⟨rfl, hq h' tk' (hp.objs.size + 1) dx ⟨old, Nat.le_succ _, ⟨_, _, hx, rfl, rfl, rfl, rfl⟩, Nat.le_trans (Nat.le_trans (Nat.le_succ _) (Nat.le_succ _)) z, dne, hns⟩⟩
end
end ExW
namespace L2
open PySem PySem.Spec PyProof.Rows
theorem relO_way {v : V} {v' : Value} (r : RelV v v') (f : Str) : RelO (List.lookup f [(("way" : Str), v)]) (if f = "way" then some v' else none) := by
  by_cases hw : f = "way"
  · subst hw
    rw [if_pos rfl]
    have q : List.lookup ("way" : Str) [(("way" : Str), v)] = some v := by simp [List.lookup]
    rw [q]
    exact r
  · rw [if_neg hw]
    have qw : (f == ("way" : Str)) = false := by simpa using hw
    have q2 : List.lookup f [(("way" : Str), v)] = none := by simp [List.lookup, qw]
    rw [q2]
    trivial
section
variable {X : Cx} {C fI : Addr} {x : Str} {B newId initId : String} {bmB : List Value}
/-- x(e), the error's own dict told -/
def tMkWay (C : Addr) (ta : TA) : St → Hp → XK → Prop := fun σ H Q => ta σ H fun vs H1 => ∃ v, vs = [v] ∧ ∀ d, H1 d = none → Q (.ref C) (some d) (upd H1 d (.xd [(("way" : Str), v)]))
theorem pmk_way {a : Expr} {ta : TA} {p pos : Pos} {k : Nat} (T : ExW.ExTxt X.K X.mg C fI x "way" bmB newId) (FB : PySem.ExcBaseFacts B newId initId bmB) (SF : StoreFacts B bmB "object.__setattr__" "object") (hr : Room k X.A) (ha : PA X [a] ta) (hg : Gl X x)
    (hdb : (x == ("__debug__" : Str)) = false := by decide) (he : starEach (a :: []) X.env = (false, eval a X.env) :: starEach [] X.env := by rfl) (hpl : (backTo pos (starEach [] X.env)).any (·.1) = false := by rfl) :
    PMk X (.Call (.Name x p) [a] [] pos) (tMkWay C ta) := by
  intro pins s σ H Q I h
  refine wpAny_Call_Name_kw (ld_glob I hg T.gC ?_ hdb)
  refine PySem.W.callWith_K (h₀ := X.base) I.ok.mod.kin T.kC (thn (ha.run pos pins s σ H _ I h) fun us s1 hh => ?_) he hpl
  obtain ⟨vs, H1, I1, r1, v, ev, q1⟩ := hh
  subst ev
  refine ⟨I1.kIn, ?_⟩
  cases r1 with
  | cons rv rn =>
    rename_i v' us'
    cases rn
    show wpAny _ _ (call (.ref C) [v']) _ _ _
    have hlim := I1.nolimit
    obtain ⟨hp, g, d, tk, os⟩ := s1
    refine wpAny_call (ExW.ex_made T FB SF I1.kIn hlim (by have := hr.dp; omega) fun h' tk' e d M => ?_)
    show MkP X pins σ Q (.ref e) ⟨h', g, _, tk', os⟩
    obtain ⟨oe, fv, hoe, hc, hd, hdat, h1⟩ := M.obj
    have hns := M.ns
    obtain ⟨G', g1, g2⟩ := restrict h' fun b => decide (b ≠ e)
    have gk : ∀ b, b ≠ e → G'.get? b = h'.get? b := fun b hb => g1 b (decide_eq_true hb)
    have ge : G'.get? e = none := g2 e (by simp)
    have old : ∀ b o, hp.get? b = some o → G'.get? b = some o := fun b o q => (gk b (Nat.ne_of_lt (Nat.lt_of_lt_of_le (Heap.lt_size q) M.new))).trans (M.keep b o q)
    have ob : ObjOk X.prog X.w (upd H1 d (.xd [(("way" : Str), v)])) G' d (.xd [(("way" : Str), v)]) :=
      ⟨_, hns.at (fun o q => (gk d M.dne).trans q), fun f => relO_way rv f⟩
    have J : Inv X pins σ (upd H1 d (.xd [(("way" : Str), v)])) ⟨G', g, _, tk', os⟩ := I1.laid (t' := tk') old M.dbig ob
    refine ⟨e, oe, fv, ⟨G', g, _, tk', os⟩, _, .ref C, some d, rfl, J, fun b o q => ?_, ge, hoe, ⟨hc, hd⟩, hdat, h1, ?_, rfl, I1.bare, raises_own T.exC T.tyC, q1 d (I1.hok.fresh M.dbig)⟩
    · by_cases hb : b = e
      · have q' : G'.get? b = some o := q
        rw [hb, ge] at q'; cases q'
      · exact (gk b hb).symm.trans q
    · rw [upd_ne (Ne.symm M.dne)]
      exact I1.hok.fresh M.new
end
end L2
set_option Elab.async false
set_option linter.all false
set_option maxRecDepth 100000
set_option maxHeartbeats 4000000
/-! # len(x), x an instance of an own class with __len__ -/
namespace G
open PySem PySem.Spec PyProof.Rows L2
section
variable {X : Cx} {C : Addr} {k : Nat} {sp : Sp}
def rLenOwn (C : Addr) (sp : Sp) : List V → Hp → VK → Prop := fun xs H Q => ∃ (a dx : Addr) (fs : List (Str × V)), xs = [.ref a] ∧ H a = some (.ins C dx fs) ∧ sp [.ref a] H (fun v H' => ∃ n : Nat, v = .int (n : Int) ∧ n ≤ sizeLine ∧ Q v H') C8.E0
theorem call_lenOwn (c : ML X.prog X.w X.K X.mg X.base C8.CX0 k C "__len__" ["self"] sp) (hr : Room (k + 1) X.A) : CallR X (.builtin "len") (rLenOwn C sp) := by
  intro pins s σ H vs us Q I r h
  obtain ⟨a, dx, fs, rfl, ha, hsp⟩ := h
  rw [Vals.ref1 r]
  obtain ⟨f, fd, hc, hm, F, b⟩ := c.ex
  obtain ⟨mA, O, _, _, _, _⟩ := ins_get I.hok ha
  obtain ⟨od, IA, _⟩ := O.look
  refine Calls.call_function_entry kind_len plain_len entry_len (args_len1 _) ?_
  unfold Builtin.«len»
  refine wpAny_bind (m := oneArg "len" _) (wpAny_pure ?_)
  refine wpAny_bind (m := callSpecial? (.ref a) (Str.ofString "__len__")) ?_
  unfold callSpecial? specialOf
  refine wpAny_bind (wpAny_bind (IA.type.here ((PySem.W.looks_findIn I.kIn hm.at_).here ?_)))
  refine wpAny_holding ?_
  refine wpAny_bind ((PySem.W.bind_fn I.kIn _ (beq_iff_eq.mp hm.fn)).here ?_)
  have e0 : Env0 X.prog X.w X.K X.mg X.base X.A.in1 X.stack s H := I.env0.in1
  have hb := b s [.ref a] I.kIn rfl
  have run : wpAny (model X.prog X.w) X.A.in1 (call (.ref f) [.ref a]) (EP X pins σ fun v H' => ∃ n : Nat, v = .int (n : Int) ∧ n ≤ sizeLine ∧ Q v H') X.xe s :=
    wpAny_call (codeAny_mono (F.run X.A.in1 X.stack s H ⟨[.ref a], []⟩ [.ref a] [.ref a] _ C8.E0 (Room.in1 hr) e0 hb (.cons rfl .nil) hsp) fun r s' hq => by
      cases r with
      | error e => exact (show False from hq).elim
      | ok fl =>
        cases fl with
        | ret u => exact I.after hq
        | next => exact False.elim hq
        | brk => exact False.elim hq
        | cont => exact False.elim hq)
  refine wpAny_bind (wpAny_mono run (fun v s' z => ?_) fun _ _ z => z)
  obtain ⟨y, H', I', ry, n, ey, hz, q⟩ := z
  subst ey
  obtain ⟨t, rfl⟩ := ry
  refine wpAny_pure ?_
  rw [sizeLine_eq] at hz
  refine wpAny_bind (wpAny_holding (wpAny_pure ?_))
  refine wpAny_bind (wpAny_letGo ?_)
  show wpAny _ _ (if ((n : Nat) : Int) < 0 then _ else _) _ _ _
  rw [if_neg (by omega)]
  show wpAny _ _ (if ((n : Nat) : Int) ≥ 2 ^ 63 then _ else _) _ _ _
  rw [if_neg (by omega)]
  exact wpAny_bind (wpAny_mkInt (wpAny_pure ⟨_, rfl, .int (n : Int), H', I'.tok _, ⟨_, rfl⟩, q⟩))
end
end G
set_option Elab.async false
set_option linter.all false
set_option maxRecDepth 100000
set_option maxHeartbeats 4000000
/-! # a look at the head's end by a stretch of addresses (no growing) -/
namespace HkA
open PySem PySem.Spec PyProof.Rows L2
/-- the globals, and the heap from somewhat ahead of a name's object on -/
def adrs (x : Str) (back many : Nat) (g : Addr → Option Obj) : List Addr := mainGlobals :: List.range' (He.ga (He.frT g [mainGlobals]) x - back) many
section
variable (as : (Addr → Option Obj) → List Addr) (fa : List He.Fa) (fn : List He.DefD) (tf : List He.Defn) (ex : PySem.W.Frag → Bool)
def seen (g : Addr → Option Obj) : He.AlX := ((fun K => He.obsT fa fn [] K) (He.frT g (as g)), (fun K => ex K && He.tabsB g tf K) (He.frT g (as g)))
end
section
variable {as : (Addr → Option Obj) → List Addr} {fa : List He.Fa} {fn : List He.DefD} {tf : List He.Defn} {ex : PySem.W.Frag → Bool}
theorem seen_says {w : World} {h : Heap} (e : seen as fa fn tf ex h.get? = He.valX fn [] w) : He.SaysX fa fn [] tf ex w h (He.frT h.get? (as h.get?)) := by
  generalize hK : He.frT h.get? (as h.get?) = K at *
  have both : He.obsT fa fn [] K = He.valT fn [] w ∧ (ex K && He.tabsB h.get? tf K) = true := by
    rw [← hK]
    exact ⟨congrArg Prod.fst e, congrArg Prod.snd e⟩
  obtain ⟨k1, k2⟩ := He.ba both.2
  have one : ∀ d ∈ tf, PySem.W.codeHdIn K (He.cT K d).1 (He.cT K d).2 = true ∧ ∃ u, h.get? (He.cT K d).2 = some u ∧ He.emptyTab u = true := fun d hd => by
    obtain ⟨z1, z2⟩ := He.ba (List.all_eq_true.mp k2 d hd)
    refine ⟨z1, ?_⟩
    generalize h.get? (He.cT K d).2 = r at z2
    cases r with
    | none => cases z2
    | some u => exact ⟨u, rfl, z2⟩
  refine ⟨both.1, k1, fun d hd => (one d hd).1, fun d hd => ?_, fun d hd => ?_⟩
  · obtain ⟨_, u, hu, hz⟩ := one d hd
    rw [← hK] at hu ⊢
    exact He.frT_none hu hz
  · obtain ⟨_, u, hu, hz⟩ := one d hd
    rw [hu, He.emptyTab_eq hz]
end
def hook (as : (Addr → Option Obj) → List Addr) (fa : List He.Fa) (fn : List He.DefD) (tf : List He.Defn) (ex : PySem.W.Frag → Bool) : PySem.W.Hook :=
  { He.hookX 0 fa fn [] tf ex with
    obs := fun s => seen as fa fn tf ex s.heap.get?
    of := fun _ _ e => ⟨_, He.frT_in, seen_says e⟩ }
theorem seen_eq {as : (Addr → Option Obj) → List Addr} {fa : List He.Fa} {fn : List He.DefD} {tf : List He.Defn} {ex : PySem.W.Frag → Bool} {g : Addr → Option Obj} {s : Shared} (h : ∀ a, g a = s.heap.get? a) : seen as fa fn tf ex g = (hook as fa fn tf ex).obs s := by
  rw [show g = s.heap.get? from funext h]
  rfl
/-! ### the run's equation by parts (each a run of its own: less memory at once) -/
theorem some_of {α β : Type} {X : Option α} {f : α → β} {b : β} (h : X.map f = some b) : ∃ s, X = some s ∧ f s = b := Option.map_eq_some_iff.mp h
section
open PySem.W HandSHeadRun
variable {r : OpenRow} {q : Program} {M : Nat} {loose : List PySem.Str} {w : World} {as : (Addr → Option Obj) → List Addr} {fa : List He.Fa} {fn : List He.DefD} {tf : List He.Defn} {ex : PySem.W.Frag → Bool}
/-- what is looked at -/
abbrev frag (as : (Addr → Option Obj) → List Addr) (s : SharedT) : PySem.W.Frag := He.frT (getT s) (as (getT s))
abbrev After (r : OpenRow) (M : Nat) (w : World) {β : Type} (f : SharedT → β) (b : β) : Prop := ∀ os : OsState, (endF (stepQ (denQ tabQ) r.prog w) M r.prog w os).map f = some b
theorem run_parts (k : Nat) (h1 : After r M w (fun s => looksF r.prog (boot_heap w.params) s.abs) true)
    (h2 : After r M w (fun s => seenQ q loose (importedModules r.prog.main.body) (fun s => xlAt q [] s && recOk r.toRowW.records s) s.abs) (openGood q loose))
    (h3 : After r M w (fun s => (fa.take k).all fun f => f.ok (frag as s)) true) (h4 : After r M w (fun s => (fa.drop k).all fun f => f.ok (frag as s)) true)
    (h5 : After r M w (fun s => fn.all fun d => d.ok (frag as s)) true) (h6 : After r M w (fun s => fn.map fun d => He.fnW (frag as s) d.at_) (fn.map He.DefD.val))
    (h7 : After r M w (fun s => ex (frag as s)) true) (h8 : After r M w (fun s => He.tabsB (getT s) tf (frag as s)) true) :
    RunEq r q (hook as fa fn tf ex) (fun s => seen as fa fn tf ex (getT s)) M loose w := fun os => by
  obtain ⟨s, e, a1⟩ := some_of (h1 os)
  have a2 := h2 os
  have a3 := h3 os
  have a4 := h4 os
  have a5 := h5 os
  have a6 := h6 os
  have a7 := h7 os
  have a8 := h8 os
  rw [e] at a2 a3 a4 a5 a6 a7 a8 ⊢
  have a2 : seenQ q loose (importedModules r.prog.main.body) (fun s => xlAt q [] s && recOk r.toRowW.records s) s.abs = openGood q loose := Option.some.inj a2
  have a3 : ((fa.take k).all fun f => f.ok (frag as s)) = true := Option.some.inj a3
  have a4 : ((fa.drop k).all fun f => f.ok (frag as s)) = true := Option.some.inj a4
  have a5 : (fn.all fun d => d.ok (frag as s)) = true := Option.some.inj a5
  have a6 : (fn.map fun d => He.fnW (frag as s) d.at_) = fn.map He.DefD.val := Option.some.inj a6
  have a7 : ex (frag as s) = true := Option.some.inj a7
  have a8 : He.tabsB (getT s) tf (frag as s) = true := Option.some.inj a8
  have a34 : (fa.all fun f => f.ok (frag as s)) = true := by
    rw [← List.take_append_drop k fa, List.all_append, a3, a4]
    rfl
  have b : seen as fa fn tf ex (getT s) = He.valX fn [] w := by
    show ((((fa.all fun f => f.ok (frag as s)) && fn.all fun d => d.ok (frag as s), fn.map fun d => He.fnW (frag as s) d.at_), []), ex (frag as s) && He.tabsB (getT s) tf (frag as s)) = _
    rw [a34, a5, a6, a7, a8]
    rfl
  show some (looksF r.prog (boot_heap w.params) s.abs, seenQ q loose (importedModules r.prog.main.body) (fun s => xlAt q [] s && recOk r.toRowW.records s) s.abs, seen as fa fn tf ex (getT s)) = _
  rw [a1, a2, b]
  rfl
end
end HkA
set_option Elab.async false
set_option linter.all false
set_option maxRecDepth 100000
set_option maxHeartbeats 4000000
namespace S
open PySem PySem.Spec PyProof.Rows L2 G
/-! ### the text by places (printed by gen.py) -/
def top (i : Nat) : Stmt := PySem.Challenge.pw_seenstands_k85_whole_sways_in_houses.main.body.getD i (.Pass ⟨0, 0, 0, 0⟩)
abbrev s_Seen_init : Stmt := inClass (top 8) 0
abbrev s_is_whole : Stmt := top 12
abbrev s_is_from : Stmt := top 13
abbrev s_Room_init : Stmt := inClass (top 14) 0
abbrev s_is_size : Stmt := top 21
abbrev s_are_hears : Stmt := top 22
abbrev s_rows_heard : Stmt := top 23
abbrev s_is_rule : Stmt := top 24
abbrev s_fault_of : Stmt := top 25
abbrev s_look_rooms : Stmt := top 26
abbrev s_Web_init : Stmt := inClass (top 27) 0
abbrev s_Web_rooms : Stmt := inClass (top 27) 1
abbrev s_Web_lot : Stmt := inClass (top 27) 2
abbrev s_Web_len : Stmt := inClass (top 27) 4
abbrev s_look_room : Stmt := top 28
abbrev s_look_cell : Stmt := top 29
abbrev s_look_beat : Stmt := top 30
abbrev s_look_stand : Stmt := top 31
abbrev s_told_by : Stmt := top 32
abbrev s_look_tables : Stmt := top 35
abbrev s_is_known : Stmt := top 40
abbrev s_poked_beats : Stmt := top 41
abbrev s_heard_cells : Stmt := top 42
abbrev s_rooms_heard : Stmt := top 43
abbrev s_gone_down : Stmt := top 44
abbrev s_walked_down : Stmt := top 45
abbrev s_run_many : Stmt := top 46
abbrev s_cells_needed : Stmt := top 47
abbrev s_needed : Stmt := top 48
abbrev s_by_beats : Stmt := top 51
abbrev s_known_stand : Stmt := top 52
abbrev s_stand_by : Stmt := top 55
abbrev s_least_other : Stmt := top 56
abbrev s_swayers : Stmt := top 57
abbrev s_House_init : Stmt := inClass (top 59) 0
abbrev s_House_look_free : Stmt := inClass (top 59) 5
abbrev s_House_look_forgotten : Stmt := inClass (top 59) 6
abbrev s_House_is_forgotten : Stmt := inClass (top 59) 7
abbrev s_House_is_far : Stmt := inClass (top 59) 8
abbrev s_House_is_given : Stmt := inClass (top 59) 9
abbrev s_House_needs_none : Stmt := inClass (top 59) 10
abbrev s_House_is_seen : Stmt := inClass (top 59) 11
abbrev s_House_at_cell : Stmt := inClass (top 59) 12
abbrev s_House_walked : Stmt := inClass (top 59) 13
abbrev s_House_run_cell : Stmt := inClass (top 59) 15
abbrev s_House_run_all : Stmt := inClass (top 59) 16
abbrev s_House_look : Stmt := inClass (top 59) 17
abbrev s_House_is_free : Stmt := inClass (top 59) 20
abbrev s_House_poke : Stmt := inClass (top 59) 21
abbrev s_House_askers : Stmt := inClass (top 59) 22
abbrev s_House_way_seen : Stmt := inClass (top 59) 23
abbrev s_House_copy : Stmt := inClass (top 59) 27
abbrev s_House_web : Stmt := inClass (top 59) 28
abbrev s_House_pokes : Stmt := inClass (top 59) 29
abbrev s_way_down : Stmt := top 60
abbrev s_L_bag : Stmt := top 62
abbrev s_L_take : Stmt := top 63
abbrev s_L_parts : Stmt := top 64
abbrev s_L_net : Stmt := top 65
abbrev s_L_pins : Stmt := top 66
abbrev s_L_poked : Stmt := top 67
abbrev s_L_sways_right : Stmt := top 68
abbrev s_L_else_right : Stmt := top 69
abbrev s_L_seen_right : Stmt := top 70
abbrev s_law : Stmt := top 71
/-! ### scopes -/
abbrev N_Seen_init : List Str := ["self", "way"]
theorem sc_Seen_init : FnScope N_Seen_init ["self", "way"] (defScope s_Seen_init) := ⟨rfl, rfl, rfl, by decide +kernel, rfl, by decide +kernel, by decide +kernel⟩
abbrev N_is_whole : List Str := ["thing"]
theorem sc_is_whole : FnScope N_is_whole ["thing"] (defScope s_is_whole) := ⟨rfl, rfl, rfl, by decide +kernel, rfl, by decide +kernel, by decide +kernel⟩
abbrev N_is_from : List Str := ["thing", "least", "most"]
theorem sc_is_from : FnScope N_is_from ["thing", "least", "most"] (defScope s_is_from) := ⟨rfl, rfl, rfl, by decide +kernel, rfl, by decide +kernel, by decide +kernel⟩
abbrev N_Room_init : List Str := ["self", "hears", "size", "first", "rule"]
theorem sc_Room_init : FnScope N_Room_init ["self", "hears", "size", "first", "rule"] (defScope s_Room_init) := ⟨rfl, rfl, rfl, by decide +kernel, rfl, by decide +kernel, by decide +kernel⟩
abbrev N_is_size : List Str := ["thing"]
theorem sc_is_size : FnScope N_is_size ["thing"] (defScope s_is_size) := ⟨rfl, rfl, rfl, by decide +kernel, rfl, by decide +kernel, by decide +kernel⟩
abbrev N_are_hears : List Str := ["thing", "many", "room"]
theorem sc_are_hears : FnScope N_are_hears ["thing", "many"] (defScope s_are_hears) := ⟨rfl, rfl, rfl, by decide +kernel, rfl, by decide +kernel, by decide +kernel⟩
abbrev N_rows_heard : List Str := ["rooms", "hears", "found", "room"]
theorem sc_rows_heard : FnScope N_rows_heard ["rooms", "hears"] (defScope s_rows_heard) := ⟨rfl, rfl, rfl, by decide +kernel, rfl, by decide +kernel, by decide +kernel⟩
abbrev N_is_rule : List Str := ["rooms", "at", "own", "rows", "stand"]
theorem sc_is_rule : FnScope N_is_rule ["rooms", "at"] (defScope s_is_rule) := ⟨rfl, rfl, rfl, by decide +kernel, rfl, by decide +kernel, by decide +kernel⟩
abbrev N_fault_of : List Str := ["rooms", "at", "own"]
theorem sc_fault_of : FnScope N_fault_of ["rooms", "at"] (defScope s_fault_of) := ⟨rfl, rfl, rfl, by decide +kernel, rfl, by decide +kernel, by decide +kernel⟩
abbrev N_look_rooms : List Str := ["rooms", "at", "what", "one"]
theorem sc_look_rooms : FnScope N_look_rooms ["rooms"] (defScope s_look_rooms) := ⟨rfl, rfl, rfl, by decide +kernel, rfl, by decide +kernel, by decide +kernel⟩
abbrev N_Web_init : List Str := ["self", "rooms"]
theorem sc_Web_init : FnScope N_Web_init ["self", "rooms"] (defScope s_Web_init) := ⟨rfl, rfl, rfl, by decide +kernel, rfl, by decide +kernel, by decide +kernel⟩
abbrev N_Web_rooms : List Str := ["self"]
theorem sc_Web_rooms : FnScope N_Web_rooms ["self"] (defScope s_Web_rooms) := ⟨rfl, rfl, rfl, by decide +kernel, rfl, by decide +kernel, by decide +kernel⟩
abbrev N_Web_lot : List Str := ["self", "room", "found", "waiting", "one"]
theorem sc_Web_lot : FnScope N_Web_lot ["self", "room"] (defScope s_Web_lot) := ⟨rfl, rfl, rfl, by decide +kernel, rfl, by decide +kernel, by decide +kernel⟩
abbrev N_Web_len : List Str := ["self"]
theorem sc_Web_len : FnScope N_Web_len ["self"] (defScope s_Web_len) := ⟨rfl, rfl, rfl, by decide +kernel, rfl, by decide +kernel, by decide +kernel⟩
abbrev N_look_room : List Str := ["web", "room"]
theorem sc_look_room : FnScope N_look_room ["web", "room"] (defScope s_look_room) := ⟨rfl, rfl, rfl, by decide +kernel, rfl, by decide +kernel, by decide +kernel⟩
abbrev N_look_cell : List Str := ["web", "room", "beat"]
theorem sc_look_cell : FnScope N_look_cell ["web", "room", "beat"] (defScope s_look_cell) := ⟨rfl, rfl, rfl, by decide +kernel, rfl, by decide +kernel, by decide +kernel⟩
abbrev N_look_beat : List Str := ["beat"]
theorem sc_look_beat : FnScope N_look_beat ["beat"] (defScope s_look_beat) := ⟨rfl, rfl, rfl, by decide +kernel, rfl, by decide +kernel, by decide +kernel⟩
abbrev N_look_stand : List Str := ["web", "room", "stand"]
theorem sc_look_stand : FnScope N_look_stand ["web", "room", "stand"] (defScope s_look_stand) := ⟨rfl, rfl, rfl, by decide +kernel, rfl, by decide +kernel, by decide +kernel⟩
abbrev N_told_by : List Str := ["web", "room", "stands", "beat", "own", "stand", "place", "heard"]
theorem sc_told_by : FnScope N_told_by ["web", "room", "stands", "beat"] (defScope s_told_by) := ⟨rfl, rfl, rfl, by decide +kernel, rfl, by decide +kernel, by decide +kernel⟩
abbrev N_look_tables : List Str := ["web", "room", "one"]
theorem sc_look_tables : FnScope N_look_tables ["web", "room"] (defScope s_look_tables) := ⟨rfl, rfl, rfl, by decide +kernel, rfl, by decide +kernel, by decide +kernel⟩
abbrev N_is_known : List Str := ["cell", "pokes"]
theorem sc_is_known : FnScope N_is_known ["cell", "pokes"] (defScope s_is_known) := ⟨rfl, rfl, rfl, by decide +kernel, rfl, by decide +kernel, by decide +kernel⟩
abbrev N_poked_beats : List Str := ["pokes", "room", "beat"]
theorem sc_poked_beats : FnScope N_poked_beats ["pokes"] (defScope s_poked_beats) := ⟨rfl, rfl, rfl, by decide +kernel, rfl, by decide +kernel, by decide +kernel⟩
abbrev N_heard_cells : List Str := ["web", "cell", "room", "beat", "heard"]
theorem sc_heard_cells : FnScope N_heard_cells ["web", "cell"] (defScope s_heard_cells) := ⟨rfl, rfl, rfl, by decide +kernel, rfl, by decide +kernel, by decide +kernel⟩
abbrev N_rooms_heard : List Str := ["web", "rooms", "found", "room", "heard"]
theorem sc_rooms_heard : FnScope N_rooms_heard ["web", "rooms"] (defScope s_rooms_heard) := ⟨rfl, rfl, rfl, by decide +kernel, rfl, by decide +kernel, by decide +kernel⟩
abbrev N_gone_down : List Str := ["web", "rooms", "beats", "known", "layers", "counts", "places", "run", "begun", "ring", "rounds", "rest", "per", "room"]
theorem sc_gone_down : FnScope N_gone_down ["web", "rooms", "beats", "known"] (defScope s_gone_down) := ⟨rfl, rfl, rfl, by decide +kernel, rfl, by decide +kernel, by decide +kernel⟩
abbrev N_walked_down : List Str := ["web", "cell", "low", "stops", "known", "room", "at", "rooms", "many", "met", "run", "stop", "here", "more", "one", "beat"]
theorem sc_walked_down : FnScope N_walked_down ["web", "cell", "low", "stops", "known"] (defScope s_walked_down) := ⟨rfl, rfl, rfl, by decide +kernel, rfl, by decide +kernel, by decide +kernel⟩
abbrev N_run_many : List Str := ["web", "room", "beat", "pokes"]
theorem sc_run_many : FnScope N_run_many ["web", "room", "beat", "pokes"] (defScope s_run_many) := ⟨rfl, rfl, rfl, by decide +kernel, rfl, by decide +kernel, by decide +kernel⟩
abbrev N_cells_needed : List Str := ["web", "cells", "known", "found", "waiting", "cell", "new", "one"]
theorem sc_cells_needed : FnScope N_cells_needed ["web", "cells", "known"] (defScope s_cells_needed) := ⟨rfl, rfl, rfl, by decide +kernel, rfl, by decide +kernel, by decide +kernel⟩
abbrev N_needed : List Str := ["web", "room", "beat", "pokes", "many"]
theorem sc_needed : FnScope N_needed ["web", "room", "beat", "pokes"] (defScope s_needed) := ⟨rfl, rfl, rfl, by decide +kernel, rfl, by decide +kernel, by decide +kernel⟩
abbrev N_by_beats : List Str := ["cells"]
theorem sc_by_beats : FnScope N_by_beats ["cells"] (defScope s_by_beats) := ⟨rfl, rfl, rfl, by decide +kernel, rfl, by decide +kernel, by decide +kernel⟩
abbrev N_known_stand : List Str := ["web", "cell", "pokes"]
theorem sc_known_stand : FnScope N_known_stand ["web", "cell", "pokes"] (defScope s_known_stand) := ⟨rfl, rfl, rfl, by decide +kernel, rfl, by decide +kernel, by decide +kernel⟩
abbrev N_stand_by : List Str := ["web", "cell", "row", "stands", "at", "one", "other"]
theorem sc_stand_by : FnScope N_stand_by ["web", "cell", "row", "stands"] (defScope s_stand_by) := ⟨rfl, rfl, rfl, by decide +kernel, rfl, by decide +kernel, by decide +kernel⟩
abbrev N_least_other : List Str := ["web", "cell", "row", "stands", "known_one", "was", "other", "put", "then"]
theorem sc_least_other : FnScope N_least_other ["web", "cell", "row", "stands", "known_one"] (defScope s_least_other) := ⟨rfl, rfl, rfl, by decide +kernel, rfl, by decide +kernel, by decide +kernel⟩
abbrev N_swayers : List Str := ["web", "room", "beat", "pokes", "many", "all_needed", "stands", "row", "found", "one", "other"]
theorem sc_swayers : FnScope N_swayers ["web", "room", "beat", "pokes"] (defScope s_swayers) := ⟨rfl, rfl, rfl, by decide +kernel, rfl, by decide +kernel, by decide +kernel⟩
abbrev N_House_init : List Str := ["self", "web", "room"]
theorem sc_House_init : FnScope N_House_init ["self", "web"] (defScope s_House_init) := ⟨rfl, rfl, rfl, by decide +kernel, rfl, by decide +kernel, by decide +kernel⟩
abbrev N_House_look_free : List Str := ["self"]
theorem sc_House_look_free : FnScope N_House_look_free ["self"] (defScope s_House_look_free) := ⟨rfl, rfl, rfl, by decide +kernel, rfl, by decide +kernel, by decide +kernel⟩
abbrev N_House_look_forgotten : List Str := ["self", "cell"]
theorem sc_House_look_forgotten : FnScope N_House_look_forgotten ["self", "cell"] (defScope s_House_look_forgotten) := ⟨rfl, rfl, rfl, by decide +kernel, rfl, by decide +kernel, by decide +kernel⟩
abbrev N_House_is_forgotten : List Str := ["self", "cell"]
theorem sc_House_is_forgotten : FnScope N_House_is_forgotten ["self", "cell"] (defScope s_House_is_forgotten) := ⟨rfl, rfl, rfl, by decide +kernel, rfl, by decide +kernel, by decide +kernel⟩
abbrev N_House_is_far : List Str := ["self", "cell", "top"]
theorem sc_House_is_far : FnScope N_House_is_far ["self", "cell"] (defScope s_House_is_far) := ⟨rfl, rfl, rfl, by decide +kernel, rfl, by decide +kernel, by decide +kernel⟩
abbrev N_House_is_given : List Str := ["self", "cell"]
theorem sc_House_is_given : FnScope N_House_is_given ["self", "cell"] (defScope s_House_is_given) := ⟨rfl, rfl, rfl, by decide +kernel, rfl, by decide +kernel, by decide +kernel⟩
abbrev N_House_needs_none : List Str := ["self", "cell"]
theorem sc_House_needs_none : FnScope N_House_needs_none ["self", "cell"] (defScope s_House_needs_none) := ⟨rfl, rfl, rfl, by decide +kernel, rfl, by decide +kernel, by decide +kernel⟩
abbrev N_House_is_seen : List Str := ["self", "cell"]
theorem sc_House_is_seen : FnScope N_House_is_seen ["self", "cell"] (defScope s_House_is_seen) := ⟨rfl, rfl, rfl, by decide +kernel, rfl, by decide +kernel, by decide +kernel⟩
abbrev N_House_at_cell : List Str := ["self", "cell", "road", "one"]
theorem sc_House_at_cell : FnScope N_House_at_cell ["self", "cell"] (defScope s_House_at_cell) := ⟨rfl, rfl, rfl, by decide +kernel, rfl, by decide +kernel, by decide +kernel⟩
abbrev N_House_walked : List Str := ["self", "cell", "beats", "rooms", "many", "met", "gone", "one", "room", "beat", "top"]
theorem sc_House_walked : FnScope N_House_walked ["self", "cell"] (defScope s_House_walked) := ⟨rfl, rfl, rfl, by decide +kernel, rfl, by decide +kernel, by decide +kernel⟩
abbrev N_House_run_cell : List Str := ["self", "cell", "heard", "stands", "one"]
theorem sc_House_run_cell : FnScope N_House_run_cell ["self", "cell"] (defScope s_House_run_cell) := ⟨rfl, rfl, rfl, by decide +kernel, rfl, by decide +kernel, by decide +kernel⟩
abbrev N_House_run_all : List Str := ["self", "cells", "cell"]
theorem sc_House_run_all : FnScope N_House_run_all ["self", "cells"] (defScope s_House_run_all) := ⟨rfl, rfl, rfl, by decide +kernel, rfl, by decide +kernel, by decide +kernel⟩
abbrev N_House_look : List Str := ["self", "room", "beat", "cell", "many", "gone", "cells", "one"]
theorem sc_House_look : FnScope N_House_look ["self", "room", "beat"] (defScope s_House_look) := ⟨rfl, rfl, rfl, by decide +kernel, rfl, by decide +kernel, by decide +kernel⟩
abbrev N_House_is_free : List Str := ["self", "room", "beat"]
theorem sc_House_is_free : FnScope N_House_is_free ["self", "room", "beat"] (defScope s_House_is_free) := ⟨rfl, rfl, rfl, by decide +kernel, rfl, by decide +kernel, by decide +kernel⟩
abbrev N_House_poke : List Str := ["self", "room", "beat", "stand", "cell"]
theorem sc_House_poke : FnScope N_House_poke ["self", "room", "beat", "stand"] (defScope s_House_poke) := ⟨rfl, rfl, rfl, by decide +kernel, rfl, by decide +kernel, by decide +kernel⟩
abbrev N_House_askers : List Str := ["self", "cell", "above", "room", "one"]
theorem sc_House_askers : FnScope N_House_askers ["self", "cell"] (defScope s_House_askers) := ⟨rfl, rfl, rfl, by decide +kernel, rfl, by decide +kernel, by decide +kernel⟩
abbrev N_House_way_seen : List Str := ["self", "cell", "layers", "first", "one", "below"]
theorem sc_House_way_seen : FnScope N_House_way_seen ["self", "cell"] (defScope s_House_way_seen) := ⟨rfl, rfl, rfl, by decide +kernel, rfl, by decide +kernel, by decide +kernel⟩
abbrev N_House_copy : List Str := ["self", "made"]
theorem sc_House_copy : FnScope N_House_copy ["self"] (defScope s_House_copy) := ⟨rfl, rfl, rfl, by decide +kernel, rfl, by decide +kernel, by decide +kernel⟩
abbrev N_House_web : List Str := ["self"]
theorem sc_House_web : FnScope N_House_web ["self"] (defScope s_House_web) := ⟨rfl, rfl, rfl, by decide +kernel, rfl, by decide +kernel, by decide +kernel⟩
abbrev N_House_pokes : List Str := ["self"]
theorem sc_House_pokes : FnScope N_House_pokes ["self"] (defScope s_House_pokes) := ⟨rfl, rfl, rfl, by decide +kernel, rfl, by decide +kernel, by decide +kernel⟩
abbrev N_way_down : List Str := ["layers", "first", "found", "layer"]
theorem sc_way_down : FnScope N_way_down ["layers", "first"] (defScope s_way_down) := ⟨rfl, rfl, rfl, by decide +kernel, rfl, by decide +kernel, by decide +kernel⟩
abbrev N_L_bag : List Str := ["_law_script", "_law_at", "_law_cell", "_law_great", "_law_primes"]
theorem sc_L_bag : FnScope N_L_bag ["_law_script", "_law_at"] (defScope s_L_bag) := ⟨rfl, rfl, rfl, by decide +kernel, rfl, by decide +kernel, by decide +kernel⟩
abbrev N_L_take : List Str := ["_law_bag_here", "_law_many", "_law_digit"]
theorem sc_L_take : FnScope N_L_take ["_law_bag_here", "_law_many"] (defScope s_L_take) := ⟨rfl, rfl, rfl, by decide +kernel, rfl, by decide +kernel, by decide +kernel⟩
abbrev N_L_parts : List Str := ["_law_bag_here", "_law_most", "_law_widest", "_law_many", "_law_wides", "_law_made", "_law_spot", "_law_left", "_law_ears", "_law_lines", "_law_turn", "_law_table", "_law_line"]
theorem sc_L_parts : FnScope N_L_parts ["_law_bag_here", "_law_most", "_law_widest"] (defScope s_L_parts) := ⟨rfl, rfl, rfl, by decide +kernel, rfl, by decide +kernel, by decide +kernel⟩
abbrev N_L_net : List Str := ["_law_parts_here", "_law_ears", "_law_wide", "_law_begin", "_law_table"]
theorem sc_L_net : FnScope N_L_net ["_law_parts_here"] (defScope s_L_net) := ⟨rfl, rfl, rfl, by decide +kernel, rfl, by decide +kernel, by decide +kernel⟩
abbrev N_L_pins : List Str := ["_law_bag_here", "_law_parts_here", "_law_many", "_law_last", "_law_pins_here", "_law_turn", "_law_spot"]
theorem sc_L_pins : FnScope N_L_pins ["_law_bag_here", "_law_parts_here", "_law_many", "_law_last"] (defScope s_L_pins) := ⟨rfl, rfl, rfl, by decide +kernel, rfl, by decide +kernel, by decide +kernel⟩
abbrev N_L_poked : List Str := ["_law_house", "_law_spot", "_law_mark", "_law_aim", "_law_other"]
theorem sc_L_poked : FnScope N_L_poked ["_law_house", "_law_spot", "_law_mark", "_law_aim"] (defScope s_L_poked) := ⟨rfl, rfl, rfl, by decide +kernel, rfl, by decide +kernel, by decide +kernel⟩
abbrev N_L_sways_right : List Str := ["_law_house", "_law_found", "_law_aim", "_law_was", "_law_spot", "_law_time", "_law_mark", "_law_then"]
theorem sc_L_sways_right : FnScope N_L_sways_right ["_law_house", "_law_found", "_law_aim", "_law_was"] (defScope s_L_sways_right) := ⟨rfl, rfl, rfl, by decide +kernel, rfl, by decide +kernel, by decide +kernel⟩
abbrev N_L_else_right : List Str := ["_law_bag_here", "_law_house", "_law_parts_here", "_law_found", "_law_aim", "_law_was", "_law_swaying", "_law_turn", "_law_spot", "_law_needs", "_law_known", "_law_one"]
theorem sc_L_else_right : FnScope N_L_else_right ["_law_bag_here", "_law_house", "_law_parts_here", "_law_found", "_law_aim", "_law_was"] (defScope s_L_else_right) := ⟨rfl, rfl, rfl, by decide +kernel, rfl, by decide +kernel, by decide +kernel⟩
abbrev N_L_seen_right : List Str := ["_law_house", "_law_found", "_law_aim", "_law_spot", "_law_time", "_law_mark", "_law_then", "e"]
theorem sc_L_seen_right : FnScope N_L_seen_right ["_law_house", "_law_found", "_law_aim"] (defScope s_L_seen_right) := ⟨rfl, rfl, rfl, by decide +kernel, rfl, by decide +kernel, by decide +kernel⟩
abbrev N_law : List Str := ["_law_script", "_law_k", "_law_bag_here", "_law_parts_here", "_law_house", "_law_pins_here", "_law_spot", "_law_aim", "_law_found", "_law_was"]
theorem sc_law : FnScope N_law ["_law_script"] (defScope s_law) := ⟨rfl, rfl, rfl, by decide +kernel, rfl, by decide +kernel, by decide +kernel⟩
/-! ### defs -/
def d_Seen_init : He.DefD := ⟨("Seen", some "__init__"), "__init__", "Seen.__init__", defArgs s_Seen_init, defBody s_Seen_init, defScope s_Seen_init, [], []⟩
def d_is_whole : He.DefD := ⟨("is_whole", none), "is_whole", "is_whole", defArgs s_is_whole, defBody s_is_whole, defScope s_is_whole, [], []⟩
def d_is_from : He.DefD := ⟨("is_from", none), "is_from", "is_from", defArgs s_is_from, defBody s_is_from, defScope s_is_from, [], []⟩
def d_Room_init : He.DefD := ⟨("Room", some "__init__"), "__init__", "Room.__init__", defArgs s_Room_init, defBody s_Room_init, defScope s_Room_init, [.adr (He.dflAt ("Room", some "__init__") 0)], [("size", .int 2), ("first", .int 0), ("rule", .adr (G.kwdAt ("Room", some "__init__") "rule"))]⟩
def d_is_size : He.DefD := ⟨("is_size", none), "is_size", "is_size", defArgs s_is_size, defBody s_is_size, defScope s_is_size, [], []⟩
def d_are_hears : He.DefD := ⟨("are_hears", none), "are_hears", "are_hears", defArgs s_are_hears, defBody s_are_hears, defScope s_are_hears, [], []⟩
def d_rows_heard : He.DefD := ⟨("rows_heard", none), "rows_heard", "rows_heard", defArgs s_rows_heard, defBody s_rows_heard, defScope s_rows_heard, [], []⟩
def d_is_rule : He.DefD := ⟨("is_rule", none), "is_rule", "is_rule", defArgs s_is_rule, defBody s_is_rule, defScope s_is_rule, [], []⟩
def d_fault_of : He.DefD := ⟨("fault_of", none), "fault_of", "fault_of", defArgs s_fault_of, defBody s_fault_of, defScope s_fault_of, [], []⟩
def d_look_rooms : He.DefD := ⟨("look_rooms", none), "look_rooms", "look_rooms", defArgs s_look_rooms, defBody s_look_rooms, defScope s_look_rooms, [], []⟩
def d_Web_init : He.DefD := ⟨("Web", some "__init__"), "__init__", "Web.__init__", defArgs s_Web_init, defBody s_Web_init, defScope s_Web_init, [], []⟩
def d_Web_rooms : He.DefD := ⟨("Web", some "rooms"), "rooms", "Web.rooms", defArgs s_Web_rooms, defBody s_Web_rooms, defScope s_Web_rooms, [], []⟩
def d_Web_lot : He.DefD := ⟨("Web", some "lot"), "lot", "Web.lot", defArgs s_Web_lot, defBody s_Web_lot, defScope s_Web_lot, [], []⟩
def d_Web_len : He.DefD := ⟨("Web", some "__len__"), "__len__", "Web.__len__", defArgs s_Web_len, defBody s_Web_len, defScope s_Web_len, [], []⟩
def d_look_room : He.DefD := ⟨("look_room", none), "look_room", "look_room", defArgs s_look_room, defBody s_look_room, defScope s_look_room, [], []⟩
def d_look_cell : He.DefD := ⟨("look_cell", none), "look_cell", "look_cell", defArgs s_look_cell, defBody s_look_cell, defScope s_look_cell, [], []⟩
def d_look_beat : He.DefD := ⟨("look_beat", none), "look_beat", "look_beat", defArgs s_look_beat, defBody s_look_beat, defScope s_look_beat, [], []⟩
def d_look_stand : He.DefD := ⟨("look_stand", none), "look_stand", "look_stand", defArgs s_look_stand, defBody s_look_stand, defScope s_look_stand, [], []⟩
def d_told_by : He.DefD := ⟨("told_by", none), "told_by", "told_by", defArgs s_told_by, defBody s_told_by, defScope s_told_by, [], []⟩
def d_look_tables : He.DefD := ⟨("look_tables", none), "look_tables", "look_tables", defArgs s_look_tables, defBody s_look_tables, defScope s_look_tables, [], []⟩
def d_is_known : He.DefD := ⟨("is_known", none), "is_known", "is_known", defArgs s_is_known, defBody s_is_known, defScope s_is_known, [], []⟩
def d_poked_beats : He.DefD := ⟨("poked_beats", none), "poked_beats", "poked_beats", defArgs s_poked_beats, defBody s_poked_beats, defScope s_poked_beats, [], []⟩
def d_heard_cells : He.DefD := ⟨("heard_cells", none), "heard_cells", "heard_cells", defArgs s_heard_cells, defBody s_heard_cells, defScope s_heard_cells, [], []⟩
def d_rooms_heard : He.DefD := ⟨("rooms_heard", none), "rooms_heard", "rooms_heard", defArgs s_rooms_heard, defBody s_rooms_heard, defScope s_rooms_heard, [], []⟩
def d_gone_down : He.DefD := ⟨("gone_down", none), "gone_down", "gone_down", defArgs s_gone_down, defBody s_gone_down, defScope s_gone_down, [], []⟩
def d_walked_down : He.DefD := ⟨("walked_down", none), "walked_down", "walked_down", defArgs s_walked_down, defBody s_walked_down, defScope s_walked_down, [], []⟩
def d_run_many : He.DefD := ⟨("run_many", none), "run_many", "run_many", defArgs s_run_many, defBody s_run_many, defScope s_run_many, [], [("pokes", .non)]⟩
def d_cells_needed : He.DefD := ⟨("cells_needed", none), "cells_needed", "cells_needed", defArgs s_cells_needed, defBody s_cells_needed, defScope s_cells_needed, [], []⟩
def d_needed : He.DefD := ⟨("needed", none), "needed", "needed", defArgs s_needed, defBody s_needed, defScope s_needed, [], [("pokes", .non)]⟩
def d_by_beats : He.DefD := ⟨("by_beats", none), "by_beats", "by_beats", defArgs s_by_beats, defBody s_by_beats, defScope s_by_beats, [], []⟩
def d_known_stand : He.DefD := ⟨("known_stand", none), "known_stand", "known_stand", defArgs s_known_stand, defBody s_known_stand, defScope s_known_stand, [], []⟩
def d_stand_by : He.DefD := ⟨("stand_by", none), "stand_by", "stand_by", defArgs s_stand_by, defBody s_stand_by, defScope s_stand_by, [], []⟩
def d_least_other : He.DefD := ⟨("least_other", none), "least_other", "least_other", defArgs s_least_other, defBody s_least_other, defScope s_least_other, [], []⟩
def d_swayers : He.DefD := ⟨("swayers", none), "swayers", "swayers", defArgs s_swayers, defBody s_swayers, defScope s_swayers, [], [("pokes", .non)]⟩
def d_House_init : He.DefD := ⟨("House", some "__init__"), "__init__", "House.__init__", defArgs s_House_init, defBody s_House_init, defScope s_House_init, [], []⟩
def d_House_look_free : He.DefD := ⟨("House", some "look_free"), "look_free", "House.look_free", defArgs s_House_look_free, defBody s_House_look_free, defScope s_House_look_free, [], []⟩
def d_House_look_forgotten : He.DefD := ⟨("House", some "look_forgotten"), "look_forgotten", "House.look_forgotten", defArgs s_House_look_forgotten, defBody s_House_look_forgotten, defScope s_House_look_forgotten, [], []⟩
def d_House_is_forgotten : He.DefD := ⟨("House", some "is_forgotten"), "is_forgotten", "House.is_forgotten", defArgs s_House_is_forgotten, defBody s_House_is_forgotten, defScope s_House_is_forgotten, [], []⟩
def d_House_is_far : He.DefD := ⟨("House", some "is_far"), "is_far", "House.is_far", defArgs s_House_is_far, defBody s_House_is_far, defScope s_House_is_far, [], []⟩
def d_House_is_given : He.DefD := ⟨("House", some "is_given"), "is_given", "House.is_given", defArgs s_House_is_given, defBody s_House_is_given, defScope s_House_is_given, [], []⟩
def d_House_needs_none : He.DefD := ⟨("House", some "needs_none"), "needs_none", "House.needs_none", defArgs s_House_needs_none, defBody s_House_needs_none, defScope s_House_needs_none, [], []⟩
def d_House_is_seen : He.DefD := ⟨("House", some "is_seen"), "is_seen", "House.is_seen", defArgs s_House_is_seen, defBody s_House_is_seen, defScope s_House_is_seen, [], []⟩
def d_House_at_cell : He.DefD := ⟨("House", some "at_cell"), "at_cell", "House.at_cell", defArgs s_House_at_cell, defBody s_House_at_cell, defScope s_House_at_cell, [], []⟩
def d_House_walked : He.DefD := ⟨("House", some "walked"), "walked", "House.walked", defArgs s_House_walked, defBody s_House_walked, defScope s_House_walked, [], []⟩
def d_House_run_cell : He.DefD := ⟨("House", some "run_cell"), "run_cell", "House.run_cell", defArgs s_House_run_cell, defBody s_House_run_cell, defScope s_House_run_cell, [], []⟩
def d_House_run_all : He.DefD := ⟨("House", some "run_all"), "run_all", "House.run_all", defArgs s_House_run_all, defBody s_House_run_all, defScope s_House_run_all, [], []⟩
def d_House_look : He.DefD := ⟨("House", some "look"), "look", "House.look", defArgs s_House_look, defBody s_House_look, defScope s_House_look, [], []⟩
def d_House_is_free : He.DefD := ⟨("House", some "is_free"), "is_free", "House.is_free", defArgs s_House_is_free, defBody s_House_is_free, defScope s_House_is_free, [], []⟩
def d_House_poke : He.DefD := ⟨("House", some "poke"), "poke", "House.poke", defArgs s_House_poke, defBody s_House_poke, defScope s_House_poke, [], []⟩
def d_House_askers : He.DefD := ⟨("House", some "askers"), "askers", "House.askers", defArgs s_House_askers, defBody s_House_askers, defScope s_House_askers, [], []⟩
def d_House_way_seen : He.DefD := ⟨("House", some "way_seen"), "way_seen", "House.way_seen", defArgs s_House_way_seen, defBody s_House_way_seen, defScope s_House_way_seen, [], []⟩
def d_House_copy : He.DefD := ⟨("House", some "copy"), "copy", "House.copy", defArgs s_House_copy, defBody s_House_copy, defScope s_House_copy, [], []⟩
def d_House_web : He.DefD := ⟨("House", some "web"), "web", "House.web", defArgs s_House_web, defBody s_House_web, defScope s_House_web, [], []⟩
def d_House_pokes : He.DefD := ⟨("House", some "pokes"), "pokes", "House.pokes", defArgs s_House_pokes, defBody s_House_pokes, defScope s_House_pokes, [], []⟩
def d_way_down : He.DefD := ⟨("way_down", none), "way_down", "way_down", defArgs s_way_down, defBody s_way_down, defScope s_way_down, [], []⟩
def d_L_bag : He.DefD := ⟨("_law_bag", none), "_law_bag", "_law_bag", defArgs s_L_bag, defBody s_L_bag, defScope s_L_bag, [], []⟩
def d_L_take : He.DefD := ⟨("_law_take", none), "_law_take", "_law_take", defArgs s_L_take, defBody s_L_take, defScope s_L_take, [], []⟩
def d_L_parts : He.DefD := ⟨("_law_parts", none), "_law_parts", "_law_parts", defArgs s_L_parts, defBody s_L_parts, defScope s_L_parts, [], []⟩
def d_L_net : He.DefD := ⟨("_law_net", none), "_law_net", "_law_net", defArgs s_L_net, defBody s_L_net, defScope s_L_net, [], []⟩
def d_L_pins : He.DefD := ⟨("_law_pins", none), "_law_pins", "_law_pins", defArgs s_L_pins, defBody s_L_pins, defScope s_L_pins, [], []⟩
def d_L_poked : He.DefD := ⟨("_law_poked", none), "_law_poked", "_law_poked", defArgs s_L_poked, defBody s_L_poked, defScope s_L_poked, [], []⟩
def d_L_sways_right : He.DefD := ⟨("_law_sways_right", none), "_law_sways_right", "_law_sways_right", defArgs s_L_sways_right, defBody s_L_sways_right, defScope s_L_sways_right, [], []⟩
def d_L_else_right : He.DefD := ⟨("_law_else_right", none), "_law_else_right", "_law_else_right", defArgs s_L_else_right, defBody s_L_else_right, defScope s_L_else_right, [], []⟩
def d_L_seen_right : He.DefD := ⟨("_law_seen_right", none), "_law_seen_right", "_law_seen_right", defArgs s_L_seen_right, defBody s_L_seen_right, defScope s_L_seen_right, [], []⟩
def d_law : He.DefD := ⟨("law", none), "law", "law", defArgs s_law, defBody s_law, defScope s_law, [], []⟩
def dfs : List He.DefD := [d_Seen_init, d_is_whole, d_is_from, d_Room_init, d_is_size, d_are_hears, d_rows_heard, d_is_rule, d_fault_of, d_look_rooms, d_Web_init, d_Web_rooms, d_Web_lot, d_Web_len, d_look_room, d_look_cell, d_look_beat, d_look_stand, d_told_by, d_look_tables, d_is_known, d_poked_beats, d_heard_cells, d_rooms_heard, d_gone_down, d_walked_down, d_run_many, d_cells_needed, d_needed, d_by_beats, d_known_stand, d_stand_by, d_least_other, d_swayers, d_House_init, d_House_look_free, d_House_look_forgotten, d_House_is_forgotten, d_House_is_far, d_House_is_given, d_House_needs_none, d_House_is_seen, d_House_at_cell, d_House_walked, d_House_run_cell, d_House_run_all, d_House_look, d_House_is_free, d_House_poke, d_House_askers, d_House_way_seen, d_House_copy, d_House_web, d_House_pokes, d_way_down, d_L_bag, d_L_take, d_L_parts, d_L_net, d_L_pins, d_L_poked, d_L_sways_right, d_L_else_right, d_L_seen_right, d_law]
def fas : List He.Fa := [.glo "is_whole", .glo "is_from", .glo "is_size", .glo "are_hears", .glo "rows_heard", .glo "is_rule", .glo "fault_of", .glo "look_rooms", .glo "look_room", .glo "look_cell", .glo "look_beat", .glo "look_stand", .glo "told_by", .glo "look_tables", .glo "is_known", .glo "poked_beats", .glo "heard_cells", .glo "rooms_heard", .glo "gone_down", .glo "walked_down", .glo "run_many", .glo "cells_needed", .glo "needed", .glo "by_beats", .glo "known_stand", .glo "stand_by", .glo "least_other", .glo "swayers", .glo "way_down", .glo "_law_bag", .glo "_law_take", .glo "_law_parts", .glo "_law_net", .glo "_law_pins", .glo "_law_poked", .glo "_law_sways_right", .glo "_law_else_right", .glo "_law_seen_right", .glo "law", .glo "Seen", .glo "Room", .glo "Web", .glo "House", .cls "Room", .mkr "Room", .noat "Room" "hears", .noat "Room" "size", .noat "Room" "first", .noat "Room" "rule", .cls "Web", .mkr "Web", .noat "Web" "kept", .meth "Web" "rooms", .meth "Web" "lot", .meth "Web" "__len__", .cls "House", .mkr "House", .noat "House" "of_web", .noat "House" "pins", .noat "House" "run", .noat "House" "asked", .noat "House" "heard", .noat "House" "looked", .noat "House" "kept", .noat "House" "roads", .noat "House" "far_tops", .noat "House" "is_busy", .meth "House" "look_free", .meth "House" "look_forgotten", .meth "House" "is_forgotten", .meth "House" "is_far", .meth "House" "is_given", .meth "House" "needs_none", .meth "House" "is_seen", .meth "House" "at_cell", .meth "House" "walked", .meth "House" "run_cell", .meth "House" "run_all", .meth "House" "look", .meth "House" "is_free", .meth "House" "poke", .meth "House" "askers", .meth "House" "way_seen", .meth "House" "copy", .meth "House" "web", .meth "House" "pokes", .free "abs", .free "all", .free "bool", .free "dict", .free "int", .free "isinstance", .free "len", .free "list", .free "max", .free "min", .free "range", .free "set", .free "sorted", .free "tuple", .free "zip", .int "MOST_ROOMS" 12, .int "MOST_HEARD" 3, .int "MOST_SIZE" 60, .int "MOST_TABLE" 2000, .int "LAST_BEAT" 1000000000000000000000000000000000000000000000000000000000000, .int "MOST_RUN_needs" 2000, .int "MOST_RUN_sways" 60]
/-! ### what the top has written, as one structure -/
abbrev cNoWeb (K : PySem.W.Frag) : Addr := He.ga K "NoWeb"
abbrev cNoTable (K : PySem.W.Frag) : Addr := He.ga K "NoTable"
abbrev cNoRoom (K : PySem.W.Frag) : Addr := He.ga K "NoRoom"
abbrev cNoBeat (K : PySem.W.Frag) : Addr := He.ga K "NoBeat"
abbrev cNoStand (K : PySem.W.Frag) : Addr := He.ga K "NoStand"
abbrev cTooMany (K : PySem.W.Frag) : Addr := He.ga K "TooMany"
abbrev cSeen (K : PySem.W.Frag) : Addr := He.ga K "Seen"
abbrev cForgotten (K : PySem.W.Frag) : Addr := He.ga K "Forgotten"
abbrev cBusy (K : PySem.W.Frag) : Addr := He.ga K "Busy"
abbrev cRoom (K : PySem.W.Frag) : Addr := He.ga K "Room"
abbrev cWeb (K : PySem.W.Frag) : Addr := He.ga K "Web"
abbrev cStretch (K : PySem.W.Frag) : Addr := He.ga K "Stretch"
abbrev cRoad (K : PySem.W.Frag) : Addr := He.ga K "Road"
abbrev cHouse (K : PySem.W.Frag) : Addr := He.ga K "House"
structure Tx (K : PySem.W.Frag) (mg : Str → Option Value) : Prop where
  g_is_whole : mg "is_whole" = some (.ref (He.ga K "is_whole"))
  g_is_from : mg "is_from" = some (.ref (He.ga K "is_from"))
  g_is_size : mg "is_size" = some (.ref (He.ga K "is_size"))
  g_are_hears : mg "are_hears" = some (.ref (He.ga K "are_hears"))
  g_rows_heard : mg "rows_heard" = some (.ref (He.ga K "rows_heard"))
  g_is_rule : mg "is_rule" = some (.ref (He.ga K "is_rule"))
  g_fault_of : mg "fault_of" = some (.ref (He.ga K "fault_of"))
  g_look_rooms : mg "look_rooms" = some (.ref (He.ga K "look_rooms"))
  g_look_room : mg "look_room" = some (.ref (He.ga K "look_room"))
  g_look_cell : mg "look_cell" = some (.ref (He.ga K "look_cell"))
  g_look_beat : mg "look_beat" = some (.ref (He.ga K "look_beat"))
  g_look_stand : mg "look_stand" = some (.ref (He.ga K "look_stand"))
  g_told_by : mg "told_by" = some (.ref (He.ga K "told_by"))
  g_look_tables : mg "look_tables" = some (.ref (He.ga K "look_tables"))
  g_is_known : mg "is_known" = some (.ref (He.ga K "is_known"))
  g_poked_beats : mg "poked_beats" = some (.ref (He.ga K "poked_beats"))
  g_heard_cells : mg "heard_cells" = some (.ref (He.ga K "heard_cells"))
  g_rooms_heard : mg "rooms_heard" = some (.ref (He.ga K "rooms_heard"))
  g_gone_down : mg "gone_down" = some (.ref (He.ga K "gone_down"))
  g_walked_down : mg "walked_down" = some (.ref (He.ga K "walked_down"))
  g_run_many : mg "run_many" = some (.ref (He.ga K "run_many"))
  g_cells_needed : mg "cells_needed" = some (.ref (He.ga K "cells_needed"))
  g_needed : mg "needed" = some (.ref (He.ga K "needed"))
  g_by_beats : mg "by_beats" = some (.ref (He.ga K "by_beats"))
  g_known_stand : mg "known_stand" = some (.ref (He.ga K "known_stand"))
  g_stand_by : mg "stand_by" = some (.ref (He.ga K "stand_by"))
  g_least_other : mg "least_other" = some (.ref (He.ga K "least_other"))
  g_swayers : mg "swayers" = some (.ref (He.ga K "swayers"))
  g_way_down : mg "way_down" = some (.ref (He.ga K "way_down"))
  g_L_bag : mg "_law_bag" = some (.ref (He.ga K "_law_bag"))
  g_L_take : mg "_law_take" = some (.ref (He.ga K "_law_take"))
  g_L_parts : mg "_law_parts" = some (.ref (He.ga K "_law_parts"))
  g_L_net : mg "_law_net" = some (.ref (He.ga K "_law_net"))
  g_L_pins : mg "_law_pins" = some (.ref (He.ga K "_law_pins"))
  g_L_poked : mg "_law_poked" = some (.ref (He.ga K "_law_poked"))
  g_L_sways_right : mg "_law_sways_right" = some (.ref (He.ga K "_law_sways_right"))
  g_L_else_right : mg "_law_else_right" = some (.ref (He.ga K "_law_else_right"))
  g_L_seen_right : mg "_law_seen_right" = some (.ref (He.ga K "_law_seen_right"))
  g_law : mg "law" = some (.ref (He.ga K "law"))
  g_Seen : mg "Seen" = some (.ref (He.ga K "Seen"))
  g_Room : mg "Room" = some (.ref (He.ga K "Room"))
  g_Web : mg "Web" = some (.ref (He.ga K "Web"))
  g_House : mg "House" = some (.ref (He.ga K "House"))
  c_Room : Cls K (cRoom K)
  m_Room : Mk K (cRoom K) (He.ma K (cRoom K) "__init__")
  n_Room_hears : NoAttr K (cRoom K) "hears"
  n_Room_size : NoAttr K (cRoom K) "size"
  n_Room_first : NoAttr K (cRoom K) "first"
  n_Room_rule : NoAttr K (cRoom K) "rule"
  c_Web : Cls K (cWeb K)
  m_Web : Mk K (cWeb K) (He.ma K (cWeb K) "__init__")
  n_Web_kept : NoAttr K (cWeb K) "kept"
  t_Web_rooms : Meth K (cWeb K) "rooms" (He.ma K (cWeb K) "rooms")
  t_Web_lot : Meth K (cWeb K) "lot" (He.ma K (cWeb K) "lot")
  t_Web_len : Meth K (cWeb K) "__len__" (He.ma K (cWeb K) "__len__")
  c_House : Cls K (cHouse K)
  m_House : Mk K (cHouse K) (He.ma K (cHouse K) "__init__")
  n_House_of_web : NoAttr K (cHouse K) "of_web"
  n_House_pins : NoAttr K (cHouse K) "pins"
  n_House_run : NoAttr K (cHouse K) "run"
  n_House_asked : NoAttr K (cHouse K) "asked"
  n_House_heard : NoAttr K (cHouse K) "heard"
  n_House_looked : NoAttr K (cHouse K) "looked"
  n_House_kept : NoAttr K (cHouse K) "kept"
  n_House_roads : NoAttr K (cHouse K) "roads"
  n_House_far_tops : NoAttr K (cHouse K) "far_tops"
  n_House_is_busy : NoAttr K (cHouse K) "is_busy"
  t_House_look_free : Meth K (cHouse K) "look_free" (He.ma K (cHouse K) "look_free")
  t_House_look_forgotten : Meth K (cHouse K) "look_forgotten" (He.ma K (cHouse K) "look_forgotten")
  t_House_is_forgotten : Meth K (cHouse K) "is_forgotten" (He.ma K (cHouse K) "is_forgotten")
  t_House_is_far : Meth K (cHouse K) "is_far" (He.ma K (cHouse K) "is_far")
  t_House_is_given : Meth K (cHouse K) "is_given" (He.ma K (cHouse K) "is_given")
  t_House_needs_none : Meth K (cHouse K) "needs_none" (He.ma K (cHouse K) "needs_none")
  t_House_is_seen : Meth K (cHouse K) "is_seen" (He.ma K (cHouse K) "is_seen")
  t_House_at_cell : Meth K (cHouse K) "at_cell" (He.ma K (cHouse K) "at_cell")
  t_House_walked : Meth K (cHouse K) "walked" (He.ma K (cHouse K) "walked")
  t_House_run_cell : Meth K (cHouse K) "run_cell" (He.ma K (cHouse K) "run_cell")
  t_House_run_all : Meth K (cHouse K) "run_all" (He.ma K (cHouse K) "run_all")
  t_House_look : Meth K (cHouse K) "look" (He.ma K (cHouse K) "look")
  t_House_is_free : Meth K (cHouse K) "is_free" (He.ma K (cHouse K) "is_free")
  t_House_poke : Meth K (cHouse K) "poke" (He.ma K (cHouse K) "poke")
  t_House_askers : Meth K (cHouse K) "askers" (He.ma K (cHouse K) "askers")
  t_House_way_seen : Meth K (cHouse K) "way_seen" (He.ma K (cHouse K) "way_seen")
  t_House_copy : Meth K (cHouse K) "copy" (He.ma K (cHouse K) "copy")
  t_House_web : Meth K (cHouse K) "web" (He.ma K (cHouse K) "web")
  t_House_pokes : Meth K (cHouse K) "pokes" (He.ma K (cHouse K) "pokes")
  f_abs : mg "abs" = none
  f_all : mg "all" = none
  f_bool : mg "bool" = none
  f_dict : mg "dict" = none
  f_int : mg "int" = none
  f_isinstance : mg "isinstance" = none
  f_len : mg "len" = none
  f_list : mg "list" = none
  f_max : mg "max" = none
  f_min : mg "min" = none
  f_range : mg "range" = none
  f_set : mg "set" = none
  f_sorted : mg "sorted" = none
  f_tuple : mg "tuple" = none
  f_zip : mg "zip" = none
  i_MOST_ROOMS : ∃ t, mg "MOST_ROOMS" = some (.int 12 t)
  i_MOST_HEARD : ∃ t, mg "MOST_HEARD" = some (.int 3 t)
  i_MOST_SIZE : ∃ t, mg "MOST_SIZE" = some (.int 60 t)
  i_MOST_TABLE : ∃ t, mg "MOST_TABLE" = some (.int 2000 t)
  i_LAST_BEAT : ∃ t, mg "LAST_BEAT" = some (.int 1000000000000000000000000000000000000000000000000000000000000 t)
  i_MOST_RUN_needs : ∃ t, mg "MOST_RUN_needs" = some (.int 2000 t)
  i_MOST_RUN_sways : ∃ t, mg "MOST_RUN_sways" = some (.int 60 t)
  d_Seen_init : ∃ fd, FunD K "__init__" "Seen.__init__" (defArgs s_Seen_init) (defBody s_Seen_init) (defScope s_Seen_init) (d_Seen_init.dvs K) (d_Seen_init.kws K) (He.fAd K d_Seen_init.at_) fd
  d_is_whole : ∃ fd, FunD K "is_whole" "is_whole" (defArgs s_is_whole) (defBody s_is_whole) (defScope s_is_whole) (d_is_whole.dvs K) (d_is_whole.kws K) (He.fAd K d_is_whole.at_) fd
  d_is_from : ∃ fd, FunD K "is_from" "is_from" (defArgs s_is_from) (defBody s_is_from) (defScope s_is_from) (d_is_from.dvs K) (d_is_from.kws K) (He.fAd K d_is_from.at_) fd
  d_Room_init : ∃ fd, FunD K "__init__" "Room.__init__" (defArgs s_Room_init) (defBody s_Room_init) (defScope s_Room_init) (d_Room_init.dvs K) (d_Room_init.kws K) (He.fAd K d_Room_init.at_) fd
  d_is_size : ∃ fd, FunD K "is_size" "is_size" (defArgs s_is_size) (defBody s_is_size) (defScope s_is_size) (d_is_size.dvs K) (d_is_size.kws K) (He.fAd K d_is_size.at_) fd
  d_are_hears : ∃ fd, FunD K "are_hears" "are_hears" (defArgs s_are_hears) (defBody s_are_hears) (defScope s_are_hears) (d_are_hears.dvs K) (d_are_hears.kws K) (He.fAd K d_are_hears.at_) fd
  d_rows_heard : ∃ fd, FunD K "rows_heard" "rows_heard" (defArgs s_rows_heard) (defBody s_rows_heard) (defScope s_rows_heard) (d_rows_heard.dvs K) (d_rows_heard.kws K) (He.fAd K d_rows_heard.at_) fd
  d_is_rule : ∃ fd, FunD K "is_rule" "is_rule" (defArgs s_is_rule) (defBody s_is_rule) (defScope s_is_rule) (d_is_rule.dvs K) (d_is_rule.kws K) (He.fAd K d_is_rule.at_) fd
  d_fault_of : ∃ fd, FunD K "fault_of" "fault_of" (defArgs s_fault_of) (defBody s_fault_of) (defScope s_fault_of) (d_fault_of.dvs K) (d_fault_of.kws K) (He.fAd K d_fault_of.at_) fd
  d_look_rooms : ∃ fd, FunD K "look_rooms" "look_rooms" (defArgs s_look_rooms) (defBody s_look_rooms) (defScope s_look_rooms) (d_look_rooms.dvs K) (d_look_rooms.kws K) (He.fAd K d_look_rooms.at_) fd
  d_Web_init : ∃ fd, FunD K "__init__" "Web.__init__" (defArgs s_Web_init) (defBody s_Web_init) (defScope s_Web_init) (d_Web_init.dvs K) (d_Web_init.kws K) (He.fAd K d_Web_init.at_) fd
  d_Web_rooms : ∃ fd, FunD K "rooms" "Web.rooms" (defArgs s_Web_rooms) (defBody s_Web_rooms) (defScope s_Web_rooms) (d_Web_rooms.dvs K) (d_Web_rooms.kws K) (He.fAd K d_Web_rooms.at_) fd
  d_Web_lot : ∃ fd, FunD K "lot" "Web.lot" (defArgs s_Web_lot) (defBody s_Web_lot) (defScope s_Web_lot) (d_Web_lot.dvs K) (d_Web_lot.kws K) (He.fAd K d_Web_lot.at_) fd
  d_Web_len : ∃ fd, FunD K "__len__" "Web.__len__" (defArgs s_Web_len) (defBody s_Web_len) (defScope s_Web_len) (d_Web_len.dvs K) (d_Web_len.kws K) (He.fAd K d_Web_len.at_) fd
  d_look_room : ∃ fd, FunD K "look_room" "look_room" (defArgs s_look_room) (defBody s_look_room) (defScope s_look_room) (d_look_room.dvs K) (d_look_room.kws K) (He.fAd K d_look_room.at_) fd
  d_look_cell : ∃ fd, FunD K "look_cell" "look_cell" (defArgs s_look_cell) (defBody s_look_cell) (defScope s_look_cell) (d_look_cell.dvs K) (d_look_cell.kws K) (He.fAd K d_look_cell.at_) fd
  d_look_beat : ∃ fd, FunD K "look_beat" "look_beat" (defArgs s_look_beat) (defBody s_look_beat) (defScope s_look_beat) (d_look_beat.dvs K) (d_look_beat.kws K) (He.fAd K d_look_beat.at_) fd
  d_look_stand : ∃ fd, FunD K "look_stand" "look_stand" (defArgs s_look_stand) (defBody s_look_stand) (defScope s_look_stand) (d_look_stand.dvs K) (d_look_stand.kws K) (He.fAd K d_look_stand.at_) fd
  d_told_by : ∃ fd, FunD K "told_by" "told_by" (defArgs s_told_by) (defBody s_told_by) (defScope s_told_by) (d_told_by.dvs K) (d_told_by.kws K) (He.fAd K d_told_by.at_) fd
  d_look_tables : ∃ fd, FunD K "look_tables" "look_tables" (defArgs s_look_tables) (defBody s_look_tables) (defScope s_look_tables) (d_look_tables.dvs K) (d_look_tables.kws K) (He.fAd K d_look_tables.at_) fd
  d_is_known : ∃ fd, FunD K "is_known" "is_known" (defArgs s_is_known) (defBody s_is_known) (defScope s_is_known) (d_is_known.dvs K) (d_is_known.kws K) (He.fAd K d_is_known.at_) fd
  d_poked_beats : ∃ fd, FunD K "poked_beats" "poked_beats" (defArgs s_poked_beats) (defBody s_poked_beats) (defScope s_poked_beats) (d_poked_beats.dvs K) (d_poked_beats.kws K) (He.fAd K d_poked_beats.at_) fd
  d_heard_cells : ∃ fd, FunD K "heard_cells" "heard_cells" (defArgs s_heard_cells) (defBody s_heard_cells) (defScope s_heard_cells) (d_heard_cells.dvs K) (d_heard_cells.kws K) (He.fAd K d_heard_cells.at_) fd
  d_rooms_heard : ∃ fd, FunD K "rooms_heard" "rooms_heard" (defArgs s_rooms_heard) (defBody s_rooms_heard) (defScope s_rooms_heard) (d_rooms_heard.dvs K) (d_rooms_heard.kws K) (He.fAd K d_rooms_heard.at_) fd
  d_gone_down : ∃ fd, FunD K "gone_down" "gone_down" (defArgs s_gone_down) (defBody s_gone_down) (defScope s_gone_down) (d_gone_down.dvs K) (d_gone_down.kws K) (He.fAd K d_gone_down.at_) fd
  d_walked_down : ∃ fd, FunD K "walked_down" "walked_down" (defArgs s_walked_down) (defBody s_walked_down) (defScope s_walked_down) (d_walked_down.dvs K) (d_walked_down.kws K) (He.fAd K d_walked_down.at_) fd
  d_run_many : ∃ fd, FunD K "run_many" "run_many" (defArgs s_run_many) (defBody s_run_many) (defScope s_run_many) (d_run_many.dvs K) (d_run_many.kws K) (He.fAd K d_run_many.at_) fd
  d_cells_needed : ∃ fd, FunD K "cells_needed" "cells_needed" (defArgs s_cells_needed) (defBody s_cells_needed) (defScope s_cells_needed) (d_cells_needed.dvs K) (d_cells_needed.kws K) (He.fAd K d_cells_needed.at_) fd
  d_needed : ∃ fd, FunD K "needed" "needed" (defArgs s_needed) (defBody s_needed) (defScope s_needed) (d_needed.dvs K) (d_needed.kws K) (He.fAd K d_needed.at_) fd
  d_by_beats : ∃ fd, FunD K "by_beats" "by_beats" (defArgs s_by_beats) (defBody s_by_beats) (defScope s_by_beats) (d_by_beats.dvs K) (d_by_beats.kws K) (He.fAd K d_by_beats.at_) fd
  d_known_stand : ∃ fd, FunD K "known_stand" "known_stand" (defArgs s_known_stand) (defBody s_known_stand) (defScope s_known_stand) (d_known_stand.dvs K) (d_known_stand.kws K) (He.fAd K d_known_stand.at_) fd
  d_stand_by : ∃ fd, FunD K "stand_by" "stand_by" (defArgs s_stand_by) (defBody s_stand_by) (defScope s_stand_by) (d_stand_by.dvs K) (d_stand_by.kws K) (He.fAd K d_stand_by.at_) fd
  d_least_other : ∃ fd, FunD K "least_other" "least_other" (defArgs s_least_other) (defBody s_least_other) (defScope s_least_other) (d_least_other.dvs K) (d_least_other.kws K) (He.fAd K d_least_other.at_) fd
  d_swayers : ∃ fd, FunD K "swayers" "swayers" (defArgs s_swayers) (defBody s_swayers) (defScope s_swayers) (d_swayers.dvs K) (d_swayers.kws K) (He.fAd K d_swayers.at_) fd
  d_House_init : ∃ fd, FunD K "__init__" "House.__init__" (defArgs s_House_init) (defBody s_House_init) (defScope s_House_init) (d_House_init.dvs K) (d_House_init.kws K) (He.fAd K d_House_init.at_) fd
  d_House_look_free : ∃ fd, FunD K "look_free" "House.look_free" (defArgs s_House_look_free) (defBody s_House_look_free) (defScope s_House_look_free) (d_House_look_free.dvs K) (d_House_look_free.kws K) (He.fAd K d_House_look_free.at_) fd
  d_House_look_forgotten : ∃ fd, FunD K "look_forgotten" "House.look_forgotten" (defArgs s_House_look_forgotten) (defBody s_House_look_forgotten) (defScope s_House_look_forgotten) (d_House_look_forgotten.dvs K) (d_House_look_forgotten.kws K) (He.fAd K d_House_look_forgotten.at_) fd
  d_House_is_forgotten : ∃ fd, FunD K "is_forgotten" "House.is_forgotten" (defArgs s_House_is_forgotten) (defBody s_House_is_forgotten) (defScope s_House_is_forgotten) (d_House_is_forgotten.dvs K) (d_House_is_forgotten.kws K) (He.fAd K d_House_is_forgotten.at_) fd
  d_House_is_far : ∃ fd, FunD K "is_far" "House.is_far" (defArgs s_House_is_far) (defBody s_House_is_far) (defScope s_House_is_far) (d_House_is_far.dvs K) (d_House_is_far.kws K) (He.fAd K d_House_is_far.at_) fd
  d_House_is_given : ∃ fd, FunD K "is_given" "House.is_given" (defArgs s_House_is_given) (defBody s_House_is_given) (defScope s_House_is_given) (d_House_is_given.dvs K) (d_House_is_given.kws K) (He.fAd K d_House_is_given.at_) fd
  d_House_needs_none : ∃ fd, FunD K "needs_none" "House.needs_none" (defArgs s_House_needs_none) (defBody s_House_needs_none) (defScope s_House_needs_none) (d_House_needs_none.dvs K) (d_House_needs_none.kws K) (He.fAd K d_House_needs_none.at_) fd
  d_House_is_seen : ∃ fd, FunD K "is_seen" "House.is_seen" (defArgs s_House_is_seen) (defBody s_House_is_seen) (defScope s_House_is_seen) (d_House_is_seen.dvs K) (d_House_is_seen.kws K) (He.fAd K d_House_is_seen.at_) fd
  d_House_at_cell : ∃ fd, FunD K "at_cell" "House.at_cell" (defArgs s_House_at_cell) (defBody s_House_at_cell) (defScope s_House_at_cell) (d_House_at_cell.dvs K) (d_House_at_cell.kws K) (He.fAd K d_House_at_cell.at_) fd
  d_House_walked : ∃ fd, FunD K "walked" "House.walked" (defArgs s_House_walked) (defBody s_House_walked) (defScope s_House_walked) (d_House_walked.dvs K) (d_House_walked.kws K) (He.fAd K d_House_walked.at_) fd
  d_House_run_cell : ∃ fd, FunD K "run_cell" "House.run_cell" (defArgs s_House_run_cell) (defBody s_House_run_cell) (defScope s_House_run_cell) (d_House_run_cell.dvs K) (d_House_run_cell.kws K) (He.fAd K d_House_run_cell.at_) fd
  d_House_run_all : ∃ fd, FunD K "run_all" "House.run_all" (defArgs s_House_run_all) (defBody s_House_run_all) (defScope s_House_run_all) (d_House_run_all.dvs K) (d_House_run_all.kws K) (He.fAd K d_House_run_all.at_) fd
  d_House_look : ∃ fd, FunD K "look" "House.look" (defArgs s_House_look) (defBody s_House_look) (defScope s_House_look) (d_House_look.dvs K) (d_House_look.kws K) (He.fAd K d_House_look.at_) fd
  d_House_is_free : ∃ fd, FunD K "is_free" "House.is_free" (defArgs s_House_is_free) (defBody s_House_is_free) (defScope s_House_is_free) (d_House_is_free.dvs K) (d_House_is_free.kws K) (He.fAd K d_House_is_free.at_) fd
  d_House_poke : ∃ fd, FunD K "poke" "House.poke" (defArgs s_House_poke) (defBody s_House_poke) (defScope s_House_poke) (d_House_poke.dvs K) (d_House_poke.kws K) (He.fAd K d_House_poke.at_) fd
  d_House_askers : ∃ fd, FunD K "askers" "House.askers" (defArgs s_House_askers) (defBody s_House_askers) (defScope s_House_askers) (d_House_askers.dvs K) (d_House_askers.kws K) (He.fAd K d_House_askers.at_) fd
  d_House_way_seen : ∃ fd, FunD K "way_seen" "House.way_seen" (defArgs s_House_way_seen) (defBody s_House_way_seen) (defScope s_House_way_seen) (d_House_way_seen.dvs K) (d_House_way_seen.kws K) (He.fAd K d_House_way_seen.at_) fd
  d_House_copy : ∃ fd, FunD K "copy" "House.copy" (defArgs s_House_copy) (defBody s_House_copy) (defScope s_House_copy) (d_House_copy.dvs K) (d_House_copy.kws K) (He.fAd K d_House_copy.at_) fd
  d_House_web : ∃ fd, FunD K "web" "House.web" (defArgs s_House_web) (defBody s_House_web) (defScope s_House_web) (d_House_web.dvs K) (d_House_web.kws K) (He.fAd K d_House_web.at_) fd
  d_House_pokes : ∃ fd, FunD K "pokes" "House.pokes" (defArgs s_House_pokes) (defBody s_House_pokes) (defScope s_House_pokes) (d_House_pokes.dvs K) (d_House_pokes.kws K) (He.fAd K d_House_pokes.at_) fd
  d_way_down : ∃ fd, FunD K "way_down" "way_down" (defArgs s_way_down) (defBody s_way_down) (defScope s_way_down) (d_way_down.dvs K) (d_way_down.kws K) (He.fAd K d_way_down.at_) fd
  d_L_bag : ∃ fd, FunD K "_law_bag" "_law_bag" (defArgs s_L_bag) (defBody s_L_bag) (defScope s_L_bag) (d_L_bag.dvs K) (d_L_bag.kws K) (He.fAd K d_L_bag.at_) fd
  d_L_take : ∃ fd, FunD K "_law_take" "_law_take" (defArgs s_L_take) (defBody s_L_take) (defScope s_L_take) (d_L_take.dvs K) (d_L_take.kws K) (He.fAd K d_L_take.at_) fd
  d_L_parts : ∃ fd, FunD K "_law_parts" "_law_parts" (defArgs s_L_parts) (defBody s_L_parts) (defScope s_L_parts) (d_L_parts.dvs K) (d_L_parts.kws K) (He.fAd K d_L_parts.at_) fd
  d_L_net : ∃ fd, FunD K "_law_net" "_law_net" (defArgs s_L_net) (defBody s_L_net) (defScope s_L_net) (d_L_net.dvs K) (d_L_net.kws K) (He.fAd K d_L_net.at_) fd
  d_L_pins : ∃ fd, FunD K "_law_pins" "_law_pins" (defArgs s_L_pins) (defBody s_L_pins) (defScope s_L_pins) (d_L_pins.dvs K) (d_L_pins.kws K) (He.fAd K d_L_pins.at_) fd
  d_L_poked : ∃ fd, FunD K "_law_poked" "_law_poked" (defArgs s_L_poked) (defBody s_L_poked) (defScope s_L_poked) (d_L_poked.dvs K) (d_L_poked.kws K) (He.fAd K d_L_poked.at_) fd
  d_L_sways_right : ∃ fd, FunD K "_law_sways_right" "_law_sways_right" (defArgs s_L_sways_right) (defBody s_L_sways_right) (defScope s_L_sways_right) (d_L_sways_right.dvs K) (d_L_sways_right.kws K) (He.fAd K d_L_sways_right.at_) fd
  d_L_else_right : ∃ fd, FunD K "_law_else_right" "_law_else_right" (defArgs s_L_else_right) (defBody s_L_else_right) (defScope s_L_else_right) (d_L_else_right.dvs K) (d_L_else_right.kws K) (He.fAd K d_L_else_right.at_) fd
  d_L_seen_right : ∃ fd, FunD K "_law_seen_right" "_law_seen_right" (defArgs s_L_seen_right) (defBody s_L_seen_right) (defScope s_L_seen_right) (d_L_seen_right.dvs K) (d_L_seen_right.kws K) (He.fAd K d_L_seen_right.at_) fd
  d_law : ∃ fd, FunD K "law" "law" (defArgs s_law) (defBody s_law) (defScope s_law) (d_law.dvs K) (d_law.kws K) (He.fAd K d_law.at_) fd
theorem tx_of {K : PySem.W.Frag} {h : Heap} {mg : Str → Option Value} (X : K.In h) (G : h.Ns mainGlobals mg) (c : He.SaysD fas dfs K) : Tx K mg := by
  refine ⟨?_, ?_, ?_, ?_, ?_, ?_, ?_, ?_, ?_, ?_, ?_, ?_, ?_, ?_, ?_, ?_, ?_, ?_, ?_, ?_, ?_, ?_, ?_, ?_, ?_, ?_, ?_, ?_, ?_, ?_, ?_, ?_, ?_, ?_, ?_, ?_, ?_, ?_, ?_, ?_, ?_, ?_, ?_, ?_, ?_, ?_, ?_, ?_, ?_, ?_, ?_, ?_, ?_, ?_, ?_, ?_, ?_, ?_, ?_, ?_, ?_, ?_, ?_, ?_, ?_, ?_, ?_, ?_, ?_, ?_, ?_, ?_, ?_, ?_, ?_, ?_, ?_, ?_, ?_, ?_, ?_, ?_, ?_, ?_, ?_, ?_, ?_, ?_, ?_, ?_, ?_, ?_, ?_, ?_, ?_, ?_, ?_, ?_, ?_, ?_, ?_, ?_, ?_, ?_, ?_, ?_, ?_, ?_, ?_, ?_, ?_, ?_, ?_, ?_, ?_, ?_, ?_, ?_, ?_, ?_, ?_, ?_, ?_, ?_, ?_, ?_, ?_, ?_, ?_, ?_, ?_, ?_, ?_, ?_, ?_, ?_, ?_, ?_, ?_, ?_, ?_, ?_, ?_, ?_, ?_, ?_, ?_, ?_, ?_, ?_, ?_, ?_, ?_, ?_, ?_, ?_, ?_, ?_, ?_, ?_, ?_, ?_, ?_, ?_, ?_, ?_, ?_, ?_, ?_, ?_, ?_, ?_, ?_⟩
  · exact He.glo_ok X G (c.fact 0)
  · exact He.glo_ok X G (c.fact 1)
  · exact He.glo_ok X G (c.fact 2)
  · exact He.glo_ok X G (c.fact 3)
  · exact He.glo_ok X G (c.fact 4)
  · exact He.glo_ok X G (c.fact 5)
  · exact He.glo_ok X G (c.fact 6)
  · exact He.glo_ok X G (c.fact 7)
  · exact He.glo_ok X G (c.fact 8)
  · exact He.glo_ok X G (c.fact 9)
  · exact He.glo_ok X G (c.fact 10)
  · exact He.glo_ok X G (c.fact 11)
  · exact He.glo_ok X G (c.fact 12)
  · exact He.glo_ok X G (c.fact 13)
  · exact He.glo_ok X G (c.fact 14)
  · exact He.glo_ok X G (c.fact 15)
  · exact He.glo_ok X G (c.fact 16)
  · exact He.glo_ok X G (c.fact 17)
  · exact He.glo_ok X G (c.fact 18)
  · exact He.glo_ok X G (c.fact 19)
  · exact He.glo_ok X G (c.fact 20)
  · exact He.glo_ok X G (c.fact 21)
  · exact He.glo_ok X G (c.fact 22)
  · exact He.glo_ok X G (c.fact 23)
  · exact He.glo_ok X G (c.fact 24)
  · exact He.glo_ok X G (c.fact 25)
  · exact He.glo_ok X G (c.fact 26)
  · exact He.glo_ok X G (c.fact 27)
  · exact He.glo_ok X G (c.fact 28)
  · exact He.glo_ok X G (c.fact 29)
  · exact He.glo_ok X G (c.fact 30)
  · exact He.glo_ok X G (c.fact 31)
  · exact He.glo_ok X G (c.fact 32)
  · exact He.glo_ok X G (c.fact 33)
  · exact He.glo_ok X G (c.fact 34)
  · exact He.glo_ok X G (c.fact 35)
  · exact He.glo_ok X G (c.fact 36)
  · exact He.glo_ok X G (c.fact 37)
  · exact He.glo_ok X G (c.fact 38)
  · exact He.glo_ok X G (c.fact 39)
  · exact He.glo_ok X G (c.fact 40)
  · exact He.glo_ok X G (c.fact 41)
  · exact He.glo_ok X G (c.fact 42)
  · exact He.cls_ok (c.fact 43)
  · exact He.mkr_ok (c.fact 44)
  · exact He.noat_ok (c.fact 45)
  · exact He.noat_ok (c.fact 46)
  · exact He.noat_ok (c.fact 47)
  · exact He.noat_ok (c.fact 48)
  · exact He.cls_ok (c.fact 49)
  · exact He.mkr_ok (c.fact 50)
  · exact He.noat_ok (c.fact 51)
  · exact He.meth_ok (c.fact 52)
  · exact He.meth_ok (c.fact 53)
  · exact He.meth_ok (c.fact 54)
  · exact He.cls_ok (c.fact 55)
  · exact He.mkr_ok (c.fact 56)
  · exact He.noat_ok (c.fact 57)
  · exact He.noat_ok (c.fact 58)
  · exact He.noat_ok (c.fact 59)
  · exact He.noat_ok (c.fact 60)
  · exact He.noat_ok (c.fact 61)
  · exact He.noat_ok (c.fact 62)
  · exact He.noat_ok (c.fact 63)
  · exact He.noat_ok (c.fact 64)
  · exact He.noat_ok (c.fact 65)
  · exact He.noat_ok (c.fact 66)
  · exact He.meth_ok (c.fact 67)
  · exact He.meth_ok (c.fact 68)
  · exact He.meth_ok (c.fact 69)
  · exact He.meth_ok (c.fact 70)
  · exact He.meth_ok (c.fact 71)
  · exact He.meth_ok (c.fact 72)
  · exact He.meth_ok (c.fact 73)
  · exact He.meth_ok (c.fact 74)
  · exact He.meth_ok (c.fact 75)
  · exact He.meth_ok (c.fact 76)
  · exact He.meth_ok (c.fact 77)
  · exact He.meth_ok (c.fact 78)
  · exact He.meth_ok (c.fact 79)
  · exact He.meth_ok (c.fact 80)
  · exact He.meth_ok (c.fact 81)
  · exact He.meth_ok (c.fact 82)
  · exact He.meth_ok (c.fact 83)
  · exact He.meth_ok (c.fact 84)
  · exact He.meth_ok (c.fact 85)
  · exact He.free_ok X G (c.fact 86)
  · exact He.free_ok X G (c.fact 87)
  · exact He.free_ok X G (c.fact 88)
  · exact He.free_ok X G (c.fact 89)
  · exact He.free_ok X G (c.fact 90)
  · exact He.free_ok X G (c.fact 91)
  · exact He.free_ok X G (c.fact 92)
  · exact He.free_ok X G (c.fact 93)
  · exact He.free_ok X G (c.fact 94)
  · exact He.free_ok X G (c.fact 95)
  · exact He.free_ok X G (c.fact 96)
  · exact He.free_ok X G (c.fact 97)
  · exact He.free_ok X G (c.fact 98)
  · exact He.free_ok X G (c.fact 99)
  · exact He.free_ok X G (c.fact 100)
  · exact He.int_ok X G (c.fact 101)
  · exact He.int_ok X G (c.fact 102)
  · exact He.int_ok X G (c.fact 103)
  · exact He.int_ok X G (c.fact 104)
  · exact He.int_ok X G (c.fact 105)
  · exact He.int_ok X G (c.fact 106)
  · exact He.int_ok X G (c.fact 107)
  · exact c.def_ 0 (d := d_Seen_init)
  · exact c.def_ 1 (d := d_is_whole)
  · exact c.def_ 2 (d := d_is_from)
  · exact c.def_ 3 (d := d_Room_init)
  · exact c.def_ 4 (d := d_is_size)
  · exact c.def_ 5 (d := d_are_hears)
  · exact c.def_ 6 (d := d_rows_heard)
  · exact c.def_ 7 (d := d_is_rule)
  · exact c.def_ 8 (d := d_fault_of)
  · exact c.def_ 9 (d := d_look_rooms)
  · exact c.def_ 10 (d := d_Web_init)
  · exact c.def_ 11 (d := d_Web_rooms)
  · exact c.def_ 12 (d := d_Web_lot)
  · exact c.def_ 13 (d := d_Web_len)
  · exact c.def_ 14 (d := d_look_room)
  · exact c.def_ 15 (d := d_look_cell)
  · exact c.def_ 16 (d := d_look_beat)
  · exact c.def_ 17 (d := d_look_stand)
  · exact c.def_ 18 (d := d_told_by)
  · exact c.def_ 19 (d := d_look_tables)
  · exact c.def_ 20 (d := d_is_known)
  · exact c.def_ 21 (d := d_poked_beats)
  · exact c.def_ 22 (d := d_heard_cells)
  · exact c.def_ 23 (d := d_rooms_heard)
  · exact c.def_ 24 (d := d_gone_down)
  · exact c.def_ 25 (d := d_walked_down)
  · exact c.def_ 26 (d := d_run_many)
  · exact c.def_ 27 (d := d_cells_needed)
  · exact c.def_ 28 (d := d_needed)
  · exact c.def_ 29 (d := d_by_beats)
  · exact c.def_ 30 (d := d_known_stand)
  · exact c.def_ 31 (d := d_stand_by)
  · exact c.def_ 32 (d := d_least_other)
  · exact c.def_ 33 (d := d_swayers)
  · exact c.def_ 34 (d := d_House_init)
  · exact c.def_ 35 (d := d_House_look_free)
  · exact c.def_ 36 (d := d_House_look_forgotten)
  · exact c.def_ 37 (d := d_House_is_forgotten)
  · exact c.def_ 38 (d := d_House_is_far)
  · exact c.def_ 39 (d := d_House_is_given)
  · exact c.def_ 40 (d := d_House_needs_none)
  · exact c.def_ 41 (d := d_House_is_seen)
  · exact c.def_ 42 (d := d_House_at_cell)
  · exact c.def_ 43 (d := d_House_walked)
  · exact c.def_ 44 (d := d_House_run_cell)
  · exact c.def_ 45 (d := d_House_run_all)
  · exact c.def_ 46 (d := d_House_look)
  · exact c.def_ 47 (d := d_House_is_free)
  · exact c.def_ 48 (d := d_House_poke)
  · exact c.def_ 49 (d := d_House_askers)
  · exact c.def_ 50 (d := d_House_way_seen)
  · exact c.def_ 51 (d := d_House_copy)
  · exact c.def_ 52 (d := d_House_web)
  · exact c.def_ 53 (d := d_House_pokes)
  · exact c.def_ 54 (d := d_way_down)
  · exact c.def_ 55 (d := d_L_bag)
  · exact c.def_ 56 (d := d_L_take)
  · exact c.def_ 57 (d := d_L_parts)
  · exact c.def_ 58 (d := d_L_net)
  · exact c.def_ 59 (d := d_L_pins)
  · exact c.def_ 60 (d := d_L_poked)
  · exact c.def_ 61 (d := d_L_sways_right)
  · exact c.def_ 62 (d := d_L_else_right)
  · exact c.def_ 63 (d := d_L_seen_right)
  · exact c.def_ 64 (d := d_law)
/-! ### how arguments come to parameters -/
theorem b_Seen_init {K : PySem.W.Frag} {f : Addr} (fd : FuncData) (F : FunD K "__init__" "Seen.__init__" (defArgs s_Seen_init) (defBody s_Seen_init) (defScope s_Seen_init) [] [] f fd) : Binds K fd ["self", "way"] [] := F.bindsN fun _ _ _ _ _ _ us hl => match us, hl with | [_, _], _ => rfl
theorem b_is_whole {K : PySem.W.Frag} {f : Addr} (fd : FuncData) (F : FunD K "is_whole" "is_whole" (defArgs s_is_whole) (defBody s_is_whole) (defScope s_is_whole) [] [] f fd) : Binds K fd ["thing"] [] := F.bindsN fun _ _ _ _ _ _ us hl => match us, hl with | [_], _ => rfl
theorem b_is_from {K : PySem.W.Frag} {f : Addr} (fd : FuncData) (F : FunD K "is_from" "is_from" (defArgs s_is_from) (defBody s_is_from) (defScope s_is_from) [] [] f fd) : Binds K fd ["thing", "least", "most"] [] := F.bindsN fun _ _ _ _ _ _ us hl => match us, hl with | [_, _, _], _ => rfl
theorem b_is_size {K : PySem.W.Frag} {f : Addr} (fd : FuncData) (F : FunD K "is_size" "is_size" (defArgs s_is_size) (defBody s_is_size) (defScope s_is_size) [] [] f fd) : Binds K fd ["thing"] [] := F.bindsN fun _ _ _ _ _ _ us hl => match us, hl with | [_], _ => rfl
theorem b_are_hears {K : PySem.W.Frag} {f : Addr} (fd : FuncData) (F : FunD K "are_hears" "are_hears" (defArgs s_are_hears) (defBody s_are_hears) (defScope s_are_hears) [] [] f fd) : Binds K fd ["thing", "many"] [] := F.bindsN fun _ _ _ _ _ _ us hl => match us, hl with | [_, _], _ => rfl
theorem b_rows_heard {K : PySem.W.Frag} {f : Addr} (fd : FuncData) (F : FunD K "rows_heard" "rows_heard" (defArgs s_rows_heard) (defBody s_rows_heard) (defScope s_rows_heard) [] [] f fd) : Binds K fd ["rooms", "hears"] [] := F.bindsN fun _ _ _ _ _ _ us hl => match us, hl with | [_, _], _ => rfl
theorem b_is_rule {K : PySem.W.Frag} {f : Addr} (fd : FuncData) (F : FunD K "is_rule" "is_rule" (defArgs s_is_rule) (defBody s_is_rule) (defScope s_is_rule) [] [] f fd) : Binds K fd ["rooms", "at"] [] := F.bindsN fun _ _ _ _ _ _ us hl => match us, hl with | [_, _], _ => rfl
theorem b_fault_of {K : PySem.W.Frag} {f : Addr} (fd : FuncData) (F : FunD K "fault_of" "fault_of" (defArgs s_fault_of) (defBody s_fault_of) (defScope s_fault_of) [] [] f fd) : Binds K fd ["rooms", "at"] [] := F.bindsN fun _ _ _ _ _ _ us hl => match us, hl with | [_, _], _ => rfl
theorem b_look_rooms {K : PySem.W.Frag} {f : Addr} (fd : FuncData) (F : FunD K "look_rooms" "look_rooms" (defArgs s_look_rooms) (defBody s_look_rooms) (defScope s_look_rooms) [] [] f fd) : Binds K fd ["rooms"] [] := F.bindsN fun _ _ _ _ _ _ us hl => match us, hl with | [_], _ => rfl
theorem b_Web_init {K : PySem.W.Frag} {f : Addr} (fd : FuncData) (F : FunD K "__init__" "Web.__init__" (defArgs s_Web_init) (defBody s_Web_init) (defScope s_Web_init) [] [] f fd) : Binds K fd ["self", "rooms"] [] := F.bindsN fun _ _ _ _ _ _ us hl => match us, hl with | [_, _], _ => rfl
theorem b_Web_rooms {K : PySem.W.Frag} {f : Addr} (fd : FuncData) (F : FunD K "rooms" "Web.rooms" (defArgs s_Web_rooms) (defBody s_Web_rooms) (defScope s_Web_rooms) [] [] f fd) : Binds K fd ["self"] [] := F.bindsN fun _ _ _ _ _ _ us hl => match us, hl with | [_], _ => rfl
theorem b_Web_lot {K : PySem.W.Frag} {f : Addr} (fd : FuncData) (F : FunD K "lot" "Web.lot" (defArgs s_Web_lot) (defBody s_Web_lot) (defScope s_Web_lot) [] [] f fd) : Binds K fd ["self", "room"] [] := F.bindsN fun _ _ _ _ _ _ us hl => match us, hl with | [_, _], _ => rfl
theorem b_Web_len {K : PySem.W.Frag} {f : Addr} (fd : FuncData) (F : FunD K "__len__" "Web.__len__" (defArgs s_Web_len) (defBody s_Web_len) (defScope s_Web_len) [] [] f fd) : Binds K fd ["self"] [] := F.bindsN fun _ _ _ _ _ _ us hl => match us, hl with | [_], _ => rfl
theorem b_look_room {K : PySem.W.Frag} {f : Addr} (fd : FuncData) (F : FunD K "look_room" "look_room" (defArgs s_look_room) (defBody s_look_room) (defScope s_look_room) [] [] f fd) : Binds K fd ["web", "room"] [] := F.bindsN fun _ _ _ _ _ _ us hl => match us, hl with | [_, _], _ => rfl
theorem b_look_cell {K : PySem.W.Frag} {f : Addr} (fd : FuncData) (F : FunD K "look_cell" "look_cell" (defArgs s_look_cell) (defBody s_look_cell) (defScope s_look_cell) [] [] f fd) : Binds K fd ["web", "room", "beat"] [] := F.bindsN fun _ _ _ _ _ _ us hl => match us, hl with | [_, _, _], _ => rfl
theorem b_look_beat {K : PySem.W.Frag} {f : Addr} (fd : FuncData) (F : FunD K "look_beat" "look_beat" (defArgs s_look_beat) (defBody s_look_beat) (defScope s_look_beat) [] [] f fd) : Binds K fd ["beat"] [] := F.bindsN fun _ _ _ _ _ _ us hl => match us, hl with | [_], _ => rfl
theorem b_look_stand {K : PySem.W.Frag} {f : Addr} (fd : FuncData) (F : FunD K "look_stand" "look_stand" (defArgs s_look_stand) (defBody s_look_stand) (defScope s_look_stand) [] [] f fd) : Binds K fd ["web", "room", "stand"] [] := F.bindsN fun _ _ _ _ _ _ us hl => match us, hl with | [_, _, _], _ => rfl
theorem b_told_by {K : PySem.W.Frag} {f : Addr} (fd : FuncData) (F : FunD K "told_by" "told_by" (defArgs s_told_by) (defBody s_told_by) (defScope s_told_by) [] [] f fd) : Binds K fd ["web", "room", "stands", "beat"] [] := F.bindsN fun _ _ _ _ _ _ us hl => match us, hl with | [_, _, _, _], _ => rfl
theorem b_look_tables {K : PySem.W.Frag} {f : Addr} (fd : FuncData) (F : FunD K "look_tables" "look_tables" (defArgs s_look_tables) (defBody s_look_tables) (defScope s_look_tables) [] [] f fd) : Binds K fd ["web", "room"] [] := F.bindsN fun _ _ _ _ _ _ us hl => match us, hl with | [_, _], _ => rfl
theorem b_is_known {K : PySem.W.Frag} {f : Addr} (fd : FuncData) (F : FunD K "is_known" "is_known" (defArgs s_is_known) (defBody s_is_known) (defScope s_is_known) [] [] f fd) : Binds K fd ["cell", "pokes"] [] := F.bindsN fun _ _ _ _ _ _ us hl => match us, hl with | [_, _], _ => rfl
theorem b_poked_beats {K : PySem.W.Frag} {f : Addr} (fd : FuncData) (F : FunD K "poked_beats" "poked_beats" (defArgs s_poked_beats) (defBody s_poked_beats) (defScope s_poked_beats) [] [] f fd) : Binds K fd ["pokes"] [] := F.bindsN fun _ _ _ _ _ _ us hl => match us, hl with | [_], _ => rfl
theorem b_heard_cells {K : PySem.W.Frag} {f : Addr} (fd : FuncData) (F : FunD K "heard_cells" "heard_cells" (defArgs s_heard_cells) (defBody s_heard_cells) (defScope s_heard_cells) [] [] f fd) : Binds K fd ["web", "cell"] [] := F.bindsN fun _ _ _ _ _ _ us hl => match us, hl with | [_, _], _ => rfl
theorem b_rooms_heard {K : PySem.W.Frag} {f : Addr} (fd : FuncData) (F : FunD K "rooms_heard" "rooms_heard" (defArgs s_rooms_heard) (defBody s_rooms_heard) (defScope s_rooms_heard) [] [] f fd) : Binds K fd ["web", "rooms"] [] := F.bindsN fun _ _ _ _ _ _ us hl => match us, hl with | [_, _], _ => rfl
theorem b_gone_down {K : PySem.W.Frag} {f : Addr} (fd : FuncData) (F : FunD K "gone_down" "gone_down" (defArgs s_gone_down) (defBody s_gone_down) (defScope s_gone_down) [] [] f fd) : Binds K fd ["web", "rooms", "beats", "known"] [] := F.bindsN fun _ _ _ _ _ _ us hl => match us, hl with | [_, _, _, _], _ => rfl
theorem b_walked_down {K : PySem.W.Frag} {f : Addr} (fd : FuncData) (F : FunD K "walked_down" "walked_down" (defArgs s_walked_down) (defBody s_walked_down) (defScope s_walked_down) [] [] f fd) : Binds K fd ["web", "cell", "low", "stops", "known"] [] := F.bindsN fun _ _ _ _ _ _ us hl => match us, hl with | [_, _, _, _, _], _ => rfl
theorem b_cells_needed {K : PySem.W.Frag} {f : Addr} (fd : FuncData) (F : FunD K "cells_needed" "cells_needed" (defArgs s_cells_needed) (defBody s_cells_needed) (defScope s_cells_needed) [] [] f fd) : Binds K fd ["web", "cells", "known"] [] := F.bindsN fun _ _ _ _ _ _ us hl => match us, hl with | [_, _, _], _ => rfl
theorem b_by_beats {K : PySem.W.Frag} {f : Addr} (fd : FuncData) (F : FunD K "by_beats" "by_beats" (defArgs s_by_beats) (defBody s_by_beats) (defScope s_by_beats) [] [] f fd) : Binds K fd ["cells"] [] := F.bindsN fun _ _ _ _ _ _ us hl => match us, hl with | [_], _ => rfl
theorem b_known_stand {K : PySem.W.Frag} {f : Addr} (fd : FuncData) (F : FunD K "known_stand" "known_stand" (defArgs s_known_stand) (defBody s_known_stand) (defScope s_known_stand) [] [] f fd) : Binds K fd ["web", "cell", "pokes"] [] := F.bindsN fun _ _ _ _ _ _ us hl => match us, hl with | [_, _, _], _ => rfl
theorem b_stand_by {K : PySem.W.Frag} {f : Addr} (fd : FuncData) (F : FunD K "stand_by" "stand_by" (defArgs s_stand_by) (defBody s_stand_by) (defScope s_stand_by) [] [] f fd) : Binds K fd ["web", "cell", "row", "stands"] [] := F.bindsN fun _ _ _ _ _ _ us hl => match us, hl with | [_, _, _, _], _ => rfl
theorem b_least_other {K : PySem.W.Frag} {f : Addr} (fd : FuncData) (F : FunD K "least_other" "least_other" (defArgs s_least_other) (defBody s_least_other) (defScope s_least_other) [] [] f fd) : Binds K fd ["web", "cell", "row", "stands", "known_one"] [] := F.bindsN fun _ _ _ _ _ _ us hl => match us, hl with | [_, _, _, _, _], _ => rfl
theorem b_House_init {K : PySem.W.Frag} {f : Addr} (fd : FuncData) (F : FunD K "__init__" "House.__init__" (defArgs s_House_init) (defBody s_House_init) (defScope s_House_init) [] [] f fd) : Binds K fd ["self", "web"] [] := F.bindsN fun _ _ _ _ _ _ us hl => match us, hl with | [_, _], _ => rfl
theorem b_House_look_free {K : PySem.W.Frag} {f : Addr} (fd : FuncData) (F : FunD K "look_free" "House.look_free" (defArgs s_House_look_free) (defBody s_House_look_free) (defScope s_House_look_free) [] [] f fd) : Binds K fd ["self"] [] := F.bindsN fun _ _ _ _ _ _ us hl => match us, hl with | [_], _ => rfl
theorem b_House_look_forgotten {K : PySem.W.Frag} {f : Addr} (fd : FuncData) (F : FunD K "look_forgotten" "House.look_forgotten" (defArgs s_House_look_forgotten) (defBody s_House_look_forgotten) (defScope s_House_look_forgotten) [] [] f fd) : Binds K fd ["self", "cell"] [] := F.bindsN fun _ _ _ _ _ _ us hl => match us, hl with | [_, _], _ => rfl
theorem b_House_is_forgotten {K : PySem.W.Frag} {f : Addr} (fd : FuncData) (F : FunD K "is_forgotten" "House.is_forgotten" (defArgs s_House_is_forgotten) (defBody s_House_is_forgotten) (defScope s_House_is_forgotten) [] [] f fd) : Binds K fd ["self", "cell"] [] := F.bindsN fun _ _ _ _ _ _ us hl => match us, hl with | [_, _], _ => rfl
theorem b_House_is_far {K : PySem.W.Frag} {f : Addr} (fd : FuncData) (F : FunD K "is_far" "House.is_far" (defArgs s_House_is_far) (defBody s_House_is_far) (defScope s_House_is_far) [] [] f fd) : Binds K fd ["self", "cell"] [] := F.bindsN fun _ _ _ _ _ _ us hl => match us, hl with | [_, _], _ => rfl
theorem b_House_is_given {K : PySem.W.Frag} {f : Addr} (fd : FuncData) (F : FunD K "is_given" "House.is_given" (defArgs s_House_is_given) (defBody s_House_is_given) (defScope s_House_is_given) [] [] f fd) : Binds K fd ["self", "cell"] [] := F.bindsN fun _ _ _ _ _ _ us hl => match us, hl with | [_, _], _ => rfl
theorem b_House_needs_none {K : PySem.W.Frag} {f : Addr} (fd : FuncData) (F : FunD K "needs_none" "House.needs_none" (defArgs s_House_needs_none) (defBody s_House_needs_none) (defScope s_House_needs_none) [] [] f fd) : Binds K fd ["self", "cell"] [] := F.bindsN fun _ _ _ _ _ _ us hl => match us, hl with | [_, _], _ => rfl
theorem b_House_is_seen {K : PySem.W.Frag} {f : Addr} (fd : FuncData) (F : FunD K "is_seen" "House.is_seen" (defArgs s_House_is_seen) (defBody s_House_is_seen) (defScope s_House_is_seen) [] [] f fd) : Binds K fd ["self", "cell"] [] := F.bindsN fun _ _ _ _ _ _ us hl => match us, hl with | [_, _], _ => rfl
theorem b_House_at_cell {K : PySem.W.Frag} {f : Addr} (fd : FuncData) (F : FunD K "at_cell" "House.at_cell" (defArgs s_House_at_cell) (defBody s_House_at_cell) (defScope s_House_at_cell) [] [] f fd) : Binds K fd ["self", "cell"] [] := F.bindsN fun _ _ _ _ _ _ us hl => match us, hl with | [_, _], _ => rfl
theorem b_House_walked {K : PySem.W.Frag} {f : Addr} (fd : FuncData) (F : FunD K "walked" "House.walked" (defArgs s_House_walked) (defBody s_House_walked) (defScope s_House_walked) [] [] f fd) : Binds K fd ["self", "cell"] [] := F.bindsN fun _ _ _ _ _ _ us hl => match us, hl with | [_, _], _ => rfl
theorem b_House_run_cell {K : PySem.W.Frag} {f : Addr} (fd : FuncData) (F : FunD K "run_cell" "House.run_cell" (defArgs s_House_run_cell) (defBody s_House_run_cell) (defScope s_House_run_cell) [] [] f fd) : Binds K fd ["self", "cell"] [] := F.bindsN fun _ _ _ _ _ _ us hl => match us, hl with | [_, _], _ => rfl
theorem b_House_run_all {K : PySem.W.Frag} {f : Addr} (fd : FuncData) (F : FunD K "run_all" "House.run_all" (defArgs s_House_run_all) (defBody s_House_run_all) (defScope s_House_run_all) [] [] f fd) : Binds K fd ["self", "cells"] [] := F.bindsN fun _ _ _ _ _ _ us hl => match us, hl with | [_, _], _ => rfl
theorem b_House_look {K : PySem.W.Frag} {f : Addr} (fd : FuncData) (F : FunD K "look" "House.look" (defArgs s_House_look) (defBody s_House_look) (defScope s_House_look) [] [] f fd) : Binds K fd ["self", "room", "beat"] [] := F.bindsN fun _ _ _ _ _ _ us hl => match us, hl with | [_, _, _], _ => rfl
theorem b_House_is_free {K : PySem.W.Frag} {f : Addr} (fd : FuncData) (F : FunD K "is_free" "House.is_free" (defArgs s_House_is_free) (defBody s_House_is_free) (defScope s_House_is_free) [] [] f fd) : Binds K fd ["self", "room", "beat"] [] := F.bindsN fun _ _ _ _ _ _ us hl => match us, hl with | [_, _, _], _ => rfl
theorem b_House_poke {K : PySem.W.Frag} {f : Addr} (fd : FuncData) (F : FunD K "poke" "House.poke" (defArgs s_House_poke) (defBody s_House_poke) (defScope s_House_poke) [] [] f fd) : Binds K fd ["self", "room", "beat", "stand"] [] := F.bindsN fun _ _ _ _ _ _ us hl => match us, hl with | [_, _, _, _], _ => rfl
theorem b_House_askers {K : PySem.W.Frag} {f : Addr} (fd : FuncData) (F : FunD K "askers" "House.askers" (defArgs s_House_askers) (defBody s_House_askers) (defScope s_House_askers) [] [] f fd) : Binds K fd ["self", "cell"] [] := F.bindsN fun _ _ _ _ _ _ us hl => match us, hl with | [_, _], _ => rfl
theorem b_House_way_seen {K : PySem.W.Frag} {f : Addr} (fd : FuncData) (F : FunD K "way_seen" "House.way_seen" (defArgs s_House_way_seen) (defBody s_House_way_seen) (defScope s_House_way_seen) [] [] f fd) : Binds K fd ["self", "cell"] [] := F.bindsN fun _ _ _ _ _ _ us hl => match us, hl with | [_, _], _ => rfl
theorem b_House_copy {K : PySem.W.Frag} {f : Addr} (fd : FuncData) (F : FunD K "copy" "House.copy" (defArgs s_House_copy) (defBody s_House_copy) (defScope s_House_copy) [] [] f fd) : Binds K fd ["self"] [] := F.bindsN fun _ _ _ _ _ _ us hl => match us, hl with | [_], _ => rfl
theorem b_House_web {K : PySem.W.Frag} {f : Addr} (fd : FuncData) (F : FunD K "web" "House.web" (defArgs s_House_web) (defBody s_House_web) (defScope s_House_web) [] [] f fd) : Binds K fd ["self"] [] := F.bindsN fun _ _ _ _ _ _ us hl => match us, hl with | [_], _ => rfl
theorem b_House_pokes {K : PySem.W.Frag} {f : Addr} (fd : FuncData) (F : FunD K "pokes" "House.pokes" (defArgs s_House_pokes) (defBody s_House_pokes) (defScope s_House_pokes) [] [] f fd) : Binds K fd ["self"] [] := F.bindsN fun _ _ _ _ _ _ us hl => match us, hl with | [_], _ => rfl
theorem b_way_down {K : PySem.W.Frag} {f : Addr} (fd : FuncData) (F : FunD K "way_down" "way_down" (defArgs s_way_down) (defBody s_way_down) (defScope s_way_down) [] [] f fd) : Binds K fd ["layers", "first"] [] := F.bindsN fun _ _ _ _ _ _ us hl => match us, hl with | [_, _], _ => rfl
theorem b_L_bag {K : PySem.W.Frag} {f : Addr} (fd : FuncData) (F : FunD K "_law_bag" "_law_bag" (defArgs s_L_bag) (defBody s_L_bag) (defScope s_L_bag) [] [] f fd) : Binds K fd ["_law_script", "_law_at"] [] := F.bindsN fun _ _ _ _ _ _ us hl => match us, hl with | [_, _], _ => rfl
theorem b_L_take {K : PySem.W.Frag} {f : Addr} (fd : FuncData) (F : FunD K "_law_take" "_law_take" (defArgs s_L_take) (defBody s_L_take) (defScope s_L_take) [] [] f fd) : Binds K fd ["_law_bag_here", "_law_many"] [] := F.bindsN fun _ _ _ _ _ _ us hl => match us, hl with | [_, _], _ => rfl
theorem b_L_parts {K : PySem.W.Frag} {f : Addr} (fd : FuncData) (F : FunD K "_law_parts" "_law_parts" (defArgs s_L_parts) (defBody s_L_parts) (defScope s_L_parts) [] [] f fd) : Binds K fd ["_law_bag_here", "_law_most", "_law_widest"] [] := F.bindsN fun _ _ _ _ _ _ us hl => match us, hl with | [_, _, _], _ => rfl
theorem b_L_net {K : PySem.W.Frag} {f : Addr} (fd : FuncData) (F : FunD K "_law_net" "_law_net" (defArgs s_L_net) (defBody s_L_net) (defScope s_L_net) [] [] f fd) : Binds K fd ["_law_parts_here"] [] := F.bindsN fun _ _ _ _ _ _ us hl => match us, hl with | [_], _ => rfl
theorem b_L_pins {K : PySem.W.Frag} {f : Addr} (fd : FuncData) (F : FunD K "_law_pins" "_law_pins" (defArgs s_L_pins) (defBody s_L_pins) (defScope s_L_pins) [] [] f fd) : Binds K fd ["_law_bag_here", "_law_parts_here", "_law_many", "_law_last"] [] := F.bindsN fun _ _ _ _ _ _ us hl => match us, hl with | [_, _, _, _], _ => rfl
theorem b_L_poked {K : PySem.W.Frag} {f : Addr} (fd : FuncData) (F : FunD K "_law_poked" "_law_poked" (defArgs s_L_poked) (defBody s_L_poked) (defScope s_L_poked) [] [] f fd) : Binds K fd ["_law_house", "_law_spot", "_law_mark", "_law_aim"] [] := F.bindsN fun _ _ _ _ _ _ us hl => match us, hl with | [_, _, _, _], _ => rfl
theorem b_L_sways_right {K : PySem.W.Frag} {f : Addr} (fd : FuncData) (F : FunD K "_law_sways_right" "_law_sways_right" (defArgs s_L_sways_right) (defBody s_L_sways_right) (defScope s_L_sways_right) [] [] f fd) : Binds K fd ["_law_house", "_law_found", "_law_aim", "_law_was"] [] := F.bindsN fun _ _ _ _ _ _ us hl => match us, hl with | [_, _, _, _], _ => rfl
theorem b_L_else_right {K : PySem.W.Frag} {f : Addr} (fd : FuncData) (F : FunD K "_law_else_right" "_law_else_right" (defArgs s_L_else_right) (defBody s_L_else_right) (defScope s_L_else_right) [] [] f fd) : Binds K fd ["_law_bag_here", "_law_house", "_law_parts_here", "_law_found", "_law_aim", "_law_was"] [] := F.bindsN fun _ _ _ _ _ _ us hl => match us, hl with | [_, _, _, _, _, _], _ => rfl
theorem b_L_seen_right {K : PySem.W.Frag} {f : Addr} (fd : FuncData) (F : FunD K "_law_seen_right" "_law_seen_right" (defArgs s_L_seen_right) (defBody s_L_seen_right) (defScope s_L_seen_right) [] [] f fd) : Binds K fd ["_law_house", "_law_found", "_law_aim"] [] := F.bindsN fun _ _ _ _ _ _ us hl => match us, hl with | [_, _, _], _ => rfl
theorem b_law {K : PySem.W.Frag} {f : Addr} (fd : FuncData) (F : FunD K "law" "law" (defArgs s_law) (defBody s_law) (defScope s_law) [] [] f fd) : Binds K fd ["_law_script"] [] := F.bindsN fun _ _ _ _ _ _ us hl => match us, hl with | [_], _ => rfl
end S
set_option Elab.async false
set_option linter.all false
set_option maxRecDepth 100000
set_option maxHeartbeats 4000000
namespace S
open PySem PySem.Spec PyProof.Rows L2 G
section
variable {P : Program} {w : World} {K : PySem.W.Frag} {mg : Str → Option Value} {base : Heap}
def spIsWhole : Sp := fun vs H Q _ => ∃ i : Int, vs = [.int i] ∧ Q (.bl true) H
theorem ok_is_whole (T : Tx K mg) : CL P w K mg base CX0 1 "is_whole" ["thing"] spIsWhole := by
  refine CL.of0 T.d_is_whole T.g_is_whole sc_is_whole b_is_whole (fun vs H Q E h => ?_) (fun f cdv A outer s H vs Q E hr h => ?_)
  · obtain ⟨i, rfl, _⟩ := h; rfl
  · obtain ⟨i, rfl, k⟩ := h
    refine ⟨_, pss_one (ps_ret (pe_and (pe_callB call_isi (by rfl) T.f_isinstance (by decide +kernel) (pa_cons (pv 0) (pa_cons (pe_bltn (v := .ty "int") (by rfl) T.f_int boot_int rfl) pa_nil)))
      (pe_one (pe_not (pe_callB call_isi (by rfl) T.f_isinstance (by decide +kernel) (pa_cons (pv 0) (pa_cons (pe_bltn (v := .ty "bool") (by rfl) T.f_bool boot_bool rfl) pa_nil))))))), ?_⟩
    refine ⟨_, rfl, _, _, _, _, _, rfl, .ty _, .base (.int _), kit_ty (b := "int") (r := true) (by decide +kernel), _, rfl, ?_⟩
    refine iteT ⟨_, rfl, _, _, _, _, _, rfl, .ty _, .base (.int _), kit_ty (b := "bool") (r := false) (by decide +kernel), _, rfl, k⟩
def spIsFrom : Sp := fun vs H Q _ => ∃ a b c : Int, vs = [.int a, .int b, .int c] ∧ Q (.bl (decide (b ≤ a ∧ a ≤ c))) H
theorem ok_is_from (T : Tx K mg) : CL P w K mg base CX0 2 "is_from" ["thing", "least", "most"] spIsFrom := by
  have G1 : CL P w K mg base CX0 1 "is_whole" ["thing"] spIsWhole := ok_is_whole T
  refine CL.of0 T.d_is_from T.g_is_from sc_is_from b_is_from (fun vs H Q E h => ?_) (fun f cdv A outer s H vs Q E hr h => ?_)
  · obtain ⟨a, b, c, rfl, _⟩ := h; rfl
  · obtain ⟨a, b, c, rfl, k⟩ := h
    refine ⟨_, pss_one (ps_ret (pe_and (pe_cl G1 hr (by decide) pass0 (pa_cons (pv 0) pa_nil)) (pe_one (pe_chain op_le op_le (pv 1) (pv 0) (pv 2))))), ?_⟩
    refine ⟨_, rfl, _, rfl, _, rfl, iteT ?_⟩
    refine ⟨_, rfl, _, rfl, _, _, rfl, rfl, _, rfl, ?_⟩
    refine ite2 (fun h1 => ?_) (fun h1 => ?_)
    · have h1 := of_decide_eq_true h1
      refine ⟨_, rfl, _, _, rfl, rfl, ?_⟩
      have e : decide (b ≤ a ∧ a ≤ c) = decide (a ≤ c) := by simp [h1]
      rw [e] at k; exact k
    · have h1 : ¬ b ≤ a := by simpa using h1
      have e : decide (b ≤ a ∧ a ≤ c) = false := by simp [h1]
      rw [e] at k; exact k
end
end S
set_option Elab.async false
set_option linter.all false
set_option maxRecDepth 100000
set_option maxHeartbeats 4000000
namespace S
open PySem PySem.Spec PyProof.Rows L2 G
section
variable {P : Program} {w : World} {K : PySem.W.Frag} {mg : Str → Option Value} {base : Heap}
def g5a {α : Type} (us its mv ws : List α) : List α := us ++ (ws.take 1 ++ (mv ++ ws.drop 1))
def g5b {α : Type} (us its mv ws : List α) : List α := us ++ (mv ++ ws)
theorem dvs_ne : d_Room_init.dvs K ≠ [] := fun e => nomatch e
theorem kws_ne : d_Room_init.kws K ≠ [] := fun e => nomatch e
theorem first_in : ∀ q ∈ [(("first" : Str), V.int 0)], q ∈ d_Room_init.kws K := fun q hq => by
  rw [List.mem_singleton.mp hq]
  exact List.mem_cons_of_mem _ (List.mem_cons_self ..)
theorem size_in : ∀ q ∈ [(("size" : Str), V.int 2)], q ∈ d_Room_init.kws K := fun q hq => by
  rw [List.mem_singleton.mp hq]
  exact List.mem_cons_self ..
theorem both_in : ∀ q ∈ [(("size" : Str), V.int 2), (("first" : Str), V.int 0)], q ∈ d_Room_init.kws K := fun q hq => by
  rcases List.mem_cons.mp hq with rfl | hq
  · exact List.mem_cons_self ..
  · exact first_in q hq
theorem vals_take : ∀ {vs : List V} {us : List Value} (n : Nat), Vals vs us → Vals (vs.take n) (us.take n)
  | _, _, 0, _ => by rw [List.take_zero, List.take_zero]; exact .nil
  | _, _, n + 1, .nil => by rw [List.take_nil, List.take_nil]; exact .nil
  | _, _, n + 1, .cons r t => .cons r (vals_take n t)
theorem vals_drop : ∀ {vs : List V} {us : List Value} (n : Nat), Vals vs us → Vals (vs.drop n) (us.drop n)
  | _, _, 0, h => h
  | _, _, n + 1, .nil => by rw [List.drop_nil, List.drop_nil]; exact .nil
  | _, _, n + 1, .cons r t => vals_drop n t
abbrev RInit (K : PySem.W.Frag) (f : Addr) (fd : FuncData) : Prop := FunD K "__init__" "Room.__init__" (defArgs s_Room_init) (defBody s_Room_init) (defScope s_Room_init) (d_Room_init.dvs K) (d_Room_init.kws K) f fd
abbrev psR : List Str := ["self", "hears", "size", "first", "rule"]
theorem kb_sr {f : Addr} {fd : FuncData} (F : RInit K f fd) : ∃ its mv, KBn K fd psR 2 ["size", "rule"] (fun us ws => g5a us its mv ws) (fun vs zs => g5a vs (d_Room_init.dvs K) ([(("first" : Str), V.int 0)].map (·.2)) zs) := by
  refine F.kbinds 2 ["size", "rule"] [("first", .int 0)] g5a dvs_ne kws_ne first_in (fun h1 h2 h3 h4 => h1.append ((vals_take 1 h4).append (h3.append (vals_drop 1 h4)))) (fun T D doc pm an cdv ct us its mv ws h1 h2 h3 h4 => ?_)
  match us, its, mv, ws, h1, h2, h3, h4 with
  | [a, b], [i], [m], [c, e], _, _, _, _ =>
    refine ⟨_, rfl, ?_⟩
    exact ⟨_, _, _, _, _, _, rfl, rfl, rfl⟩
theorem kb_fr {f : Addr} {fd : FuncData} (F : RInit K f fd) : ∃ its mv, KBn K fd psR 2 ["first", "rule"] (fun us ws => g5b us its mv ws) (fun vs zs => g5b vs (d_Room_init.dvs K) ([(("size" : Str), V.int 2)].map (·.2)) zs) := by
  refine F.kbinds 2 ["first", "rule"] [("size", .int 2)] g5b dvs_ne kws_ne size_in (fun h1 h2 h3 h4 => h1.append (h3.append h4)) (fun T D doc pm an cdv ct us its mv ws h1 h2 h3 h4 => ?_)
  match us, its, mv, ws, h1, h2, h3, h4 with
  | [a, b], [i], [m], [c, e], _, _, _, _ =>
    refine ⟨_, rfl, ?_⟩
    exact ⟨_, _, _, _, _, _, rfl, rfl, rfl⟩
theorem kb_r {f : Addr} {fd : FuncData} (F : RInit K f fd) : ∃ its mv, KBn K fd psR 2 ["rule"] (fun us ws => g5b us its mv ws) (fun vs zs => g5b vs (d_Room_init.dvs K) ([(("size" : Str), V.int 2), (("first" : Str), V.int 0)].map (·.2)) zs) := by
  refine F.kbinds 2 ["rule"] [("size", .int 2), ("first", .int 0)] g5b dvs_ne kws_ne both_in (fun h1 h2 h3 h4 => h1.append (h3.append h4)) (fun T D doc pm an cdv ct us its mv ws h1 h2 h3 h4 => ?_)
  match us, its, mv, ws, h1, h2, h3, h4 with
  | [a, b], [i], [m, m2], [e], _, _, _, _ =>
    refine ⟨_, rfl, ?_⟩
    exact ⟨_, _, _, _, _, _, rfl, rfl, ⟨_, _, _, _, _, _, rfl, rfl, rfl⟩⟩
end
end S
set_option Elab.async false
set_option linter.all false
set_option maxRecDepth 100000
set_option maxHeartbeats 4000000
/-! # the data, the words of the walks -/
namespace S
open PySem PySem.Spec PyProof.Rows L2 G
abbrev nsv (l : List Int) : List V := l.map V.int
theorem upd2 {H : Hp} {a : Addr} {o o' : HO} : upd (upd H a o) a o' = upd H a o' := funext fun b => by
  unfold upd
  by_cases h : b = a <;> simp [h]
theorem same_new {H H1 : Hp} {p : Addr} {o : HO} (s : Same H H1) (h : H p = none) : Same H (upd H1 p o) := fun b o' e => by
  rw [upd_ne (ne_of_none e h)]
  exact s b o' e
theorem iteDF {c A B : Prop} [Decidable c] (hc : ¬ c) (h : B) : if decide c = true then A else B := by
  rw [decide_eq_false hc]
  exact iteF h
theorem iteDT {c A B : Prop} [Decidable c] (hc : c) (h : A) : if decide c = true then A else B := by
  rw [decide_eq_true hc]
  exact iteT h
theorem iteNDF {c A B : Prop} [Decidable c] (hc : ¬ c) (h : A) : if (!decide c) = true then A else B := by
  rw [decide_eq_false hc]
  exact iteT h
theorem iteNDT {c A B : Prop} [Decidable c] (hc : c) (h : B) : if (!decide c) = true then A else B := by
  rw [decide_eq_true hc]
  exact iteF h
theorem ne_free {H : Hp} {p q : Addr} {o : HO} (h : H p = some o) (h' : H q = none) : p ≠ q := ne_of_none h h'
theorem yes_ {σ : L2.St} {H : Hp} {Q : Bool → Hp → Prop} (h : Q true H) : tYes σ H Q := h
section
variable {X : Cx} {o : Expr} {f : Str} {pos : Pos} {ta : TE}
theorem pe_fldK (K : PySem.W.Frag) (ha : PE X o ta) (hb : attributeBase o f X.env (eval o X.env) = eval o X.env := by rfl) (hK : X.K = K := by rfl) : PE X (.Attribute o f pos) (tFld K ta f) := by
  subst hK
  exact pe_fld ha hb
theorem ix_tupK (K : PySem.W.Frag) (hK : X.K = K := by rfl) : IxR X (rIxT K) := by
  subst hK
  exact ix_tup
theorem ix_listK (K : PySem.W.Frag) (hK : X.K = K := by rfl) : IxR X (rIxL K) := by
  subst hK
  exact ix_list
end
/-- a list comprehension that keeps every turn; f the items -/
theorem lc_map {J : It} {n : Nat} {Gd : Hp → Prop} {Y : Nat → Hp → V → Hp → Prop} (w : Walk J n Gd Y) {g : TG} {tt : TT} {te : TE} {vs : List Nat} {σ : L2.St} {H1 : Hp} {D : Addr} {Qd : Hp → Prop} (f : Nat → V) (hn : n ≤ 1000000) (hD : H1 D = none) (hG : ∀ H, Same H1 H → Gd H)
    (hs : ∀ i x H H' acc (Nx : Hp → Prop), i < n → Same H1 H → H D = some (.lst acc) → acc.length < sizeLine → Y i H x H' → (∀ H4, Same H1 H4 → H4 D = some (.lst acc) → Nx (upd H4 D (.lst (acc ++ [f i])))) → g x (wipe σ vs) H' fun σ2 H2 => wipe σ2 vs = wipe σ vs ∧ tt σ2 H2 fun b H3 =>
      if b = true then te σ2 H3 fun y H4 => ∃ acc, H4 D = some (.lst acc) ∧ acc.length < sizeLine ∧ Nx (upd H4 D (.lst (acc ++ [y]))) else Nx H3)
    (hd : ∀ H, Same H1 H → H D = some (.lst ((List.range n).map f)) → Qd H) :
    ∃ W : Nat → Nat → Hp → Prop, (∃ m, W 0 m (upd H1 D (.lst []))) ∧ ∀ i m H, W i m H →
      (J.stop i H ∧ Qd H) ∨ (J.go i H ∧ ∃ Nx : Hp → Prop, (∀ H', Nx H' → ∃ m', m' < m ∧ W (i + 1) m' H') ∧ ∀ x H', J.yld i H x H' → g x (wipe σ vs) H' fun σ2 H2 => wipe σ2 vs = wipe σ vs ∧ tt σ2 H2 fun b H3 =>
        if b = true then te σ2 H3 fun y H4 => ∃ acc, H4 D = some (.lst acc) ∧ acc.length < sizeLine ∧ Nx (upd H4 D (.lst (acc ++ [y]))) else Nx H3) := by
  refine lc_it w (fun i H => Same H1 H ∧ H D = some (.lst ((List.range i).map f))) ⟨same_new (Same.refl _) hD, upd_same⟩ (fun i H _ h => hG H h.1) (fun i x H H' hi h y => ?_) (fun H h => hd H h.1 h.2)
  refine hs i x H H' _ _ hi h.1 h.2 ?_ y fun H4 s4 e4 => ⟨same_new s4 hD, ?_⟩
  · rw [List.length_map, List.length_range]
    exact Nat.lt_of_lt_of_le hi (Nat.le_trans hn (by decide))
  · rw [upd_same, List.range_succ, List.map_append]
    rfl
structure RoomD where
  hears : List Int
  size : Int
  first : Int
  rule : List Int
deriving DecidableEq
abbrev rf (th tr : Addr) (sz fi : Int) : List (Str × V) := [("hears", .ref th), ("size", .int sz), ("first", .int fi), ("rule", .ref tr)]
theorem rf_hears {th tr : Addr} {sz fi : Int} : (rf th tr sz fi).lookup ("hears" : Str) = some (.ref th) := by kernel_rfl
theorem rf_size {th tr : Addr} {sz fi : Int} : (rf th tr sz fi).lookup ("size" : Str) = some (.int sz) := by kernel_rfl
theorem rf_first {th tr : Addr} {sz fi : Int} : (rf th tr sz fi).lookup ("first" : Str) = some (.int fi) := by kernel_rfl
theorem rf_rule {th tr : Addr} {sz fi : Int} : (rf th tr sz fi).lookup ("rule" : Str) = some (.ref tr) := by kernel_rfl
theorem rf_put {th tr : Addr} {sz fi : Int} : putF "rule" (.ref tr) (putF "first" (.int fi) (putF "size" (.int sz) (putF "hears" (.ref th) []))) = rf th tr sz fi := by kernel_rfl
def RoomAt (K : PySem.W.Frag) (H : Hp) (x : Addr) (r : RoomD) : Prop := ∃ dx th tr, H x = some (.ins (cRoom K) dx (rf th tr r.size r.first)) ∧ H th = some (.tup (nsv r.hears)) ∧ H tr = some (.tup (nsv r.rule))
theorem RoomAt.same {K : PySem.W.Frag} {H H' : Hp} {x : Addr} {r : RoomD} (h : RoomAt K H x r) (s : Same H H') : RoomAt K H' x r :=
  let ⟨dx, th, tr, h1, h2, h3⟩ := h
  ⟨dx, th, tr, s _ _ h1, s _ _ h2, s _ _ h3⟩
section
variable {P : Program} {w : World} {K : PySem.W.Frag} {mg : Str → Option Value} {base : Heap}
def spRoomI (K : PySem.W.Frag) : Sp := fun vs H Q _ => ∃ (x dx th tr : Addr) (sz fi : Int), vs = [.ref x, .ref th, .int sz, .int fi, .ref tr] ∧ H x = some (.ins (cRoom K) dx []) ∧ Q .non (upd H x (.ins (cRoom K) dx (rf th tr sz fi)))
theorem ok_Room_init (T : Tx K mg) : ∃ f fd, Mk K (cRoom K) f ∧ RInit K f fd ∧ FnOk P w K mg base CX0 1 f fd psR (spRoomI K) := by
  obtain ⟨fd, F⟩ := T.d_Room_init
  refine ⟨_, fd, T.m_Room, F, fn_body0 F sc_Room_init (fun vs H Q E h => ?_) (fun f cdv A outer s H vs Q E hr h => ?_)⟩
  · obtain ⟨x, dx, th, tr, sz, fi, rfl, _⟩ := h; rfl
  · obtain ⟨x, dx, th, tr, sz, fi, rfl, hx, k⟩ := h
    refine ⟨_, pss_cons (ps_fld (pv 0) (pv 1) rfl) (pss_cons (ps_fld (pv 0) (pv 2) rfl) (pss_cons (ps_fld (pv 0) (pv 3) rfl) (pss_one (ps_fld (pv 0) (pv 4) rfl)))), ?_⟩
    refine ⟨_, rfl, _, rfl, _, _, _, _, rfl, hx, T.c_Room, T.n_Room_hears, (by show 0 < 1000; decide), ?_⟩
    refine ⟨_, rfl, _, rfl, _, _, _, _, rfl, upd_same, T.c_Room, T.n_Room_size, (by show 1 < 1000; decide), ?_⟩
    refine ⟨_, rfl, _, rfl, _, _, _, _, rfl, upd_same, T.c_Room, T.n_Room_first, (by show 2 < 1000; decide), ?_⟩
    refine ⟨_, rfl, _, rfl, _, _, _, _, rfl, upd_same, T.c_Room, T.n_Room_rule, (by show 3 < 1000; decide), ?_⟩
    rw [upd2, upd2, upd2, rf_put]
    exact k
def spIsSize : Sp := fun vs H Q _ => ∃ a : Int, vs = [.int a] ∧ Q (.bl (decide (1 ≤ a ∧ a ≤ 60))) H
theorem ok_is_size (T : Tx K mg) : CL P w K mg base CX0 3 "is_size" ["thing"] spIsSize := by
  have G1 : CL P w K mg base CX0 2 "is_from" ["thing", "least", "most"] spIsFrom := ok_is_from T
  obtain ⟨t, m⟩ := T.i_MOST_SIZE
  refine CL.of0 T.d_is_size T.g_is_size sc_is_size b_is_size (fun vs H Q E h => ?_) (fun f cdv A outer s H vs Q E hr h => ?_)
  · obtain ⟨a, rfl, _⟩ := h; rfl
  · obtain ⟨a, rfl, k⟩ := h
    refine ⟨_, pss_one (ps_ret (pe_cl G1 hr (by decide) pass0 (pa_cons (pv 0) (pa_cons pe_int (pa_cons (pe_glob (v := .int 60) rfl m ⟨t, rfl⟩) pa_nil))))), ?_⟩
    exact ⟨_, rfl, _, _, _, rfl, k⟩
def spAreHears : Sp := fun vs H Q _ => ∃ (p : Addr) (l : List Int) (n : Int), vs = [.ref p, .int n] ∧ H p = some (.tup (nsv l)) ∧ l.length ≤ 3 ∧ (∀ h ∈ l, 0 ≤ h ∧ h ≤ n - 1) ∧ l.Nodup ∧ ∀ H', Same H H' → Q (.bl true) H'
theorem ok_are_hears (T : Tx K mg) : CL P w K mg base CX0 3 "are_hears" ["thing", "many"] spAreHears := by
  have G1 : CL P w K mg base CX0 2 "is_from" ["thing", "least", "most"] spIsFrom := ok_is_from T
  obtain ⟨t, m⟩ := T.i_MOST_HEARD
  refine CL.of0 T.d_are_hears T.g_are_hears sc_are_hears b_are_hears (fun vs H Q E h => ?_) (fun f cdv A outer s H vs Q E hr h => ?_)
  · obtain ⟨p, l, n, rfl, _⟩ := h; rfl
  · obtain ⟨p, l, n, rfl, hp, hl, hb, hn, k⟩ := h
    refine ⟨_, pss_cons (ps_if (PW.pt (pw_or (pt_not (pt_val (pe_callB call_isi (by rfl) T.f_isinstance (by decide +kernel) (pa_cons (pv 0) (pa_cons (pe_bltn (v := .ty "tuple") (by rfl) T.f_tuple boot_tuple rfl) pa_nil)))))
        (pw_or1 (pt_cmpR op_gt (pe_callB call_len_seq (by rfl) T.f_len PySem.boot_len (pa_cons (pv 0) pa_nil)) (pe_glob (v := .int 3) rfl m ⟨t, rfl⟩) (nomark _))))) pss_never pss_nil)
      (pss_cons (ps_if (pt_not (pt_val (pe_callB (cr_all rfl) (by rfl) T.f_all (by decide +kernel) (pa_cons (pe_lc (own := [("room", 2)]) (g := gName 2) (tt := tYes) rfl sc_are_hears.nd (pi_tup (pv 0)) (blkOk_by (N := N_are_hears) (sc := defScope s_are_hears) (by decide +kernel))
          (fun _ _ _ _ _ => pg_name (i := 2) sc_are_hears.nd rfl (Or.inl rfl)) (fun _ _ _ _ _ => pts_nil) (fun _ _ _ _ _ => pe_cl G1 hr (by decide) pass0 (pa_cons (pv 2) (pa_cons pe_int (pa_cons (pe_op op_sub (pv 1) pe_int) pa_nil))))) pa_nil)))) pss_never pss_nil)
      (pss_one (ps_ret (pe_cmpR op_eq (pe_lenSetT rfl rfl T.f_len rfl T.f_set (pv 0)) (pe_callB call_len_seq (by rfl) T.f_len PySem.boot_len (pa_cons (pv 0) pa_nil)) (nomark _))))), ?_⟩
    refine ⟨_, rfl, _, _, _, _, _, rfl, .ty _, .base (.tup hp), kit_ty (b := "tuple") (r := true) (by decide +kernel), _, rfl, ?_⟩
    refine iteF ⟨_, rfl, _, _, rfl, .inr (SqT.of hp), _, _, rfl, rfl, _, rfl, ?_⟩
    refine iteDF (by rw [List.length_map]; omega) ?_
    refine ⟨_, rfl, _, rfl, ⟨_, SqT.of hp⟩, fun D hD => lc_map (walk_tup (xs := nsv l)) (fun _ => .bl true) (by rw [List.length_map]; omega) hD (fun H' s' => SqT.of (s' _ _ hp)) (fun i x H1 H2 acc Nx hi s1 hacc hlen y kk => ?_) (fun H2 s2 h2 => ?_)⟩
    · obtain ⟨rfl, hx⟩ := y
      obtain ⟨a, ha, rfl⟩ : ∃ a, l[i]? = some a ∧ x = .int a := by
        rw [List.getElem?_map] at hx
        cases e : l[i]? with
        | none => rw [e] at hx; cases hx
        | some a => rw [e] at hx; exact ⟨a, rfl, (Option.some.inj hx).symm⟩
      refine ⟨rfl, yes_ (iteT ?_)⟩
      refine ⟨_, rfl, _, rfl, _, _, rfl, rfl, _, _, _, rfl, ?_⟩
      obtain ⟨b1, b2⟩ := hb a (List.mem_of_getElem? ha)
      rw [decide_eq_true ⟨b1, b2⟩]
      exact ⟨acc, hacc, hlen, kk _ s1 hacc⟩
    · refine ⟨_, (List.range (nsv l).length).map (fun _ => true), rfl, SqL.of (by rw [h2, List.map_map]; rfl), _, rfl, ?_⟩
      rw [show ((List.range (nsv l).length).map (fun _ => true)).all id = true by simp]
      refine iteF ?_
      refine ⟨_, rfl, _, l, rfl, SqT.of (s2 _ _ hp), hn, by omega, ?_⟩
      refine ⟨_, rfl, _, _, rfl, .inr (SqT.of (s2 _ _ hp)), rfl, ?_⟩
      rw [decide_eq_true (by rw [List.length_map])]
      exact k _ s2
end
end S
set_option Elab.async false
set_option linter.all false
set_option maxRecDepth 100000
set_option maxHeartbeats 4000000
/-! # rooms and webs that are right -/
namespace S
open PySem PySem.Spec PyProof.Rows L2 G
def rAt (rs : List RoomD) (h : Int) : RoomD := rs.getD h.toNat ⟨[], 1, 0, []⟩
theorem rAt_get {rs : List RoomD} {h : Int} (h0 : 0 ≤ h) (h1 : h ≤ (rs.length : Int) - 1) : rs[h.toNat]? = some (rAt rs h) := by
  have hl : h.toNat < rs.length := by omega
  unfold rAt
  rw [List.getD_eq_getElem?_getD, List.getElem?_eq_getElem hl]
  rfl
def rowsF (rs : List RoomD) (hears : List Int) : Int := hears.foldl (fun f h => f * (rAt rs h).size) 1
def OkRoom (rs : List RoomD) (r : RoomD) : Prop := r.hears.length ≤ 3 ∧ (∀ h ∈ r.hears, 0 ≤ h ∧ h ≤ (rs.length : Int) - 1) ∧ r.hears.Nodup ∧ (1 ≤ r.size ∧ r.size ≤ 60) ∧ (0 ≤ r.first ∧ r.first ≤ r.size - 1) ∧
  rowsF rs r.hears = r.rule.length ∧ r.rule.length ≤ 2000 ∧ ∀ s ∈ r.rule, 0 ≤ s ∧ s ≤ r.size - 1
instance (rs : List RoomD) (r : RoomD) : Decidable (OkRoom rs r) := by unfold OkRoom; infer_instance
def OkWeb (rs : List RoomD) : Prop := 1 ≤ rs.length ∧ rs.length ≤ 12 ∧ ∀ r ∈ rs, OkRoom rs r
instance (rs : List RoomD) : Decidable (OkWeb rs) := by unfold OkWeb; infer_instance
theorem fold_bd {rs : List RoomD} : ∀ (l : List Int) (f B : Int), (∀ h ∈ l, 0 ≤ h ∧ h ≤ (rs.length : Int) - 1) → (∀ r ∈ rs, 1 ≤ r.size ∧ r.size ≤ 60) → 0 ≤ f → f ≤ B → 0 ≤ l.foldl (fun f h => f * (rAt rs h).size) f ∧ l.foldl (fun f h => f * (rAt rs h).size) f ≤ B * 60 ^ l.length
  | [], f, B, _, _, h0, h1 => by simpa using ⟨h0, h1⟩
  | h :: l, f, B, hl, hr, h0, h1 => by
    obtain ⟨g0, g1⟩ := hr _ (List.mem_of_getElem? (rAt_get (hl h (List.mem_cons_self ..)).1 (hl h (List.mem_cons_self ..)).2))
    have h2 : 0 ≤ f * (rAt rs h).size := Int.mul_nonneg h0 (by omega)
    have h3 : f * (rAt rs h).size ≤ B * 60 := Int.mul_le_mul h1 g1 (by omega) (by omega)
    have ih := fold_bd l (f * (rAt rs h).size) (B * 60) (fun x hx => hl x (List.mem_cons_of_mem _ hx)) hr h2 h3
    rw [List.foldl_cons, List.length_cons]
    refine ⟨ih.1, ?_⟩
    have e : B * 60 * 60 ^ l.length = B * 60 ^ (l.length + 1) := by rw [Int.pow_succ, Int.mul_assoc, Int.mul_comm 60]
    rw [← e]
    exact ih.2
theorem rows_small {rs : List RoomD} {l : List Int} (hl : ∀ h ∈ l, 0 ≤ h ∧ h ≤ (rs.length : Int) - 1) (hr : ∀ r ∈ rs, 1 ≤ r.size ∧ r.size ≤ 60) (h3 : l.length ≤ 3) : 0 ≤ rowsF rs l ∧ rowsF rs l ≤ 216000 := by
  obtain ⟨a, b⟩ := fold_bd l 1 1 hl hr (by decide) (by decide)
  refine ⟨a, Int.le_trans b ?_⟩
  match l.length, h3 with
  | 0, _ => decide
  | 1, _ => decide
  | 2, _ => decide
  | 3, _ => decide
theorem atI_int {α : Type} {xs : List α} {i : Int} {v : α} (h0 : 0 ≤ i) (e : xs[i.toNat]? = some v) : atI xs i = some v := by
  have h := atI_nat e
  rwa [Int.toNat_of_nonneg h0] at h
def RoomsAt (K : PySem.W.Frag) (H : Hp) (t : Addr) (rs : List RoomD) : Prop := ∃ as : List Addr, H t = some (.tup (as.map V.ref)) ∧ as.length = rs.length ∧ ∀ (i : Nat) (x : Addr) (r : RoomD), as[i]? = some x → rs[i]? = some r → RoomAt K H x r
theorem RoomsAt.same {K : PySem.W.Frag} {H H' : Hp} {t : Addr} {rs : List RoomD} (h : RoomsAt K H t rs) (s : Same H H') : RoomsAt K H' t rs :=
  let ⟨as, h1, h2, h3⟩ := h
  ⟨as, s _ _ h1, h2, fun i x r a b => (h3 i x r a b).same s⟩
theorem RoomsAt.get {K : PySem.W.Frag} {H : Hp} {t : Addr} {rs : List RoomD} (h : RoomsAt K H t rs) {i : Int} (h0 : 0 ≤ i) (h1 : i ≤ (rs.length : Int) - 1) :
    ∃ xs x, SqT K H t xs ∧ atI xs i = some (.ref x) ∧ RoomAt K H x (rAt rs i) := by
  obtain ⟨as, a1, a2, a3⟩ := h
  have hl : i.toNat < as.length := by omega
  refine ⟨_, as[i.toNat], SqT.of a1, atI_int h0 (by rw [List.getElem?_map, List.getElem?_eq_getElem hl]; rfl), a3 _ _ _ (List.getElem?_eq_getElem hl) (rAt_get h0 h1)⟩
section
variable {P : Program} {w : World} {K : PySem.W.Frag} {mg : Str → Option Value} {base : Heap}
def spRows (K : PySem.W.Frag) : Sp := fun vs H Q _ => ∃ (t th : Addr) (rs : List RoomD) (l : List Int), vs = [.ref t, .ref th] ∧ RoomsAt K H t rs ∧ H th = some (.tup (nsv l)) ∧ l.length ≤ 3 ∧ (∀ h ∈ l, 0 ≤ h ∧ h ≤ (rs.length : Int) - 1) ∧ (∀ r ∈ rs, 1 ≤ r.size ∧ r.size ≤ 60) ∧ Q (.int (rowsF rs l)) H
theorem ok_rows_heard (T : Tx K mg) : CL P w K mg base CX0 4 "rows_heard" ["rooms", "hears"] (spRows K) := by
  have G1 : CL P w K mg base CX0 3 "is_size" ["thing"] spIsSize := ok_is_size T
  refine CL.of0 T.d_rows_heard T.g_rows_heard sc_rows_heard b_rows_heard (fun vs H Q E h => ?_) (fun f cdv A outer s H vs Q E hr h => ?_)
  · obtain ⟨t, th, rs, l, rfl, _⟩ := h; rfl
  · obtain ⟨t, th, rs, l, rfl, hR, hth, hl, hb, hs, k⟩ := h
    refine ⟨_, pss_cons (ps_set (i := 2) sc_rows_heard.nd rfl (Or.inl rfl) pe_int)
      (pss_cons (ps_for PassesOwn.never rfl (pi_tup (pv 1)) (pg_name (i := 3) sc_rows_heard.nd rfl (Or.inl rfl))
        (pss_cons (ps_if (pt_not (pt_val (pe_cl G1 hr (by decide) pass0 (pa_cons (pe_fld (pe_ix ix_tup (pv 0) (pv 3) (fun _ _ => rfl)) rfl) pa_nil)))) pss_never pss_nil)
          (pss_one (ps_aug (i := 2) sc_rows_heard.nd rfl (Or.inl rfl) (pe_fld (pe_ix ix_tup (pv 0) (pv 3) (fun _ _ => rfl)) rfl) iop_mul))))
        (pss_one (ps_ret (pv 2)))), ?_⟩
    refine ⟨_, rfl, th, rfl, ⟨_, SqT.of hth⟩, for_tup (xs := nsv l) (fun i σ H' => H' = H ∧ ∃ u, σ = [some (.ref t), some (.ref th), some (.int (rowsF rs (l.take i))), u]) ⟨rfl, _, rfl⟩ (fun i σ H' _ h => by rw [h.1]; exact SqT.of hth) (fun i x σ H' hx h => ?_) (fun σ H' h => ?_)⟩
    · obtain ⟨rfl, u, rfl⟩ := h
      obtain ⟨a, ha, rfl⟩ : ∃ a, l[i]? = some a ∧ x = .int a := by
        rw [List.getElem?_map] at hx
        cases e : l[i]? with
        | none => rw [e] at hx; cases hx
        | some a => rw [e] at hx; exact ⟨a, rfl, (Option.some.inj hx).symm⟩
      obtain ⟨b1, b2⟩ := hb a (List.mem_of_getElem? ha)
      obtain ⟨xs, x, q1, q2, dx, h1, h2, h3, h4, h5⟩ := hR.get b1 b2
      obtain ⟨g1, g2⟩ := hs _ (List.mem_of_getElem? (rAt_get b1 b2))
      refine ⟨_, rfl, _, rfl, _, _, _, _, rfl, rfl, q1, q2, _, _, _, _, _, rfl, h3, T.c_Room, T.n_Room_size, rf_size, _, rfl, _, rfl, ?_⟩
      rw [decide_eq_true ⟨g1, g2⟩]
      refine iteF ?_
      have hsm := rows_small (l := l.take i) (rs := rs) (fun h hh => hb h (List.mem_of_mem_take hh)) hs (Nat.le_trans (List.length_take_le' ..) hl)
      refine ⟨_, rfl, _, rfl, _, rfl, _, _, _, _, rfl, rfl, q1, q2, _, _, _, _, _, rfl, h3, T.c_Room, T.n_Room_size, rf_size, _, _, rfl, rfl, .inl ⟨by omega, by omega⟩, rfl, some (.int a), ?_⟩
      have e : rowsF rs (l.take (i + 1)) = rowsF rs (l.take i) * (rAt rs a).size := by
        unfold rowsF
        rw [List.take_add_one, ha, List.foldl_append]
        rfl
      rw [e]
      rfl
    · obtain ⟨rfl, u, rfl⟩ := h
      rw [show l.take (nsv l).length = l by rw [List.length_map, List.take_length]]
      exact ⟨_, rfl, k⟩
def spIsRule (K : PySem.W.Frag) : Sp := fun vs H Q _ => ∃ (t : Addr) (rs : List RoomD) (i : Int), vs = [.ref t, .int i] ∧ RoomsAt K H t rs ∧ 0 ≤ i ∧ i ≤ (rs.length : Int) - 1 ∧ OkRoom rs (rAt rs i) ∧ (∀ r ∈ rs, 1 ≤ r.size ∧ r.size ≤ 60) ∧ ∀ H', Same H H' → Q (.bl true) H'
theorem ok_is_rule (T : Tx K mg) : CL P w K mg base CX0 5 "is_rule" ["rooms", "at"] (spIsRule K) := by
  have G1 : CL P w K mg base CX0 2 "is_from" ["thing", "least", "most"] spIsFrom := ok_is_from T
  have G2 : CL P w K mg base CX0 4 "rows_heard" ["rooms", "hears"] (spRows K) := ok_rows_heard T
  obtain ⟨t60, m⟩ := T.i_MOST_TABLE
  refine CL.of0 T.d_is_rule T.g_is_rule sc_is_rule b_is_rule (fun vs H Q E h => ?_) (fun f cdv A outer s H vs Q E hr h => ?_)
  · obtain ⟨t, rs, i, rfl, _⟩ := h; rfl
  · obtain ⟨t, rs, i, rfl, hR, i0, i1, ⟨k1, k2, k3, k4, k5, k6, k7, k8⟩, hs, k⟩ := h
    refine ⟨_, pss_cons (ps_set (i := 2) sc_is_rule.nd rfl (Or.inr rfl) (pe_ix ix_tup (pv 0) (pv 1) (fun _ _ => rfl)))
      (pss_cons (ps_if (pt_not (pt_val (pe_callB call_isi (by rfl) T.f_isinstance (by decide +kernel) (pa_cons (pe_fld (pv 2) rfl) (pa_cons (pe_bltn (v := .ty "tuple") (by rfl) T.f_tuple boot_tuple rfl) pa_nil))))) pss_never pss_nil)
      (pss_cons (ps_set (i := 3) sc_is_rule.nd rfl (Or.inl rfl) (pe_cl G2 hr (by decide) pass0 (pa_cons (pv 0) (pa_cons (pe_fld (pv 2) rfl) pa_nil))))
      (pss_cons (ps_if (pt_cmpR op_isN (pv 3) pe_non (nomark _)) pss_never pss_nil)
      (pss_cons (ps_if (PW.pt (pw_or (pt_cmpR op_gt (pv 3) (pe_glob (v := .int 2000) rfl m ⟨_, rfl⟩) (nomark _)) (pw_or1 (pt_cmpR op_ne (pe_callB call_len_seq (by rfl) T.f_len PySem.boot_len (pa_cons (pe_fld (pv 2) rfl) pa_nil)) (pv 3) (nomark _))))) pss_never pss_nil)
      (pss_one (ps_ret (pe_callB (cr_all rfl) (by rfl) T.f_all (by decide +kernel) (pa_cons (pe_lc (own := [("stand", 4)]) (g := gName 4) (tt := tYes) rfl sc_is_rule.nd (pi_tup (pe_fld (pv 2) rfl)) (blkOk_by (N := N_is_rule) (sc := defScope s_is_rule) (by decide +kernel))
          (fun _ _ _ _ _ => pg_name (i := 4) sc_is_rule.nd rfl (Or.inl rfl)) (fun _ _ _ _ _ => pts_nil) (fun _ _ _ _ _ => pe_cl G1 hr (by decide) pass0 (pa_cons (pv 4) (pa_cons pe_int (pa_cons (pe_op op_sub (pe_fldK K (pv 2)) pe_int) pa_nil))))) pa_nil)))))))), ?_⟩
    obtain ⟨xs, x, q1, q2, dx, th, tr, h3, h4, h5⟩ := hR.get i0 i1
    refine ⟨_, rfl, _, rfl, _, _, _, _, rfl, rfl, q1, q2, ?_⟩
    refine ⟨_, rfl, _, _, _, _, _, rfl, h3, T.c_Room, T.n_Room_rule, rf_rule, _, _, _, _, _, rfl, .ty _, .base (.tup h5), kit_ty (b := "tuple") (r := true) (by decide +kernel), _, rfl, iteF ?_⟩
    refine ⟨_, rfl, _, rfl, _, _, _, _, _, rfl, h3, T.c_Room, T.n_Room_hears, rf_hears, _, _, _, _, rfl, hR, h4, k1, k2, hs, ?_⟩
    refine ⟨_, rfl, rfl, _, rfl, ?_⟩
    refine iteDF (fun z => nomatch z) ?_
    refine ⟨_, rfl, _, _, rfl, rfl, _, rfl, ?_⟩
    refine iteDF (by omega) ?_
    refine ⟨_, rfl, _, _, _, _, _, rfl, h3, T.c_Room, T.n_Room_rule, rf_rule, _, _, rfl, .inr (SqT.of h5), _, rfl, rfl, _, rfl, ?_⟩
    refine iteNDT (by rw [k6, List.length_map]) ?_
    refine ⟨_, rfl, _, _, _, _, _, rfl, h3, T.c_Room, T.n_Room_rule, rf_rule, _, rfl, ⟨_, SqT.of h5⟩, fun D hD => lc_map (walk_tup (xs := nsv (rAt rs i).rule)) (fun _ => .bl true) (by rw [List.length_map]; omega) hD (fun H' s' => SqT.of (s' _ _ h5)) (fun j y H1 H2 acc Nx hi s1 hacc hlen yy kk => ?_) (fun H2 s2 h2 => ?_)⟩
    · obtain ⟨rfl, hx⟩ := yy
      obtain ⟨a, ha, rfl⟩ : ∃ a, (rAt rs i).rule[j]? = some a ∧ y = .int a := by
        rw [List.getElem?_map] at hx
        cases e : (rAt rs i).rule[j]? with
        | none => rw [e] at hx; cases hx
        | some a => rw [e] at hx; exact ⟨a, rfl, (Option.some.inj hx).symm⟩
      refine ⟨rfl, yes_ (iteT ?_)⟩
      refine ⟨_, rfl, _, rfl, _, _, _, _, _, rfl, s1 _ _ h3, T.c_Room, T.n_Room_size, rf_size, _, _, rfl, rfl, _, _, _, rfl, ?_⟩
      obtain ⟨b1, b2⟩ := k8 a (List.mem_of_getElem? ha)
      rw [decide_eq_true ⟨b1, b2⟩]
      exact ⟨acc, hacc, hlen, kk _ s1 hacc⟩
    · refine ⟨_, (List.range (nsv (rAt rs i).rule).length).map (fun _ => true), rfl, SqL.of (by rw [h2, List.map_map]; rfl), ?_⟩
      rw [show ((List.range (nsv (rAt rs i).rule).length).map (fun _ => true)).all id = true by simp]
      exact k _ s2
theorem ok_fault_of (T : Tx K mg) : CL P w K mg base CX0 6 "fault_of" ["rooms", "at"] (fun vs H Q _ => ∃ (t : Addr) (rs : List RoomD) (i : Int), vs = [.ref t, .int i] ∧ RoomsAt K H t rs ∧ 0 ≤ i ∧ i ≤ (rs.length : Int) - 1 ∧ OkRoom rs (rAt rs i) ∧ (∀ r ∈ rs, 1 ≤ r.size ∧ r.size ≤ 60) ∧ ∀ H', Same H H' → Q .non H') := by
  have G1 : CL P w K mg base CX0 2 "is_from" ["thing", "least", "most"] spIsFrom := ok_is_from T
  have G2 : CL P w K mg base CX0 3 "is_size" ["thing"] spIsSize := ok_is_size T
  have G3 : CL P w K mg base CX0 3 "are_hears" ["thing", "many"] spAreHears := ok_are_hears T
  have G4 : CL P w K mg base CX0 5 "is_rule" ["rooms", "at"] (spIsRule K) := ok_is_rule T
  refine CL.of0 T.d_fault_of T.g_fault_of sc_fault_of b_fault_of (fun vs H Q E h => ?_) (fun f cdv A outer s H vs Q E hr h => ?_)
  · obtain ⟨t, rs, i, rfl, _⟩ := h; rfl
  · obtain ⟨t, rs, i, rfl, hR, i0, i1, hok, hs, k⟩ := h
    obtain ⟨k1, k2, k3, k4, k5, k6, k7, k8⟩ := id hok
    refine ⟨_, pss_cons (ps_set (i := 2) sc_fault_of.nd rfl (Or.inl rfl) (pe_ix ix_tup (pv 0) (pv 1) (fun _ _ => rfl)))
      (pss_cons (ps_if (pt_not (pt_val (pe_cl G3 hr (by decide) pass0 (pa_cons (pe_fld (pv 2) rfl) (pa_cons (pe_callB call_len_seq (by rfl) T.f_len PySem.boot_len (pa_cons (pv 0) pa_nil)) pa_nil))))) pss_never pss_nil)
      (pss_cons (ps_if (pt_not (pt_val (pe_cl G2 hr (by decide) pass0 (pa_cons (pe_fld (pv 2) rfl) pa_nil)))) pss_never pss_nil)
      (pss_cons (ps_if (pt_not (pt_val (pe_cl G1 hr (by decide) pass0 (pa_cons (pe_fld (pv 2) rfl) (pa_cons pe_int (pa_cons (pe_op op_sub (pe_fld (pv 2) rfl) pe_int) pa_nil)))))) pss_never pss_nil)
      (pss_one (ps_ret (pe_ifExp (pt_val (pe_cl G4 hr (by decide) pass0 (pa_cons (pv 0) (pa_cons (pv 1) pa_nil)))) pe_non pe_str)))))), ?_⟩
    obtain ⟨xs, x, q1, q2, dx, th, tr, h3, h4, h5⟩ := hR.get i0 i1
    obtain ⟨as, a1, a2, a3⟩ := id hR
    refine ⟨_, rfl, _, rfl, _, _, _, _, rfl, rfl, q1, q2, ?_⟩
    refine ⟨_, rfl, _, _, _, _, _, rfl, h3, T.c_Room, T.n_Room_hears, rf_hears, _, rfl, _, _, rfl, .inr (SqT.of a1), ?_⟩
    refine ⟨_, _, _, rfl, h4, k1, (by rw [List.length_map, a2]; exact k2), k3, fun H1 s1 => ⟨_, rfl, iteF ?_⟩⟩
    refine ⟨_, rfl, _, _, _, _, _, rfl, s1 _ _ h3, T.c_Room, T.n_Room_size, rf_size, _, rfl, _, rfl, ?_⟩
    rw [decide_eq_true k4]
    refine iteF ?_
    refine ⟨_, rfl, _, _, _, _, _, rfl, s1 _ _ h3, T.c_Room, T.n_Room_first, rf_first, _, rfl, _, _, _, _, _, rfl, s1 _ _ h3, T.c_Room, T.n_Room_size, rf_size, _, _, rfl, rfl, _, _, _, rfl, _, rfl, ?_⟩
    rw [decide_eq_true k5]
    refine iteF ?_
    exact ⟨_, rfl, _, rfl, _, _, _, rfl, hR.same s1, i0, i1, hok, hs, fun H2 s2 => ⟨_, rfl, iteT (k _ (s1.trans s2))⟩⟩
end
end S
set_option Elab.async false
set_option linter.all false
set_option maxRecDepth 100000
set_option maxHeartbeats 4000000
/-! # webs: made, looked at, lots, told_by -/
namespace S
open PySem PySem.Spec PyProof.Rows L2 G
abbrev wf (t : Addr) : List (Str × V) := [("kept", .ref t)]
theorem wf_kept {t : Addr} : (wf t).lookup ("kept" : Str) = some (.ref t) := by kernel_rfl
theorem wf_put {t : Addr} : putF "kept" (.ref t) [] = wf t := by kernel_rfl
theorem wf_none {t : Addr} {m : Str} (h : ¬ (m = "kept") := by decide +kernel) : (wf t).lookup m = none := by
  show (match m == "kept" with | true => some (V.ref t) | false => none) = none
  have e : (m == "kept") = false := by simpa using h
  rw [e]
def WebAt (K : PySem.W.Frag) (H : Hp) (a : Addr) (rs : List RoomD) : Prop := ∃ dx t, H a = some (.ins (cWeb K) dx (wf t)) ∧ RoomsAt K H t rs
theorem WebAt.same {K : PySem.W.Frag} {H H' : Hp} {a : Addr} {rs : List RoomD} (h : WebAt K H a rs) (s : Same H H') : WebAt K H' a rs :=
  let ⟨dx, t, h1, h2⟩ := h
  ⟨dx, t, s _ _ h1, h2.same s⟩
/-- what a maker leaves -/
theorem same_made {H H1 : Hp} {x dx : Addr} {o o' : HO} (nx : H x = none) (nd : H dx = none) (ne : dx ≠ x) (s : Same (upd (upd H dx (.own x)) x o) H1) : Same H (upd H1 x o') := fun b u e => by
  have h1 : b ≠ x := ne_of_none e nx
  have h2 : b ≠ dx := ne_of_none e nd
  rw [upd_ne h1]
  refine s b u ?_
  rw [upd_ne h1, upd_ne h2]
  exact e
theorem rAt_mem {rs : List RoomD} {i : Int} (h0 : 0 ≤ i) (h1 : i ≤ (rs.length : Int) - 1) : rAt rs i ∈ rs := List.mem_of_getElem? (rAt_get h0 h1)
theorem dpAll_ints {K : PySem.W.Frag} {H : Hp} : ∀ l : List Int, DpAll K H (nsv l) (l.map PyData.int)
  | [] => .nil
  | i :: l => .cons (.int i) (dpAll_ints l)
theorem inV_int (a : Int) : ∀ l : List Int, inV (.int a) (nsv l) = decide (a ∈ l)
  | [] => by simp [inV]
  | b :: l => by
    have ih := inV_int a l
    unfold inV at ih ⊢
    rw [show nsv (b :: l) = V.int b :: nsv l from rfl, List.any_cons, ih]
    show ((b == a) || decide (a ∈ l)) = decide (a ∈ b :: l)
    by_cases h : b = a
    · subst h; simp
    · have h' : ¬ a = b := fun z => h z.symm
      simp [h, h']
theorem flat_ints (l : List Int) : (nsv l).all flatV = true := by
  rw [List.all_map]
  exact List.all_eq_true.mpr fun _ _ => rfl
def lotGo (rs : List RoomD) : Nat → List Int → List Int → Option (List Int)
  | 0, _, _ => none
  | n + 1, found, waiting => match waiting.getLast? with
    | none => some found
    | some one => if one ∈ found then lotGo rs n found waiting.dropLast else lotGo rs n (found ++ [one]) (waiting.dropLast ++ (rAt rs one).hears)
def LotIs (rs : List RoomD) (room : Int) (lot : List Int) : Prop := ∃ n fd, n ≤ 1000 ∧ lotGo rs n [] [room] = some fd ∧ fd.Perm lot ∧ lot.Pairwise (· ≤ ·) ∧ fd.length < 64 ∧ ∀ x ∈ lot, 0 ≤ x ∧ x ≤ (rs.length : Int) - 1
theorem get2 {K : PySem.W.Frag} {H : Hp} {t : Addr} {rs : List RoomD} (h : RoomsAt K H t rs) {i : Int} (h0 : 0 ≤ i) (h1 : i ≤ (rs.length : Int) - 1) :
    ∃ xs x, H t = some (.tup xs) ∧ atI xs i = some (.ref x) ∧ RoomAt K H x (rAt rs i) := by
  obtain ⟨as, a1, a2, a3⟩ := h
  have hl : i.toNat < as.length := by omega
  refine ⟨_, as[i.toNat], a1, atI_int h0 (by rw [List.getElem?_map, List.getElem?_eq_getElem hl]; rfl), a3 _ _ _ (List.getElem?_eq_getElem hl) (rAt_get h0 h1)⟩
theorem nsv_snoc (r : List Int) (a : Int) : nsv (r ++ [a]) = nsv r ++ [V.int a] := List.map_append
theorem nsv_app (r l : List Int) : nsv (r ++ l) = nsv r ++ nsv l := List.map_append
def placeF (rs : List RoomD) (hears st : List Int) : Int := (hears.zip st).foldl (fun p hs => p * (rAt rs hs.1).size + hs.2) 0
def toldF (rs : List RoomD) (room : Int) (st : List Int) : Option Int := atI (rAt rs room).rule (placeF rs (rAt rs room).hears st)
theorem atI_map {α β : Type} (f : α → β) (l : List α) (i : Int) : atI (l.map f) i = (atI l i).map f := by
  unfold atI
  rw [List.length_map]
  cases ixN l.length i with
  | none => rfl
  | some j => exact List.getElem?_map
section
variable {P : Program} {w : World} {K : PySem.W.Frag} {mg : Str → Option Value} {base : Heap}
theorem ok_look_rooms (T : Tx K mg) (hI : C8.InsC K (cRoom K)) : CL P w K mg base CX0 7 "look_rooms" ["rooms"] (fun vs H Q _ => ∃ (t : Addr) (rs : List RoomD), vs = [.ref t] ∧ RoomsAt K H t rs ∧ OkWeb rs ∧ ∀ H', Same H H' → Q .non H') := by
  have G1 := ok_fault_of (P := P) (w := w) (base := base) T
  obtain ⟨tt, m⟩ := T.i_MOST_ROOMS
  refine CL.of0 T.d_look_rooms T.g_look_rooms sc_look_rooms b_look_rooms (fun vs H Q E h => ?_) (fun f cdv A outer s H vs Q E hr h => ?_)
  · obtain ⟨t, rs, rfl, _⟩ := h; rfl
  · obtain ⟨t, rs, rfl, hR, ⟨o1, o2, o3⟩, k⟩ := h
    refine ⟨_, pss_cons (ps_if (PW.pt (pw_or (pt_not (pt_val (pe_callB call_isi (by rfl) T.f_isinstance (by decide +kernel) (pa_cons (pv 0) (pa_cons (pe_bltn (v := .ty "tuple") (by rfl) T.f_tuple boot_tuple rfl) pa_nil)))))
        (pw_or1 (pt_not (pt_chain op_le op_le pe_int (pe_callB call_len_seq (by rfl) T.f_len PySem.boot_len (pa_cons (pv 0) pa_nil)) (pe_glob (v := .int 12) rfl m ⟨_, rfl⟩)))))) pss_never pss_nil)
      (pss_cons (ps_if (pt_not (pt_val (pe_callB (cr_all rfl) (by rfl) T.f_all (by decide +kernel) (pa_cons (pe_lc (own := [("one", 3)]) (g := gName 3) (tt := tYes) rfl sc_look_rooms.nd (pi_tup (pv 0)) (blkOk_by (N := N_look_rooms) (sc := defScope s_look_rooms) (by decide +kernel))
          (fun _ _ _ _ _ => pg_name (i := 3) sc_look_rooms.nd rfl (Or.inl rfl)) (fun _ _ _ _ _ => pts_nil) (fun _ _ _ _ _ => pe_callB (C8.call_isC hI) (by rfl) T.f_isinstance (by decide +kernel) (pa_cons (pv 3) (pa_cons (pe_glob (v := .ref (cRoom K)) rfl T.g_Room rfl) pa_nil)))) pa_nil)))) pss_never pss_nil)
      (pss_one (ps_for PassesOwn.never rfl (pi_range1 rfl T.f_range (pa_cons (pe_callB call_len_seq (by rfl) T.f_len PySem.boot_len (pa_cons (pv 0) pa_nil)) pa_nil)) (pg_name (i := 1) sc_look_rooms.nd rfl (Or.inl rfl))
        (pss_cons (ps_set (i := 2) sc_look_rooms.nd rfl (Or.inl rfl) (pe_cl G1 hr (by decide) pass0 (pa_cons (pv 0) (pa_cons (pv 1) pa_nil))))
          (pss_one (ps_if (pt_cmpR op_notN (pv 2) pe_non (nomark _)) pss_never pss_nil)))))), ?_⟩
    obtain ⟨as, a1, a2, a3⟩ := id hR
    have hs : ∀ r ∈ rs, 1 ≤ r.size ∧ r.size ≤ 60 := fun r hr => (o3 r hr).2.2.2.1
    refine ⟨_, rfl, _, _, _, _, _, rfl, .ty _, .base (.tup a1), kit_ty (b := "tuple") (r := true) (by decide +kernel), _, rfl, ?_⟩
    refine iteF ⟨_, rfl, _, _, rfl, .inr (SqT.of a1), _, _, rfl, rfl, _, rfl, ?_⟩
    refine iteDT (by rw [List.length_map]; omega) ⟨_, _, rfl, rfl, _, rfl, ?_⟩
    refine iteNDT (by rw [List.length_map]; omega) ?_
    refine ⟨_, rfl, _, rfl, ⟨_, SqT.of a1⟩, fun D hD => lc_map (walk_tup (xs := as.map V.ref)) (fun _ => .bl true) (by rw [List.length_map]; omega) hD (fun H' s' => SqT.of (s' _ _ a1)) (fun j y H1 H2 acc Nx hi s1 hacc hlen yy kk => ?_) (fun H2 s2 h2 => ?_)⟩
    · obtain ⟨rfl, hx⟩ := yy
      obtain ⟨a, ha, rfl⟩ : ∃ a, as[j]? = some a ∧ y = .ref a := by
        rw [List.getElem?_map] at hx
        cases e : as[j]? with
        | none => rw [e] at hx; cases hx
        | some a => rw [e] at hx; exact ⟨a, rfl, (Option.some.inj hx).symm⟩
      have hj : j < rs.length := by rw [← a2]; exact (List.getElem?_eq_some_iff.mp ha).1
      obtain ⟨dx, th, tr, h3, _, _⟩ := a3 j a _ ha (List.getElem?_eq_getElem hj)
      refine ⟨rfl, yes_ (iteT ?_)⟩
      exact ⟨_, rfl, _, _, _, rfl, s1 _ _ h3, acc, hacc, hlen, kk _ s1 hacc⟩
    · refine ⟨_, (List.range (as.map V.ref).length).map (fun _ => true), rfl, SqL.of (by rw [h2, List.map_map]; rfl), _, rfl, ?_⟩
      rw [show ((List.range (as.map V.ref).length).map (fun _ => true)).all id = true by simp]
      refine iteF ?_
      refine ⟨_, rfl, _, _, rfl, .inr (SqT.of (s2 _ _ a1)), _, rfl, by omega, (by rw [List.length_map]; omega), ?_⟩
      refine for_range (lo := 0) (fun i σ H' => Same H H' ∧ ∃ u v z, σ = [some (.ref t), u, v, z]) ⟨s2, _, _, _, rfl⟩ (fun i σ H' hi hp => ?_) (fun σ H' hp => k _ hp.1)
      obtain ⟨s3, u, v, z, rfl⟩ := hp
      rw [List.length_map, Int.toNat_natCast] at hi
      have e : rAt rs (0 + (i : Int)) ∈ rs := rAt_mem (by omega) (by omega)
      refine ⟨_, rfl, _, rfl, _, _, _, rfl, hR.same s3, by omega, by omega, o3 _ e, hs, fun H3 s4 => ⟨_, rfl, rfl, _, rfl, iteNDT rfl ⟨s3.trans s4, _, _, _, rfl⟩⟩⟩
theorem ok_Web_init (T : Tx K mg) (hI : C8.InsC K (cRoom K)) : KL P w K mg base CX0 8 "Web" (cWeb K) ["self", "rooms"] (fun vs H Q _ => ∃ (x dx t : Addr) (rs : List RoomD), vs = [.ref x, .ref t] ∧ H x = some (.ins (cWeb K) dx []) ∧ RoomsAt K H t rs ∧ OkWeb rs ∧ ∀ H1, Same H H1 → Q .non (upd H1 x (.ins (cWeb K) dx (wf t)))) := by
  have G1 := ok_look_rooms (P := P) (w := w) (base := base) T hI
  refine KL.of0 T.d_Web_init T.m_Web T.g_Web sc_Web_init b_Web_init (fun vs H Q E h => ?_) (fun f cdv A outer s H vs Q E hr h => ?_)
  · obtain ⟨x, dx, t, rs, rfl, _⟩ := h; rfl
  · obtain ⟨x, dx, t, rs, rfl, hx, hR, ho, k⟩ := h
    refine ⟨_, pss_cons (ps_expr (pe_cl G1 hr (by decide) pass0 (pa_cons (pv 1) pa_nil))) (pss_one (ps_fld (pv 0) (pv 1) rfl)), ?_⟩
    refine ⟨_, rfl, _, _, rfl, hR, ho, fun H1 s1 => ?_⟩
    refine ⟨_, rfl, _, rfl, _, _, _, _, rfl, s1 _ _ hx, T.c_Web, T.n_Web_kept, (by show 0 < 1000; decide), ?_⟩
    rw [wf_put]
    exact k _ s1
theorem ok_Web_rooms (T : Tx K mg) : ML P w K mg base CX0 1 (cWeb K) "rooms" ["self"] (fun vs H Q _ => ∃ (x dx t : Addr), vs = [.ref x] ∧ H x = some (.ins (cWeb K) dx (wf t)) ∧ Q (.ref t) H) := by
  refine ML.of0 T.d_Web_rooms T.c_Web T.t_Web_rooms sc_Web_rooms b_Web_rooms (fun vs H Q E h => ?_) (fun f cdv A outer s H vs Q E hr h => ?_)
  · obtain ⟨x, dx, t, rfl, _⟩ := h; rfl
  · obtain ⟨x, dx, t, rfl, hx, k⟩ := h
    exact ⟨_, pss_one (ps_ret (pe_fld (pv 0) rfl)), _, rfl, _, _, _, _, _, rfl, hx, T.c_Web, T.n_Web_kept, wf_kept, k⟩
theorem ok_look_room (T : Tx K mg) : CL P w K mg base CX0 3 "look_room" ["web", "room"] (fun vs H Q _ => ∃ (x : Addr) (rs : List RoomD) (i : Int), vs = [.ref x, .int i] ∧ WebAt K H x rs ∧ 0 ≤ i ∧ i ≤ (rs.length : Int) - 1 ∧ Q .non H) := by
  have G1 : CL P w K mg base CX0 2 "is_from" ["thing", "least", "most"] spIsFrom := ok_is_from T
  refine CL.of0 T.d_look_room T.g_look_room sc_look_room b_look_room (fun vs H Q E h => ?_) (fun f cdv A outer s H vs Q E hr h => ?_)
  · obtain ⟨x, rs, i, rfl, _⟩ := h; rfl
  · obtain ⟨x, rs, i, rfl, ⟨dx, t, hx, as, a1, a2, a3⟩, i0, i1, k⟩ := h
    refine ⟨_, pss_one (ps_if (pt_not (pt_val (pe_cl G1 hr (by decide) pass0 (pa_cons (pv 1) (pa_cons pe_int (pa_cons (pe_op op_sub (pe_callB call_len_seq (by rfl) T.f_len PySem.boot_len (pa_cons (pe_fld (pv 0) rfl) pa_nil)) pe_int) pa_nil)))))) pss_never pss_nil), ?_⟩
    refine ⟨_, rfl, _, rfl, _, _, _, _, _, rfl, hx, T.c_Web, T.n_Web_kept, wf_kept, _, _, rfl, .inr (SqT.of a1), _, _, rfl, rfl, _, _, _, rfl, _, rfl, ?_⟩
    rw [decide_eq_true (by rw [List.length_map]; omega)]
    exact iteF k
theorem ok_look_beat (T : Tx K mg) : CL P w K mg base CX0 3 "look_beat" ["beat"] (fun vs H Q _ => ∃ i : Int, vs = [.int i] ∧ 0 ≤ i ∧ i ≤ 10 ^ 60 ∧ Q .non H) := by
  have G1 : CL P w K mg base CX0 2 "is_from" ["thing", "least", "most"] spIsFrom := ok_is_from T
  obtain ⟨tt, m⟩ := T.i_LAST_BEAT
  refine CL.of0 T.d_look_beat T.g_look_beat sc_look_beat b_look_beat (fun vs H Q E h => ?_) (fun f cdv A outer s H vs Q E hr h => ?_)
  · obtain ⟨i, rfl, _⟩ := h; rfl
  · obtain ⟨i, rfl, i0, i1, k⟩ := h
    refine ⟨_, pss_one (ps_if (pt_not (pt_val (pe_cl G1 hr (by decide) pass0 (pa_cons (pv 0) (pa_cons pe_int (pa_cons (pe_glob (v := .int 1000000000000000000000000000000000000000000000000000000000000) rfl m ⟨_, rfl⟩) pa_nil)))))) pss_never pss_nil), ?_⟩
    refine ⟨_, rfl, _, _, _, rfl, _, rfl, ?_⟩
    rw [decide_eq_true ⟨i0, by exact i1⟩]
    exact iteF k
theorem ok_look_cell (T : Tx K mg) : CL P w K mg base CX0 4 "look_cell" ["web", "room", "beat"] (fun vs H Q _ => ∃ (x : Addr) (rs : List RoomD) (i b : Int), vs = [.ref x, .int i, .int b] ∧ WebAt K H x rs ∧ 0 ≤ i ∧ i ≤ (rs.length : Int) - 1 ∧ 0 ≤ b ∧ b ≤ 10 ^ 60 ∧ Q .non H) := by
  have G1 := ok_look_room (P := P) (w := w) (base := base) T
  have G2 := ok_look_beat (P := P) (w := w) (base := base) T
  refine CL.of0 T.d_look_cell T.g_look_cell sc_look_cell b_look_cell (fun vs H Q E h => ?_) (fun f cdv A outer s H vs Q E hr h => ?_)
  · obtain ⟨x, rs, i, b, rfl, _⟩ := h; rfl
  · obtain ⟨x, rs, i, b, rfl, hW, i0, i1, b0, b1, k⟩ := h
    exact ⟨_, pss_cons (ps_expr (pe_cl G1 hr (by decide) pass0 (pa_cons (pv 0) (pa_cons (pv 1) pa_nil)))) (pss_one (ps_expr (pe_cl G2 hr (by decide) pass0 (pa_cons (pv 2) pa_nil)))),
      _, rfl, _, rfl, _, _, _, rfl, hW, i0, i1, _, rfl, _, rfl, b0, b1, k⟩
end
end S
set_option Elab.async false
set_option linter.all false
set_option maxRecDepth 100000
set_option maxHeartbeats 4000000
/-! # lot, told_by, look_tables -/
namespace S
open PySem PySem.Spec PyProof.Rows L2 G
theorem none_same {H H' : Hp} {p : Addr} (s : Same H H') (h : H' p = none) : H p = none := s.free h
theorem eqv_ints_nil (l : List Int) : PyData.eqv (.list (l.map PyData.int)) (.list []) = l.isEmpty := by
  cases l with
  | nil => rfl
  | cons a r => rfl
def spLot (K : PySem.W.Frag) : Sp := fun vs H Q _ => ∃ (x : Addr) (rs : List RoomD) (i : Int) (lot : List Int), vs = [.ref x, .int i] ∧ WebAt K H x rs ∧ OkWeb rs ∧ 0 ≤ i ∧ i ≤ (rs.length : Int) - 1 ∧ LotIs rs i lot ∧
  ∀ (H' : Hp) (p : Addr), Same H H' → H p = none → H' p = some (.lst (nsv lot)) → Q (.ref p) H'
section
variable {P : Program} {w : World} {K : PySem.W.Frag} {mg : Str → Option Value} {base : Heap}
theorem ok_Web_lot (T : Tx K mg) : ML P w K mg base CX0 4 (cWeb K) "lot" ["self", "room"] (spLot K) := by
  have G1 := ok_look_room (P := P) (w := w) (base := base) T
  refine ML.of0 T.d_Web_lot T.c_Web T.t_Web_lot sc_Web_lot b_Web_lot (fun vs H Q E h => ?_) (fun f cdv A outer s H vs Q E hr h => ?_)
  · obtain ⟨x, rs, i, lot, rfl, _⟩ := h; rfl
  · obtain ⟨x, rs, i, lot, rfl, hW, ⟨o1, o2, o3⟩, i0, i1, ⟨n, fd, n1, hgo, hpm, hso, h64, hin⟩, k⟩ := h
    refine ⟨_, pss_cons (ps_expr (pe_cl G1 hr (by decide) pass0 (pa_cons (pv 0) (pa_cons (pv 1) pa_nil))))
      (pss_cons (ps_set (i := 2) sc_Web_lot.nd rfl (Or.inl rfl) (pe_lst pa_nil))
      (pss_cons (ps_set (i := 3) sc_Web_lot.nd rfl (Or.inl rfl) (pe_lst (pa_cons (pv 1) pa_nil)))
      (pss_cons (ps_while PassesOwn.never (pt_cmpR (op_neD hr.units) (pv 3) (pe_lst pa_nil) (nomark _))
        (pss_cons (ps_set (i := 4) sc_Web_lot.nd rfl (Or.inl rfl) (pe_bm0 PySem.F.plainAttrs_list PySem.F.slot_list_pop PySem.F.type_list_pop mt_pop (pv 3)))
        (pss_one (ps_if (pt_cmpR op_notIn_seq (pv 4) (pv 2) (by rfl))
          (pss_cons (ps_expr (pe_bm PySem.F.plainAttrs_list PySem.F.slot_list_append PySem.F.type_list_append mt_append (pv 2) (pa_cons (pv 4) pa_nil)))
          (pss_one (ps_expr (pe_bm PySem.F.plainAttrs_list PySem.F.slot_list_extend PySem.F.type_list_extend mt_extendT (pv 3) (pa_cons (pe_fld (pe_ix ix_tup (pe_fld (pv 0) rfl) (pv 4) (fun _ _ => rfl)) rfl) pa_nil)))))
          pss_nil))))
      (pss_one (ps_ret (pe_callB cr_sorted (by rfl) T.f_sorted (by decide +kernel) (pa_cons (pv 2) pa_nil))))))), ?_⟩
    refine ⟨_, rfl, _, rfl, _, _, _, rfl, hW, i0, i1, ?_⟩
    refine ⟨Nat.zero_le _, fun pf hf => ?_⟩
    refine ⟨_, rfl, (by show 1 ≤ sizeLine; decide), fun pw hw => ?_⟩
    have hfw : pf ≠ pw := fun z => by rw [← z, upd_same] at hw; cases hw
    have hw0 : H pw = none := by rw [upd_ne hfw.symm] at hw; exact hw
    refine ⟨fun m σ Hc => Same H Hc ∧ ∃ (fo wa : List Int) (u : Option V), σ = [some (.ref x), some (.int i), some (.ref pf), some (.ref pw), u] ∧ Hc pf = some (.lst (nsv fo)) ∧ Hc pw = some (.lst (nsv wa)) ∧ lotGo rs m fo wa = some fd ∧
      (∀ y ∈ wa, 0 ≤ y ∧ y ≤ (rs.length : Int) - 1) ∧ fo.length + m ≤ 1000 ∧ wa.length + 3 * m ≤ 4000, ⟨n, same_new (same_new (Same.refl _) hf) hw0, [], [i], _, rfl, ?_, upd_same, hgo, fun y hy => by rw [List.mem_singleton.mp hy]; exact ⟨i0, i1⟩, by simpa using n1, by show 1 + 3 * n ≤ 4000; omega⟩, ?_⟩
    · rw [upd_ne hfw, upd_same]
      rfl
    · rintro m σ Hc ⟨sH, fo, wa, u, rfl, hfo, hwa, hg, hr1, hb1, hb2⟩
      refine ⟨_, rfl, Nat.zero_le _, fun q hq => ⟨_, _, .lst (SqL.of (by rw [upd_ne (ne_of_none hwa hq)]; exact hwa)) (dpAll_ints wa), .lst (SqL.of upd_same) .nil, PySem.W.ke_shaped_ints wa, PySem.W.ke_shaped_ints [], _, rfl, ?_⟩⟩
      have hq0 : H q = none := none_same sH hq
      have sq : Same H (upd Hc q (.lst [])) := same_new sH hq0
      have hfo' : (upd Hc q (.lst [])) pf = some (.lst (nsv fo)) := by rw [upd_ne (ne_of_none hfo hq)]; exact hfo
      have hwa' : (upd Hc q (.lst [])) pw = some (.lst (nsv wa)) := by rw [upd_ne (ne_of_none hwa hq)]; exact hwa
      rw [eqv_ints_nil]
      cases m with
      | zero => simp [lotGo] at hg
      | succ m =>
        rcases List.eq_nil_or_concat wa with rfl | ⟨r, one, rfl⟩
        · have e : fo = fd := by simpa [lotGo] using hg
          subst e
          refine iteF ?_
          refine ⟨_, rfl, _, fo, rfl, SqL.of hfo', h64, fun ns' p pm so hp => ?_⟩
          have e : ns' = lot := PySem.W.lks_uniq (pm.trans hpm) so hso
          subst e
          exact k _ p (same_new sq (none_same sq hp)) (none_same sq hp) upd_same
        · rw [List.concat_eq_append] at hg hr1 hb2 hwa hwa' ⊢
          rw [show (r ++ [one]).isEmpty = false by simp]
          refine iteT ?_
          refine ⟨fun σ' H' => Same H H' ∧ ∃ (fo wa : List Int) (u : Option V), σ' = [some (.ref x), some (.int i), some (.ref pf), some (.ref pw), u] ∧ H' pf = some (.lst (nsv fo)) ∧ H' pw = some (.lst (nsv wa)) ∧ lotGo rs m fo wa = some fd ∧
            (∀ y ∈ wa, 0 ≤ y ∧ y ≤ (rs.length : Int) - 1) ∧ fo.length + m ≤ 1000 ∧ wa.length + 3 * m ≤ 4000, fun σ' H' h => ⟨m, Nat.lt_succ_self m, h⟩, ?_⟩
          have hdl : (nsv (r ++ [one])).dropLast = nsv r := by rw [nsv_snoc, List.dropLast_concat]
          refine ⟨_, rfl, .inl ⟨rfl, _, SqL.of hwa'⟩, _, _, .int one, rfl, rfl, hwa', ?_, ?_⟩
          · rw [nsv_snoc]
            simp
          rw [hdl]
          have sq2 : Same H (upd (upd Hc q (.lst [])) pw (.lst (nsv r))) := same_new sq hw0
          have hfo2 : (upd (upd Hc q (.lst [])) pw (.lst (nsv r))) pf = some (.lst (nsv fo)) := by rw [upd_ne hfw]; exact hfo'
          have hlast : (r ++ [one]).getLast? = some one := by simp
          have hdr : (r ++ [one]).dropLast = r := List.dropLast_concat
          rw [lotGo, hlast, hdr] at hg
          simp only at hg
          rw [List.length_append, List.length_singleton] at hb2
          obtain ⟨b0, b1⟩ := hr1 one (by simp)
          refine ⟨_, rfl, _, rfl, _, _, rfl, .inl (SqL.of hfo2), rfl, flat_ints fo, _, rfl, ?_⟩
          rw [inV_int]
          by_cases hm : one ∈ fo
          · rw [if_pos hm] at hg
            rw [decide_eq_true hm]
            refine iteF ?_
            exact ⟨sq2, fo, r, _, rfl, hfo2, upd_same, hg, fun y hy => hr1 y (by simp [hy]), by omega, by omega⟩
          · rw [if_neg hm] at hg
            rw [decide_eq_false hm]
            refine iteT ?_
            obtain ⟨dx, t, hx, hR⟩ := hW
            obtain ⟨xs, y, q1, q2, dy, th, tr, h3, h4, h5⟩ := get2 hR b0 b1
            have hok := o3 _ (rAt_mem b0 b1)
            refine ⟨_, rfl, .inl ⟨rfl, _, SqL.of hfo2⟩, _, rfl, _, _, _, rfl, rfl, hfo2, (by rw [List.length_map]; exact Nat.lt_of_lt_of_le (Nat.lt_of_le_of_lt (Nat.le_add_right _ m) (Nat.lt_of_lt_of_le (Nat.lt_succ_self _) hb1)) (by decide)), ?_⟩
            have ef : nsv fo ++ [V.int one] = nsv (fo ++ [one]) := (nsv_snoc ..).symm
            rw [ef]
            have sq3 : Same H (upd (upd (upd Hc q (.lst [])) pw (.lst (nsv r))) pf (.lst (nsv (fo ++ [one])))) := same_new sq2 hf
            have hwa3 : (upd (upd (upd Hc q (.lst [])) pw (.lst (nsv r))) pf (.lst (nsv (fo ++ [one])))) pw = some (.lst (nsv r)) := by rw [upd_ne hfw.symm, upd_same]
            refine ⟨_, rfl, .inl ⟨rfl, _, SqL.of hwa3⟩, _, rfl, _, _, _, _, _, rfl, sq3 _ _ hx, T.c_Web, T.n_Web_kept, wf_kept, _, rfl, _, _, _, _, rfl, rfl, SqT.of (sq3 _ _ q1), q2, _, _, _, _, _, rfl, sq3 _ _ h3, T.c_Room, T.n_Room_hears, rf_hears, _, _, _, _, rfl, rfl, hwa3, SqT.of (sq3 _ _ h4), ?_, ?_⟩
            · rw [List.length_map, List.length_map]
              have := hok.1
              exact Nat.le_trans (Nat.add_le_add (Nat.le_trans (Nat.le_add_right _ (3 * m + 1)) (by omega : r.length + (3 * m + 1) ≤ 4000)) this) (by decide)
            · have ew : nsv r ++ nsv (rAt rs one).hears = nsv (r ++ (rAt rs one).hears) := (nsv_app ..).symm
              rw [ew]
              refine ⟨same_new sq3 hw0, fo ++ [one], r ++ (rAt rs one).hears, _, rfl, ?_, upd_same, hg, fun y hy => ?_, ?_, ?_⟩
              · rw [upd_ne hfw, upd_same]
              · rcases List.mem_append.mp hy with hy | hy
                · exact hr1 y (by simp [hy])
                · exact hok.2.1 y hy
              · rw [List.length_append, List.length_singleton]; omega
              · rw [List.length_append]; have := hok.1; omega
end
end S
set_option Elab.async false
set_option linter.all false
set_option maxRecDepth 100000
set_option maxHeartbeats 4000000
/-! # told_by, look_tables -/
namespace S
open PySem PySem.Spec PyProof.Rows L2 G
theorem nsv_at {l : List Int} {i : Nat} {x : V} (h : (nsv l)[i]? = some x) : ∃ a, l[i]? = some a ∧ x = .int a := by
  rw [List.getElem?_map] at h
  cases e : l[i]? with
  | none => rw [e] at h; cases h
  | some a => rw [e] at h; exact ⟨a, rfl, (Option.some.inj h).symm⟩
def InR (rs : List RoomD) (i : Int) : Prop := 0 ≤ i ∧ i ≤ (rs.length : Int) - 1
def spTold (K : PySem.W.Frag) : Sp := fun vs H Q _ => ∃ (x tp : Addr) (rs : List RoomD) (i b v : Int) (st : List Int), vs = [.ref x, .int i, .ref tp, .int b] ∧ WebAt K H x rs ∧ OkWeb rs ∧ InR rs i ∧ H tp = some (.tup (nsv st)) ∧ toldF rs i st = some v ∧
  ∀ H' : Hp, Same H H' → Q (.int v) H'
section
variable {P : Program} {w : World} {K : PySem.W.Frag} {mg : Str → Option Value} {base : Heap}
theorem ok_told_by (T : Tx K mg) : CL P w K mg base CX0 1 "told_by" ["web", "room", "stands", "beat"] (spTold K) := by
  refine CL.of0 T.d_told_by T.g_told_by sc_told_by b_told_by (fun vs H Q E h => ?_) (fun f cdv A outer s H vs Q E hr h => ?_)
  · obtain ⟨x, tp, rs, i, b, v, st, rfl, _⟩ := h; rfl
  · obtain ⟨x, tp, rs, i, b, v, st, rfl, ⟨dx, t, hx, hR⟩, ⟨o1, o2, o3⟩, ⟨i0, i1⟩, htp, hv, k⟩ := h
    refine ⟨_, pss_cons (ps_set (i := 4) sc_told_by.nd rfl (Or.inl rfl) (pe_ix ix_tup (pe_fld (pv 0) rfl) (pv 1) (fun _ _ => rfl)))
      (pss_cons (ps_if (pt_not (pt_val (pe_callB call_isi (by rfl) T.f_isinstance (by decide +kernel) (pa_cons (pe_fld (pv 4) rfl) (pa_cons (pe_bltn (v := .ty "tuple") (by rfl) T.f_tuple boot_tuple rfl) pa_nil))))) pss_never pss_nil)
      (pss_cons (ps_set (i := 6) sc_told_by.nd rfl (Or.inl rfl) pe_int)
      (pss_cons (ps_for PassesOwn.never rfl (RZ.pi_zipA rfl T.f_zip (pa_cons (pe_fld (pv 4) rfl) (pa_cons (pv 2) pa_nil))) (pg_tup rfl (pgs_cons (pg_name (i := 7) sc_told_by.nd rfl (Or.inl rfl)) (pgs_cons (pg_name (i := 5) sc_told_by.nd rfl (Or.inl rfl)) pgs_nil)))
        (pss_one (ps_set (i := 6) sc_told_by.nd rfl (Or.inl rfl) (pe_op op_add (pe_op op_mul (pv 6) (pe_fld (pe_ix ix_tup (pe_fld (pv 0) rfl) (pv 7) (fun _ _ => rfl)) rfl)) (pv 5)))))
      (pss_one (ps_ret (pe_ix ix_tup (pe_fld (pv 4) rfl) (pv 6) (fun _ _ => rfl))))))), ?_⟩
    obtain ⟨xs, y, q1, q2, dy, th, tr, h3, h4, h5⟩ := get2 hR i0 i1
    obtain ⟨k1, k2, k3, k4, k5, k6, k7, k8⟩ := o3 _ (rAt_mem i0 i1)
    refine ⟨_, rfl, _, _, _, _, _, rfl, hx, T.c_Web, T.n_Web_kept, wf_kept, _, rfl, _, _, _, _, rfl, rfl, SqT.of q1, q2, ?_⟩
    refine ⟨_, rfl, _, _, _, _, _, rfl, h3, T.c_Room, T.n_Room_rule, rf_rule, _, _, _, _, _, rfl, .ty _, .base (.tup h5), kit_ty (b := "tuple") (r := true) (by decide +kernel), _, rfl, iteF ?_⟩
    refine ⟨_, rfl, _, _, _, _, _, rfl, h3, T.c_Room, T.n_Room_hears, rf_hears, _, rfl, _, _, _, _, rfl, .inr ⟨SqT.of h4, SqT.of htp, ?_⟩⟩
    have key : ∀ j, (((rAt rs i).hears.zip st).take j).foldl (fun p hs => p * (rAt rs hs.1).size + hs.2) 0 = (((rAt rs i).hears.zip st).take j).foldl (fun p hs => p * (rAt rs hs.1).size + hs.2) 0 := fun _ => rfl
    refine for_it (ZS.walk_zipT (xs := nsv (rAt rs i).hears) (ys := nsv st) rfl) (fun j σ H' => Same H H' ∧ ∃ u u', σ = [some (.ref x), some (.int i), some (.ref tp), some (.int b), some (.ref y), u, some (.int ((((rAt rs i).hears.zip st).take j).foldl (fun p hs => p * (rAt rs hs.1).size + hs.2) 0)), u'])
      ⟨Same.refl _, _, _, rfl⟩ (fun j σ H' _ h => ⟨SqT.of (h.1 _ _ h4), SqT.of (h.1 _ _ htp)⟩) (fun j z σ H1 H2 hj hp hy => ?_) (fun σ H' hp => ?_)
    · obtain ⟨s1, u, u', rfl⟩ := hp
      obtain ⟨T', xa, xc, rfl, hT, rfl, hxa, hxc⟩ := hy
      obtain ⟨a, ha, rfl⟩ := nsv_at hxa
      obtain ⟨c, hc, rfl⟩ := nsv_at hxc
      have s2 : Same H (upd H1 T' (.tup [.int a, .int c])) := same_new s1 (none_same s1 hT)
      obtain ⟨b0, b1⟩ := k2 a (List.mem_of_getElem? ha)
      obtain ⟨xs', y', q1', q2', dy', th', tr', h3', h4', h5'⟩ := get2 hR b0 b1
      have hsz := (o3 _ (rAt_mem b0 b1)).2.2.2.1
      refine ⟨_, _, rfl, SqT.of upd_same, rfl, _, _, rfl, _, _, rfl, rfl, ?_⟩
      refine ⟨_, rfl, _, rfl, _, _, _, _, _, rfl, s2 _ _ hx, T.c_Web, T.n_Web_kept, wf_kept, _, rfl, _, _, _, _, rfl, rfl, SqT.of (s2 _ _ q1'), q2', _, _, _, _, _, rfl, s2 _ _ h3', T.c_Room, T.n_Room_size, rf_size, _, _, rfl, rfl, .inr ⟨by omega, by omega⟩, _, rfl, _, _, rfl, rfl, s2, some (.int c), some (.int a), ?_⟩
      have e : ((rAt rs i).hears.zip st)[j]? = some (a, c) := by
        rw [List.getElem?_zip_eq_some]
        exact ⟨ha, hc⟩
      rw [List.take_add_one, e, List.foldl_append]
      rfl
    · obtain ⟨s1, u, u', rfl⟩ := hp
      rw [show ((rAt rs i).hears.zip st).take (min (nsv (rAt rs i).hears).length (nsv st).length) = (rAt rs i).hears.zip st by
        rw [List.length_map, List.length_map, ← List.length_zip]
        exact List.take_length]
      refine ⟨_, rfl, _, _, _, _, _, rfl, s1 _ _ h3, T.c_Room, T.n_Room_rule, rf_rule, _, rfl, _, _, _, .int v, rfl, rfl, SqT.of (s1 _ _ h5), ?_, k _ s1⟩
      rw [atI_map]
      have e : atI (rAt rs i).rule (((rAt rs i).hears.zip st).foldl (fun p hs => p * (rAt rs hs.1).size + hs.2) 0) = some v := hv
      rw [e]
      rfl
theorem ok_look_tables (T : Tx K mg) : CL P w K mg base CX0 5 "look_tables" ["web", "room"] (fun vs H Q _ => ∃ (x : Addr) (rs : List RoomD) (i : Int) (lot : List Int), vs = [.ref x, .int i] ∧ WebAt K H x rs ∧ OkWeb rs ∧ InR rs i ∧ LotIs rs i lot ∧ ∀ H', Same H H' → Q .non H') := by
  have G1 := ok_Web_lot (P := P) (w := w) (base := base) T
  have G2 := ok_Web_rooms (P := P) (w := w) (base := base) T
  refine CL.of0 T.d_look_tables T.g_look_tables sc_look_tables b_look_tables (fun vs H Q E h => ?_) (fun f cdv A outer s H vs Q E hr h => ?_)
  · obtain ⟨x, rs, i, lot, rfl, _⟩ := h; rfl
  · obtain ⟨x, rs, i, lot, rfl, hW, hok, ⟨i0, i1⟩, hl, k⟩ := h
    refine ⟨_, pss_one (ps_for PassesOwn.never rfl (pi_list (pe_ml G1 hr (by decide) pass0 (pv 0) (pa_cons (pv 1) pa_nil))) (pg_name (i := 2) sc_look_tables.nd rfl (Or.inl rfl))
      (pss_one (ps_if (pt_not (pt_val (pe_callB call_isi (by rfl) T.f_isinstance (by decide +kernel) (pa_cons (pe_fld (pe_ix ix_tup (pe_ml0 G2 hr (by decide) pass0 (pv 0)) (pv 2) (fun _ _ => rfl)) rfl) (pa_cons (pe_bltn (v := .ty "tuple") (by rfl) T.f_tuple boot_tuple rfl) pa_nil))))) pss_never pss_nil))), ?_⟩
    obtain ⟨dx, t, hx, hR⟩ := id hW
    refine ⟨_, rfl, _, _, _, rfl, hx, wf_none, _, rfl, _, rs, _, lot, rfl, hW, hok, i0, i1, hl, fun H1 p s1 hp0 hp => ⟨_, rfl, ⟨_, SqL.of hp⟩, ?_⟩⟩
    obtain ⟨n, fd, n1, hgo, hpm, hso, h64, hin⟩ := hl
    refine for_list (xs := nsv lot) (fun j σ H' => H' = H1 ∧ ∃ u, σ = [some (.ref x), some (.int i), u]) ⟨rfl, _, rfl⟩ (fun j σ H' _ h => by rw [h.1]; exact SqL.of hp) (fun j z σ H' hz h => ?_) (fun σ H' h => by rw [h.1]; exact k _ s1)
    obtain ⟨rfl, u, rfl⟩ := h
    obtain ⟨a, ha, rfl⟩ := nsv_at hz
    obtain ⟨b0, b1⟩ := hin a (List.mem_of_getElem? ha)
    obtain ⟨xs', y', q1', q2', dy', th', tr', h3', h4', h5'⟩ := get2 hR b0 b1
    refine ⟨_, rfl, _, _, _, rfl, s1 _ _ hx, wf_none, _, _, _, rfl, s1 _ _ hx, _, rfl, _, _, _, _, rfl, rfl, SqT.of (s1 _ _ q1'), q2', _, _, _, _, _, rfl, s1 _ _ h3', T.c_Room, T.n_Room_rule, rf_rule, _, _, _, _, _, rfl, .ty _, .base (.tup (s1 _ _ h5')), kit_ty (b := "tuple") (r := true) (by decide +kernel), _, rfl, iteF ⟨rfl, _, rfl⟩⟩
end
end S
set_option Elab.async false
set_option linter.all false
set_option maxRecDepth 100000
set_option maxHeartbeats 4000000
/-! # is_known, poked_beats, heard_cells -/
namespace S
open PySem PySem.Spec PyProof.Rows L2 G
abbrev Ent : Type := (Int × Int) × Int
abbrev Cell : Type := Int × Int
abbrev cK (c : Cell) : List L2.Key := [Sum.inl c.1, Sum.inl c.2]
abbrev cV (c : Cell) : List V := [.int c.1, .int c.2]
theorem cK_inj {c d : Cell} (h : cK c = cK d) : c = d := by
  injection h with h1 h2
  injection h2 with h2 _
  injection h1 with h1
  injection h2 with h2
  exact Prod.ext h1 h2
def lkP (es : List Ent) (c : Cell) : Option Int := (es.find? fun e => decide (e.1 = c)).map (·.2)
theorem valV_ent (c : Cell) : ∀ es : List Ent, valV (es.map entI) (cK c) = (lkP es c).map V.int
  | [] => rfl
  | e :: es => by
    rw [List.map_cons]
    by_cases h : e.1 = c
    · rw [valV_pos (by rw [← h])]
      unfold lkP
      rw [List.find?_cons]
      simp [h]
    · rw [valV_neg (fun z => h (cK_inj z)), valV_ent c es]
      unfold lkP
      rw [List.find?_cons]
      simp [h]
def PkAt (H : Hp) (v : V) (es : List Ent) : Prop := (v = .non ∧ es = []) ∨ ∃ pk, v = .ref pk ∧ H pk = some (.dT (es.map entI))
theorem PkAt.same {H H' : Hp} {v : V} {es : List Ent} (h : PkAt H v es) (s : ∀ b kvs, H b = some (.dT kvs) → H' b = some (.dT kvs)) : PkAt H' v es := by
  rcases h with h | ⟨pk, e, h⟩
  · exact .inl h
  · exact .inr ⟨pk, e, s _ _ h⟩
def knP (es : List Ent) (c : Cell) : Bool := decide (c.2 = 0) || (lkP es c).isSome
theorem range_map_getD {α β : Type} (l : List α) (f : α → Int) : ∀ (m : List β) (_ : m.length = l.length), (List.range m.length).map (fun i => V.int ((l.map f).getD i 0)) = nsv (l.map f) := by
  intro m hm
  apply List.ext_getElem?
  intro i
  rw [List.getElem?_map, List.getElem?_map]
  by_cases h : i < l.length
  · have h2 : i < (l.map f).length := by rw [List.length_map]; exact h
    rw [List.getElem?_range (by omega)]
    show some (V.int ((l.map f).getD i 0)) = _
    rw [List.getD_eq_getElem?_getD, List.getElem?_eq_getElem h2]
    rfl
  · have h2 : ¬ i < (l.map f).length := by rw [List.length_map]; exact h
    rw [List.getElem?_eq_none (by rw [List.length_range]; omega), List.getElem?_eq_none (by omega)]
    rfl
theorem dV (a b : Int) : decide (V.int a = V.int b) = decide (a = b) := by
  by_cases h : a = b
  · simp [h]
  · simp [h]
theorem none_upd {H : Hp} {a b : Addr} {o : HO} (e : upd H a o b = none) : H b = none := by
  by_cases h : b = a
  · rw [h, upd_same] at e; cases e
  · rw [upd_ne h] at e; exact e
section
variable {P : Program} {w : World} {K : PySem.W.Frag} {mg : Str → Option Value} {base : Heap}
def spIsKnown : Sp := fun vs H Q _ => ∃ (t : Addr) (v : V) (c : Cell) (es : List Ent), vs = [.ref t, v] ∧ H t = some (.tup (cV c)) ∧ PkAt H v es ∧ Q (.bl (knP es c)) H
theorem ok_is_known (T : Tx K mg) : CL P w K mg base CX0 1 "is_known" ["cell", "pokes"] spIsKnown := by
  refine CL.of0 T.d_is_known T.g_is_known sc_is_known b_is_known (fun vs H Q E h => ?_) (fun f cdv A outer s H vs Q E hr h => ?_)
  · obtain ⟨t, v, c, es, rfl, _⟩ := h; rfl
  · obtain ⟨t, v, c, es, rfl, ht, hp, k⟩ := h
    refine ⟨_, pss_one (ps_ret (pe_or (pe_cmpR op_eq (pe_ix ix_tup (pv 0) pe_int (fun _ _ => rfl)) pe_int (nomark _)) (pe_one (pe_and (pe_cmpR op_notN (pv 1) pe_non (nomark _)) (pe_one (pe_cmp (pc_din (hu_of hr) (pv 0) (pv 1)))))))), ?_⟩
    refine ⟨_, rfl, _, _, _, _, rfl, rfl, SqT.of ht, rfl, rfl, _, rfl, ?_⟩
    rw [dV]
    by_cases h0 : c.2 = 0
    · refine iteDT h0 ?_
      have e : knP es c = true := by simp [knP, h0]
      rw [e] at k
      exact k
    · refine iteDF h0 ?_
      rcases hp with ⟨rfl, rfl⟩ | ⟨pk, rfl, hp⟩
      · have e : knP [] c = false := by simp [knP, h0, lkP]
        rw [e] at k
        exact ⟨_, rfl, rfl, _, rfl, iteF k⟩
      · have e : knP es c = (lkP es c).isSome := by simp [knP, h0]
        rw [e] at k
        refine ⟨_, rfl, rfl, _, rfl, iteT ⟨_, rfl, _, rfl, pk, _, rfl, DGet.t (k := cK c) hp ht, ?_⟩⟩
        rw [valV_ent, Option.isSome_map]
        exact k
def spBeats : Sp := fun vs H Q _ => ∃ (v : V) (es : List Ent), vs = [v] ∧ PkAt H v es ∧ es.length ≤ 1000 ∧ ∀ H' p, Same H H' → H p = none → H' p = some (.lst (nsv (es.map fun e => e.1.2))) → Q (.ref p) H'
theorem ok_poked_beats (T : Tx K mg) : CL P w K mg base CX0 1 "poked_beats" ["pokes"] spBeats := by
  refine CL.of0 T.d_poked_beats T.g_poked_beats sc_poked_beats b_poked_beats (fun vs H Q E h => ?_) (fun f cdv A outer s H vs Q E hr h => ?_)
  · obtain ⟨v, es, rfl, _⟩ := h; rfl
  · obtain ⟨v, es, rfl, hp, hl, k⟩ := h
    have nd := sc_poked_beats.nd
    by_cases hes : es = []
    · subst hes
      refine ⟨_, pss_one (ps_ret (pe_lc (own := [("room", 1), ("beat", 2)]) (g := gTup K 2 (gCons (gName 1) (gCons (gName 2) gNil))) (tt := tYes) rfl nd (DT2.pi_frzT (DT2.pe_orD (pv 0) (pe_one pe_dnewT))) (blkOk_by (N := N_poked_beats) (sc := defScope s_poked_beats) (by decide +kernel))
        (fun _ _ _ _ _ => pg_tup (by rfl) (pgs_cons (pg_name (i := 1) nd rfl (Or.inl rfl)) (pgs_cons (pg_name (i := 2) nd rfl (Or.inl rfl)) pgs_nil))) (fun _ _ _ _ _ => pts_nil) (fun _ _ _ _ _ => pv 2))), ?_⟩
      have fin : ∀ (d D : Addr) (o : Obj) (H2 : Hp), H d = none → upd (upd H d (.dT [])) d (.frz o (.dT [])) D = none → Same (upd (upd H d (.dT [])) d (.frz o (.dT []))) H2 → H2 D = some (.lst []) → Q (.ref D) H2 := fun d D o H2 hd hD s2 h2 =>
        k H2 D (fun b o' e => s2 _ _ (by rw [upd_ne (ne_of_none e hd), upd_ne (ne_of_none e hd)]; exact e)) (none_upd (none_upd hD)) h2
      rcases hp with ⟨rfl, _⟩ | ⟨pk, rfl, hp⟩
      · refine ⟨_, rfl, .inl ⟨rfl, fun d hd => ⟨d, [], rfl, upd_same, fun o D hD => ?_⟩⟩⟩
        exact lc_map walk_keysT (fun _ => V.non) (Nat.zero_le _) hD (fun H' s' => s' _ _ upd_same) (fun i x H1 H2 acc Nx hi _ _ _ _ _ => absurd hi (Nat.not_lt_zero _)) (fun H2 s2 h2 => fin d D o H2 hd hD s2 h2)
      · refine ⟨_, rfl, .inr ⟨pk, [], rfl, .inl hp, fun z => absurd rfl z, fun _ d hd => ⟨d, [], rfl, upd_same, fun o D hD => ?_⟩⟩⟩
        exact lc_map walk_keysT (fun _ => V.non) (Nat.zero_le _) hD (fun H' s' => s' _ _ upd_same) (fun i x H1 H2 acc Nx hi _ _ _ _ _ => absurd hi (Nat.not_lt_zero _)) (fun H2 s2 h2 => fin d D o H2 hd hD s2 h2)
    · have hq : ∃ pk, v = .ref pk ∧ H pk = some (.dT (es.map entI)) := hp.elim (fun z => absurd z.2 hes) id
      clear hp
      obtain ⟨pk, rfl, hp⟩ := hq
      refine ⟨_, pss_one (ps_ret (pe_lock (pe_lc (own := [("room", 1), ("beat", 2)]) (g := gTup K 2 (gCons (gName 1) (gCons (gName 2) gNil))) (tt := tYes) rfl nd (pi_keys (DT2.pe_orD (pv 0) (pe_one pe_dnewT))) (blkOk_by (N := N_poked_beats) (sc := defScope s_poked_beats) (by decide +kernel))
        (fun _ _ _ _ _ => pg_tup (by rfl) (pgs_cons (pg_name (i := 1) nd rfl (Or.inl rfl)) (pgs_cons (pg_name (i := 2) nd rfl (Or.inl rfl)) pgs_nil))) (fun _ _ _ _ _ => pts_nil) (fun _ _ _ _ _ => pv 2)))), ?_⟩
      refine ⟨pk, _, hp, trivial, fun od => ?_⟩
      refine ⟨_, rfl, .inr ⟨pk, _, rfl, .inr ⟨od, upd_same⟩, fun _ => ?_, fun z => absurd (List.map_eq_nil_iff.mp z) hes⟩⟩
      refine ⟨pk, od, rfl, .inr ⟨_, upd_same, fun D hD => ?_⟩⟩
      refine lc_map walk_keysT (fun i => V.int ((es.map fun e => e.1.2).getD i 0)) (by rw [List.length_map]; omega) hD (fun H' s' => s' _ _ upd_same) (fun i x H1 H2 acc Nx hi s1 hacc hlen y kk => ?_) (fun H2 s2 h2 => ?_)
      · obtain ⟨rfl, ky, vv, q, hq, rfl, hqt⟩ := y
        rw [List.getElem?_map] at hq
        obtain ⟨e, he, ee⟩ := Option.map_eq_some_iff.mp hq
        cases ee
        refine ⟨_, _, rfl, SqT.of hqt, rfl, _, _, rfl, _, _, rfl, rfl, rfl, yes_ (iteT ⟨_, rfl, acc, hacc, hlen, ?_⟩)⟩
        have := kk _ s1 hacc
        rw [List.getD_eq_getElem?_getD, List.getElem?_map, he] at this
        exact this
      · have hDp : D ≠ pk := fun z => by rw [z, upd_same] at hD; cases hD
        refine ⟨s2 _ _ upd_same, k _ D (fun b o' e => ?_) (none_upd hD) ?_⟩
        · by_cases hb : b = pk
          · subst hb
            rw [upd_same]
            rw [hp] at e
            exact e
          · rw [upd_ne hb]
            exact s2 _ _ (by rw [upd_ne hb]; exact e)
        · rw [upd_ne hDp, h2, range_map_getD es (fun e => e.1.2) _ (List.length_map ..)]
end
end S
set_option Elab.async false
set_option linter.all false
set_option maxRecDepth 100000
set_option maxHeartbeats 4000000
/-! # comprehensions that choose; heard_cells, rooms_heard -/
namespace S
open PySem PySem.Spec PyProof.Rows L2 G
section
variable {J : It} {n : Nat} {Gd : Hp → Prop} {Y : Nat → Hp → V → Hp → Prop}
/-- values, some turns left out -/
theorem lc_filt (w : Walk J n Gd Y) {g : TG} {tt : TT} {te : TE} {vs : List Nat} {σ : L2.St} {H1 : Hp} {D : Addr} {Qd : Hp → Prop} (f : Nat → Option V) (hn : n ≤ 1000000) (hD : H1 D = none) (hG : ∀ H, Same H1 H → Gd H)
    (hs : ∀ i x H H' acc (Nx : Hp → Prop), i < n → Same H1 H → H D = some (.lst acc) → acc.length < sizeLine → Y i H x H' → (∀ v H4, f i = some v → Same H H4 → Nx (upd H4 D (.lst (acc ++ [v])))) → (∀ H4, f i = none → Same H H4 → Nx H4) → g x (wipe σ vs) H' fun σ2 H2 => wipe σ2 vs = wipe σ vs ∧ tt σ2 H2 fun b H3 =>
      if b = true then te σ2 H3 fun y H4 => ∃ acc, H4 D = some (.lst acc) ∧ acc.length < sizeLine ∧ Nx (upd H4 D (.lst (acc ++ [y]))) else Nx H3)
    (hd : ∀ H, Same H1 H → H D = some (.lst ((List.range n).filterMap f)) → Qd H) :
    ∃ W : Nat → Nat → Hp → Prop, (∃ m, W 0 m (upd H1 D (.lst []))) ∧ ∀ i m H, W i m H →
      (J.stop i H ∧ Qd H) ∨ (J.go i H ∧ ∃ Nx : Hp → Prop, (∀ H', Nx H' → ∃ m', m' < m ∧ W (i + 1) m' H') ∧ ∀ x H', J.yld i H x H' → g x (wipe σ vs) H' fun σ2 H2 => wipe σ2 vs = wipe σ vs ∧ tt σ2 H2 fun b H3 =>
        if b = true then te σ2 H3 fun y H4 => ∃ acc, H4 D = some (.lst acc) ∧ acc.length < sizeLine ∧ Nx (upd H4 D (.lst (acc ++ [y]))) else Nx H3) := by
  refine lc_it w (fun i H => Same H1 H ∧ H D = some (.lst ((List.range i).filterMap f))) ⟨same_new (Same.refl _) hD, upd_same⟩ (fun i H _ h => hG H h.1) (fun i x H H' hi h y => ?_) (fun H h => hd H h.1 h.2)
  refine hs i x H H' _ _ hi h.1 h.2 ?_ y (fun v H4 e s4 => ⟨same_new (h.1.trans s4) hD, ?_⟩) (fun H4 e s4 => ⟨h.1.trans s4, ?_⟩)
  · refine Nat.lt_of_le_of_lt (List.length_filterMap_le _ _) ?_
    rw [List.length_range]
    exact Nat.lt_of_lt_of_le hi (Nat.le_trans hn (by decide))
  · rw [upd_same, List.range_succ, List.filterMap_append]
    simp [e]
  · rw [List.range_succ, List.filterMap_append]
    simp [e]
    exact s4 _ _ h.2
/-- tuples at addresses -/
abbrev TupsAt (H : Hp) (ts : List (List V)) (bs : List Addr) : Prop := Paired (fun t b => H b = some (.tup t)) ts bs
theorem TupsAt.same {H H' : Hp} {ts : List (List V)} {bs : List Addr} (h : TupsAt H ts bs) (s : ∀ b t, H b = some (.tup t) → H' b = some (.tup t)) : TupsAt H' ts bs := Paired.mapP h fun _ _ e => s _ _ e
theorem lc_tups (w : Walk J n Gd Y) {g : TG} {tt : TT} {te : TE} {vs : List Nat} {σ : L2.St} {H1 : Hp} {D : Addr} {Qd : Hp → Prop} (f : Nat → Option (List V)) (hn : n ≤ 1000000) (hD : H1 D = none) (hG : ∀ H, Same H1 H → Gd H)
    (hs : ∀ i x H H' acc (Nx : Hp → Prop), i < n → Same H1 H → H D = some (.lst acc) → acc.length < sizeLine → Y i H x H' → (∀ b t H4, f i = some t → H4 b = some (.tup t) → Same H H4 → Nx (upd H4 D (.lst (acc ++ [.ref b])))) → (∀ H4, f i = none → Same H H4 → Nx H4) → g x (wipe σ vs) H' fun σ2 H2 => wipe σ2 vs = wipe σ vs ∧ tt σ2 H2 fun b H3 =>
      if b = true then te σ2 H3 fun y H4 => ∃ acc, H4 D = some (.lst acc) ∧ acc.length < sizeLine ∧ Nx (upd H4 D (.lst (acc ++ [y]))) else Nx H3)
    (hd : ∀ H bs, Same H1 H → H D = some (.lst (bs.map V.ref)) → TupsAt H ((List.range n).filterMap f) bs → Qd H) :
    ∃ W : Nat → Nat → Hp → Prop, (∃ m, W 0 m (upd H1 D (.lst []))) ∧ ∀ i m H, W i m H →
      (J.stop i H ∧ Qd H) ∨ (J.go i H ∧ ∃ Nx : Hp → Prop, (∀ H', Nx H' → ∃ m', m' < m ∧ W (i + 1) m' H') ∧ ∀ x H', J.yld i H x H' → g x (wipe σ vs) H' fun σ2 H2 => wipe σ2 vs = wipe σ vs ∧ tt σ2 H2 fun b H3 =>
        if b = true then te σ2 H3 fun y H4 => ∃ acc, H4 D = some (.lst acc) ∧ acc.length < sizeLine ∧ Nx (upd H4 D (.lst (acc ++ [y]))) else Nx H3) := by
  refine lc_it w (fun i H => Same H1 H ∧ ∃ bs : List Addr, H D = some (.lst (bs.map V.ref)) ∧ TupsAt H ((List.range i).filterMap f) bs) ⟨same_new (Same.refl _) hD, [], upd_same, .nil⟩ (fun i H _ h => hG H h.1) (fun i x H H' hi h y => ?_) (fun H h => ?_)
  · obtain ⟨s1, bs, hb, ht⟩ := h
    refine hs i x H H' _ _ hi s1 hb ?_ y (fun b t H4 e hb4 s4 => ⟨same_new (s1.trans s4) hD, bs ++ [b], ?_, ?_⟩) (fun H4 e s4 => ⟨s1.trans s4, bs, s4 _ _ hb, ?_⟩)
    · rw [List.length_map, ← Paired.length ht]
      refine Nat.lt_of_le_of_lt (List.length_filterMap_le _ _) ?_
      rw [List.length_range]
      exact Nat.lt_of_lt_of_le hi (Nat.le_trans hn (by decide))
    · rw [upd_same, List.map_append]
      rfl
    · have hD4 := s4 _ _ hb
      have h4 : TupsAt (upd H4 D (.lst (bs.map V.ref ++ [.ref b]))) ((List.range i).filterMap f) bs := ht.same fun c t e => by
        have e4 := s4 _ _ e
        rw [upd_ne (ne_of e4 hD4 (fun z => nomatch z))]
        exact e4
      rw [List.range_succ, List.filterMap_append]
      have e2 : List.filterMap f [i] = [t] := by simp [e]
      rw [e2]
      exact Paired.snoc h4 (by rw [upd_ne (ne_of hb4 hD4 (fun z => nomatch z))]; exact hb4)
    · rw [List.range_succ, List.filterMap_append]
      have e2 : List.filterMap f [i] = [] := by simp [e]
      rw [e2, List.append_nil]
      exact ht.same fun c t e => s4 _ _ e
  · obtain ⟨s1, bs, hb, ht⟩ := h
    exact hd H bs s1 hb ht
end
theorem range_get {α : Type} (l : List α) : (List.range l.length).map (fun i => l[i]?) = l.map some := by
  apply List.ext_getElem?
  intro i
  rw [List.getElem?_map, List.getElem?_map]
  by_cases h : i < l.length
  · rw [List.getElem?_range h, List.getElem?_eq_getElem h]
    show some (l[i]?) = _
    rw [List.getElem?_eq_getElem h]
    rfl
  · rw [List.getElem?_eq_none (by rw [List.length_range]; omega), List.getElem?_eq_none (by omega)]
    rfl
theorem filterMap_range {α β : Type} (l : List α) (g : α → Option β) : (List.range l.length).filterMap (fun i => (l[i]?).bind g) = l.filterMap g := by
  have h1 : (List.range l.length).filterMap (fun i => (l[i]?).bind g) = ((List.range l.length).map fun i => l[i]?).filterMap (fun o => o.bind g) := by
    rw [List.filterMap_map]
    rfl
  rw [h1, range_get, List.filterMap_map]
  rfl
theorem filterMap_if {α β : Type} (p : α → Bool) (g : α → β) (l : List α) : l.filterMap (fun a => if p a = true then some (g a) else none) = (l.filter p).map g := by
  induction l with
  | nil => rfl
  | cons a r ih =>
    rw [List.filterMap_cons, List.filter_cons]
    cases h : p a with
    | true => simp [ih]
    | false => simp [ih]
theorem filterMap_some {α β : Type} (g : α → β) (l : List α) : l.filterMap (fun a => some (g a)) = l.map g := by
  induction l with
  | nil => rfl
  | cons a r ih => rw [List.filterMap_cons, ih]; rfl
theorem sorted_uniqI : ∀ {a b : List Int}, a.Perm b → a.Pairwise (· ≤ ·) → b.Pairwise (· ≤ ·) → a = b
  | [], _, p, _, _ => p.nil_eq
  | x :: r, b, p, ha, hb => by
    cases b with
    | nil => exact absurd p.length_eq (by simp)
    | cons y m =>
      have h1 : x ≤ y := by
        rcases List.mem_cons.mp (p.mem_iff.mpr (List.mem_cons_self (a := y) (l := m))) with e | h
        · omega
        · exact (List.pairwise_cons.mp ha).1 y h
      have h2 : y ≤ x := by
        rcases List.mem_cons.mp (p.mem_iff.mp (List.mem_cons_self (a := x) (l := r))) with e | h
        · omega
        · exact (List.pairwise_cons.mp hb).1 x h
      have e : x = y := by omega
      subst e
      rw [sorted_uniqI p.cons_inv (List.pairwise_cons.mp ha).2 (List.pairwise_cons.mp hb).2]
/-! ### the rooms that some hear -/
def rhStep (rs : List RoomD) (found : List Int) (r : Int) : List Int := found ++ ((rAt rs r).hears.filter fun h => decide (h ∉ found))
def rhF (rs : List RoomD) (rooms : List Int) : List Int := rooms.foldl (rhStep rs) []
def rh (rs : List RoomD) (rooms : List Int) : List Int := ((List.range rs.length).map fun i : Nat => (i : Int)).filter fun h => rooms.any fun r => decide (h ∈ (rAt rs r).hears)
/-- rising, rooms -/
def SI (rs : List RoomD) (l : List Int) : Prop := l.Pairwise (· < ·) ∧ ∀ x ∈ l, InR rs x
theorem rh_si (rs : List RoomD) (rooms : List Int) : SI rs (rh rs rooms) := by
  refine ⟨?_, fun x hx => ?_⟩
  · refine List.Pairwise.filter _ ?_
    rw [List.pairwise_map]
    exact List.pairwise_lt_range.imp fun h => by omega
  · obtain ⟨h1, _⟩ := List.mem_filter.mp hx
    obtain ⟨i, hi, rfl⟩ := List.mem_map.mp h1
    have := List.mem_range.mp hi
    exact ⟨by omega, by omega⟩
theorem rhF_nodup {rs : List RoomD} (hw : OkWeb rs) : ∀ (rooms found : List Int), (∀ x ∈ rooms, InR rs x) → found.Nodup → (rooms.foldl (rhStep rs) found).Nodup
  | [], found, _, h => h
  | r :: rooms, found, hr, h => by
    rw [List.foldl_cons]
    refine rhF_nodup hw rooms _ (fun x hx => hr x (List.mem_cons_of_mem _ hx)) ?_
    obtain ⟨h0, h1⟩ := hr r (List.mem_cons_self ..)
    have nd := (hw.2.2 _ (rAt_mem h0 h1)).2.2.1
    refine List.nodup_append.mpr ⟨h, nd.filter _, fun a ha b hb e => ?_⟩
    subst e
    have := (List.mem_filter.mp hb).2
    simp [ha] at this
theorem rhF_mem {rs : List RoomD} : ∀ (rooms found : List Int) (h : Int), h ∈ rooms.foldl (rhStep rs) found ↔ h ∈ found ∨ ∃ r ∈ rooms, h ∈ (rAt rs r).hears
  | [], found, h => by simp
  | r :: rooms, found, h => by
    rw [List.foldl_cons, rhF_mem rooms]
    unfold rhStep
    rw [List.mem_append, List.mem_filter]
    constructor
    · rintro ((h1 | ⟨h1, _⟩) | ⟨r', h1, h2⟩)
      · exact .inl h1
      · exact .inr ⟨r, List.mem_cons_self .., h1⟩
      · exact .inr ⟨r', List.mem_cons_of_mem _ h1, h2⟩
    · rintro (h1 | ⟨r', h1, h2⟩)
      · exact .inl (.inl h1)
      · rcases List.mem_cons.mp h1 with rfl | h1
        · by_cases q : h ∈ found
          · exact .inl (.inl q)
          · exact .inl (.inr ⟨h2, by simpa using q⟩)
        · exact .inr ⟨r', h1, h2⟩
theorem rh_mem {rs : List RoomD} (hw : OkWeb rs) {rooms : List Int} (hr : ∀ x ∈ rooms, InR rs x) (h : Int) : h ∈ rh rs rooms ↔ ∃ r ∈ rooms, h ∈ (rAt rs r).hears := by
  unfold rh
  rw [List.mem_filter, List.any_eq_true]
  constructor
  · rintro ⟨_, r, h1, h2⟩
    exact ⟨r, h1, of_decide_eq_true h2⟩
  · rintro ⟨r, h1, h2⟩
    obtain ⟨i0, i1⟩ := hr r h1
    obtain ⟨j0, j1⟩ := (hw.2.2 _ (rAt_mem i0 i1)).2.1 h h2
    refine ⟨List.mem_map.mpr ⟨h.toNat, List.mem_range.mpr (by omega), by omega⟩, r, h1, decide_eq_true h2⟩
theorem nodup_ints {l : List Int} (h : l.Pairwise (· < ·)) : l.Nodup := h.imp fun z e => by omega
/-- rooms, each once, are no more than there are -/
theorem room_len {rs : List RoomD} {l : List Int} (hn : l.Nodup) (hr : ∀ x ∈ l, InR rs x) : l.length ≤ rs.length := by
  have h := nat_nodup_len (l.map Int.toNat) (List.range rs.length) ?_ fun x hx => ?_
  · rwa [List.length_map, List.length_range] at h
  · refine List.pairwise_map.mpr (List.Pairwise.imp_of_mem (fun {a b} ha hb z => ?_) hn)
    have h1 := hr a ha
    have h2 := hr b hb
    unfold InR at h1 h2
    omega
  · obtain ⟨a, ha, rfl⟩ := List.mem_map.mp hx
    have h1 := hr a ha
    unfold InR at h1
    exact List.mem_range.mpr (by omega)
theorem rh_eq {rs : List RoomD} (hw : OkWeb rs) {rooms ns : List Int} (hr : ∀ x ∈ rooms, InR rs x) (hp : ns.Perm (rhF rs rooms)) (hs : ns.Pairwise (· ≤ ·)) : ns = rh rs rooms := by
  refine sorted_uniqI ?_ hs ((rh_si rs rooms).1.imp fun h => Int.le_of_lt h)
  refine (List.perm_ext_iff_of_nodup (hp.nodup_iff.mpr (rhF_nodup hw rooms [] hr List.nodup_nil)) (nodup_ints (rh_si rs rooms).1)).mpr fun a => ?_
  rw [hp.mem_iff, rh_mem hw hr]
  unfold rhF
  rw [rhF_mem]
  simp
section
variable {X : Cx}
theorem op_notInK (K : PySem.W.Frag) (hK : X.K = K := by rfl) : OpR X (compareOp .NotIn) (rIn K true) := by
  subst hK
  exact op_notIn_seq
theorem op_inK (K : PySem.W.Frag) (hK : X.K = K := by rfl) : OpR X (compareOp .In) (rIn K false) := by
  subst hK
  exact op_in_seq
end
section
variable {P : Program} {w : World} {K : PySem.W.Frag} {mg : Str → Option Value} {base : Heap}
def spRH (K : PySem.W.Frag) : Sp := fun vs H Q _ => ∃ (x l : Addr) (rs : List RoomD) (rooms : List Int), vs = [.ref x, .ref l] ∧ WebAt K H x rs ∧ OkWeb rs ∧ H l = some (.lst (nsv rooms)) ∧ (∀ r ∈ rooms, InR rs r) ∧ rooms.length ≤ 1000 ∧ ∀ H' p, Same H H' → H p = none → H' p = some (.lst (nsv (rh rs rooms))) → Q (.ref p) H'
theorem ok_rooms_heard (T : Tx K mg) : CL P w K mg base CX0 2 "rooms_heard" ["web", "rooms"] (spRH K) := by
  have GR := ok_Web_rooms (P := P) (w := w) (base := base) T
  have nd := sc_rooms_heard.nd
  refine CL.of0 T.d_rooms_heard T.g_rooms_heard sc_rooms_heard b_rooms_heard (fun vs H Q E h => ?_) (fun f cdv A outer s H vs Q E hr h => ?_)
  · obtain ⟨x, l, rs, rooms, rfl, _⟩ := h; rfl
  · obtain ⟨x, l, rs, rooms, rfl, ⟨dx, t, hx, hR⟩, hok, hl, hin, hlen, k⟩ := h
    refine ⟨_, pss_cons (ps_set (i := 2) nd rfl (Or.inr rfl) (pe_lst pa_nil))
      (pss_cons (ps_for PassesOwn.never rfl (pi_list (pv 1)) (pg_name (i := 3) nd rfl (Or.inl rfl))
        (pss_one (ps_expr (pe_bm PySem.F.plainAttrs_list PySem.F.slot_list_extend PySem.F.type_list_extend mt_extend (pv 2) (pa_cons
          (pe_lc (own := [("heard", 4)]) (g := gName 4) rfl nd (pi_tup (pe_fldK K (pe_ix (ix_tupK K) (pe_ml0 GR hr (by decide) pass0 (pv 0)) (pv 3) (fun _ _ => rfl)))) (blkOk_by (N := N_rooms_heard) (sc := defScope s_rooms_heard) (by decide +kernel))
            (fun _ _ _ _ _ => pg_name (i := 4) nd rfl (Or.inl rfl)) (fun _ _ _ _ _ => pts_one (pt_cmpR (op_notInK K) (pv 4) (pv 2) (by rfl))) (fun _ _ _ _ _ => pv 4)) pa_nil)))))
      (pss_one (ps_ret (pe_callB cr_sortedI (by rfl) T.f_sorted (by decide +kernel) (pa_cons (pv 2) pa_nil))))), ?_⟩
    refine ⟨Nat.zero_le _, fun F hF => ?_⟩
    refine ⟨_, rfl, _, rfl, ⟨_, SqL.of (by rw [upd_ne (ne_of_none hl hF)]; exact hl)⟩, ?_⟩
    refine for_list (xs := nsv rooms) (fun i σ H' => Same H H' ∧ H' F = some (.lst (nsv ((rooms.take i).foldl (rhStep rs) []))) ∧ ∃ u v, σ = [some (.ref x), some (.ref l), some (.ref F), u, v])
      ⟨same_new (Same.refl _) hF, upd_same, _, _, rfl⟩ (fun i σ H' _ h => SqL.of (h.1 _ _ hl)) (fun i z σ H' hz h => ?_) (fun σ H' h => ?_)
    · obtain ⟨s1, hF1, u, v, rfl⟩ := h
      obtain ⟨a, ha, rfl⟩ := nsv_at hz
      have hia := hin a (List.mem_of_getElem? ha)
      obtain ⟨b0, b1⟩ := hia
      obtain ⟨xs', y', q1', q2', dy', th', tr', h3', h4', h5'⟩ := get2 hR b0 b1
      have hcard : ((rooms.take i).foldl (rhStep rs) []).length ≤ 1000 := by
        refine Nat.le_trans (room_len (rs := rs) (rhF_nodup hok _ _ (fun y hy => hin y (List.mem_of_mem_take hy)) List.nodup_nil) fun y hy => ?_) (Nat.le_trans hok.2.1 (by decide))
        rcases (rhF_mem _ _ _).mp hy with z | ⟨r, hr1, hr2⟩
        · cases z
        · obtain ⟨c0, c1⟩ := hin r (List.mem_of_mem_take hr1)
          exact (hok.2.2 _ (rAt_mem c0 c1)).2.1 y hr2
      refine ⟨_, rfl, .inl ⟨rfl, _, SqL.of hF1⟩, ?_⟩
      refine ⟨_, rfl, _, _, _, rfl, s1 _ _ hx, wf_none, _, _, _, rfl, s1 _ _ hx, _, rfl, _, _, _, _, rfl, rfl, SqT.of (s1 _ _ q1'), q2', _, _, _, _, _, rfl, s1 _ _ h3', T.c_Room, T.n_Room_hears, rf_hears, _, rfl, ⟨_, SqT.of (s1 _ _ h4')⟩, fun D hD => ?_⟩
      refine lc_filt (walk_tup (xs := nsv (rAt rs a).hears)) (fun j => ((rAt rs a).hears[j]?).bind fun h => if decide (h ∉ (rooms.take i).foldl (rhStep rs) []) = true then some (V.int h) else none) (by rw [List.length_map]; have := (hok.2.2 _ (rAt_mem b0 b1)).1; omega) hD (fun H2 s2 => SqT.of (s2 _ _ (s1 _ _ h4'))) (fun j y H2 H3 acc Nx hj s2 hacc hlen2 hy k1 k0 => ?_) (fun H2 s2 h2 => ?_)
      · obtain ⟨rfl, hyx⟩ := hy
        obtain ⟨c, hc, rfl⟩ := nsv_at hyx
        rw [hc] at k1 k0
        refine ⟨rfl, _, rfl, _, rfl, F, _, rfl, .inl (SqL.of (s2 _ _ hF1)), rfl, flat_ints _, _, rfl, ?_⟩
        rw [inV_int]
        by_cases q : c ∈ (rooms.take i).foldl (rhStep rs) []
        · simp only [q]
          simp
          exact k0 _ (by simp [q]) (Same.refl _)
        · simp only [q]
          simp
          exact ⟨_, rfl, acc, hacc, hlen2, k1 _ _ (by simp [q]) (Same.refl _)⟩
      · have eH : List.filterMap (fun j => ((rAt rs a).hears[j]?).bind fun h => if decide (h ∉ (rooms.take i).foldl (rhStep rs) []) = true then some (V.int h) else none) (List.range (nsv (rAt rs a).hears).length) = nsv ((rAt rs a).hears.filter fun h => decide (h ∉ (rooms.take i).foldl (rhStep rs) [])) := by
          rw [List.length_map, filterMap_range, filterMap_if]
        rw [eH] at h2
        have hF2 := s2 _ _ hF1
        refine ⟨F, D, _, _, rfl, rfl, hF2, h2, ?_, ?_⟩
        · have e3 := List.length_filter_le (fun h => decide (h ∉ (rooms.take i).foldl (rhStep rs) [])) (rAt rs a).hears
          have e4 := (hok.2.2 _ (rAt_mem b0 b1)).1
          rw [List.length_map, List.length_map]
          have : sizeLine = 16777216 := sizeLine_eq
          omega
        · refine ⟨fun b o e => ?_, ?_, _, _, rfl⟩
          · rw [upd_ne (ne_of_none e hF)]
            exact s2 _ _ (s1 _ _ e)
          · rw [upd_same, List.take_add_one, ha, List.foldl_append]
            show some (HO.lst (nsv _ ++ nsv _)) = some (.lst (nsv (rhStep rs _ a)))
            rw [← nsv_app]
            rfl
    · obtain ⟨s1, hF1, u, v, rfl⟩ := h
      rw [List.length_map, List.take_length] at hF1
      refine ⟨_, rfl, _, _, rfl, SqL.of hF1, fun ns p hp hs hpn => ?_⟩
      rw [rh_eq hok hin hp hs]
      exact k _ p (same_new s1 (none_same s1 hpn)) (none_same s1 hpn) upd_same
def spHC (K : PySem.W.Frag) : Sp := fun vs H Q _ => ∃ (x t : Addr) (rs : List RoomD) (c : Cell), vs = [.ref x, .ref t] ∧ WebAt K H x rs ∧ OkWeb rs ∧ H t = some (.tup (cV c)) ∧ InR rs c.1 ∧ ∀ H' p bs, Same H H' → H p = none → H' p = some (.lst (bs.map V.ref)) → TupsAt H' ((rAt rs c.1).hears.map fun h => cV (h, c.2 - 1)) bs → Q (.ref p) H'
theorem ok_heard_cells (T : Tx K mg) : CL P w K mg base CX0 2 "heard_cells" ["web", "cell"] (spHC K) := by
  have GR := ok_Web_rooms (P := P) (w := w) (base := base) T
  have nd := sc_heard_cells.nd
  refine CL.of0 T.d_heard_cells T.g_heard_cells sc_heard_cells b_heard_cells (fun vs H Q E h => ?_) (fun f cdv A outer s H vs Q E hr h => ?_)
  · obtain ⟨x, l, rs, c, rfl, _⟩ := h; rfl
  · obtain ⟨x, t, rs, c, rfl, ⟨dx, tw, hx, hR⟩, hok, ht, ⟨b0, b1⟩, k⟩ := h
    refine ⟨_, pss_cons (ps_asg (pv 1) (pg_tup (by rfl) (pgs_cons (pg_name (i := 2) nd rfl (Or.inl rfl)) (pgs_cons (pg_name (i := 3) nd rfl (Or.inr rfl)) pgs_nil))))
      (pss_one (ps_ret (pe_lc (own := [("heard", 4)]) (g := gName 4) (tt := tYes) rfl nd (pi_tup (pe_fldK K (pe_ix (ix_tupK K) (pe_ml0 GR hr (by decide) pass0 (pv 0)) (pv 2) (fun _ _ => rfl)))) (blkOk_by (N := N_heard_cells) (sc := defScope s_heard_cells) (by decide +kernel))
            (fun _ _ _ _ _ => pg_name (i := 4) nd rfl (Or.inl rfl)) (fun _ _ _ _ _ => pts_nil) (fun _ _ _ _ _ => pe_tup (pa_cons (pv 4) (pa_cons (pe_op op_sub (pv 3) pe_int) pa_nil)))))), ?_⟩
    obtain ⟨xs', y', q1', q2', dy', th', tr', h3', h4', h5'⟩ := get2 hR b0 b1
    refine ⟨_, rfl, _, _, rfl, SqT.of ht, rfl, _, _, rfl, _, _, rfl, rfl, ?_⟩
    refine ⟨_, rfl, _, _, _, rfl, hx, wf_none, _, _, _, rfl, hx, _, rfl, _, _, _, _, rfl, rfl, SqT.of q1', q2', _, _, _, _, _, rfl, h3', T.c_Room, T.n_Room_hears, rf_hears, _, rfl, ⟨_, SqT.of h4'⟩, fun D hD => ?_⟩
    refine lc_tups (walk_tup (xs := nsv (rAt rs c.1).hears)) (fun j => ((rAt rs c.1).hears[j]?).bind fun h => some (cV (h, c.2 - 1))) (by rw [List.length_map]; have := (hok.2.2 _ (rAt_mem b0 b1)).1; omega) hD (fun H2 s2 => SqT.of (s2 _ _ h4')) (fun j y H2 H3 acc Nx hj s2 hacc hlen2 hy k1 k0 => ?_) (fun H2 bs s2 h2 ht2 => ?_)
    · obtain ⟨rfl, hyx⟩ := hy
      obtain ⟨a, ha, rfl⟩ := nsv_at hyx
      rw [ha] at k1 k0
      refine ⟨rfl, yes_ (iteT ⟨_, rfl, _, rfl, _, _, rfl, rfl, (by show 2 ≤ sizeLine; decide), fun b hb => ?_⟩)⟩
      have s3 := same_new (Same.refl H3) (o := .tup [.int a, .int (c.2 - 1)]) hb
      exact ⟨acc, s3 _ _ hacc, hlen2, k1 b _ _ rfl upd_same s3⟩
    · rw [List.length_map, filterMap_range] at ht2
      rw [filterMap_some] at ht2
      exact k H2 D bs s2 hD h2 ht2
end
end S
set_option Elab.async false
set_option linter.all false
set_option maxRecDepth 100000
set_option maxHeartbeats 4000000
/-! # gone_down: the layers, plainly -/
namespace S
open PySem PySem.Spec PyProof.Rows L2 G
def lay (rs : List RoomD) (kr : Int → Bool) (l0 : List Int) : Nat → List Int
  | 0 => l0
  | n + 1 => rh rs ((lay rs kr l0 n).filter fun r => !kr r)
def cnt (rs : List RoomD) (kr : Int → Bool) (l0 : List Int) : Nat → Int
  | 0 => 0
  | n + 1 => cnt rs kr l0 n + (((lay rs kr l0 n).filter fun r => !kr r).length : Int)
section
variable {rs : List RoomD} {kr : Int → Bool} {l0 : List Int}
theorem lay_si (h : SI rs l0) : ∀ n, SI rs (lay rs kr l0 n)
  | 0 => h
  | n + 1 => rh_si rs _
theorem lay_per {b m : Nat} (hb : b ≤ m) (h : lay rs kr l0 m = lay rs kr l0 b) : ∀ k, lay rs kr l0 (m + k) = lay rs kr l0 (b + k) ∧ cnt rs kr l0 (m + k) = cnt rs kr l0 (b + k) + (cnt rs kr l0 m - cnt rs kr l0 b)
  | 0 => ⟨h, by rw [Nat.add_zero, Nat.add_zero]; omega⟩
  | k + 1 => by
    obtain ⟨h1, h2⟩ := lay_per hb h k
    constructor
    · show rh rs ((lay rs kr l0 (m + k)).filter fun r => !kr r) = rh rs ((lay rs kr l0 (b + k)).filter fun r => !kr r)
      rw [h1]
    · show cnt rs kr l0 (m + k) + (((lay rs kr l0 (m + k)).filter fun r => !kr r).length : Int) = cnt rs kr l0 (b + k) + (((lay rs kr l0 (b + k)).filter fun r => !kr r).length : Int) + _
      rw [h1, h2]
      omega
theorem lay_ring {b m : Nat} (hb : b < m) (h : lay rs kr l0 m = lay rs kr l0 b) (r : Nat) : ∀ q, lay rs kr l0 (b + (r + q * (m - b))) = lay rs kr l0 (b + r) ∧ cnt rs kr l0 (b + (r + q * (m - b))) = cnt rs kr l0 (b + r) + q * (cnt rs kr l0 m - cnt rs kr l0 b)
  | 0 => by simp
  | q + 1 => by
    obtain ⟨h1, h2⟩ := lay_ring hb h r q
    obtain ⟨h3, h4⟩ := lay_per (Nat.le_of_lt hb) h (r + q * (m - b))
    have e : b + (r + (q + 1) * (m - b)) = m + (r + q * (m - b)) := by
      rw [Nat.succ_mul]
      omega
    rw [e]
    refine ⟨h3.trans h1, h4.trans ?_⟩
    rw [h2]
    have e2 : (((q + 1 : Nat) : Int)) * (cnt rs kr l0 m - cnt rs kr l0 b) = (q : Int) * (cnt rs kr l0 m - cnt rs kr l0 b) + (cnt rs kr l0 m - cnt rs kr l0 b) := by
      rw [Int.natCast_succ, Int.add_mul, Int.one_mul]
    omega
theorem lay_at {b m n : Nat} (hb : b < m) (h : lay rs kr l0 m = lay rs kr l0 b) (hn : b ≤ n) : lay rs kr l0 n = lay rs kr l0 (b + (n - b) % (m - b)) ∧ cnt rs kr l0 n = cnt rs kr l0 (b + (n - b) % (m - b)) + ((n - b) / (m - b) : Nat) * (cnt rs kr l0 m - cnt rs kr l0 b) := by
  have e : n = b + ((n - b) % (m - b) + (n - b) / (m - b) * (m - b)) := by
    have := Nat.mod_add_div (n - b) (m - b)
    rw [Nat.mul_comm] at this
    omega
  have h1 := lay_ring hb h ((n - b) % (m - b)) ((n - b) / (m - b))
  rw [← e] at h1
  exact h1
theorem cnt_nonneg : ∀ n, 0 ≤ cnt rs kr l0 n
  | 0 => Int.le_refl _
  | n + 1 => by
    have := cnt_nonneg n
    show 0 ≤ cnt rs kr l0 n + _
    omega
theorem cnt_le (hw : OkWeb rs) (h : SI rs l0) : ∀ n, cnt rs kr l0 n ≤ 12 * n
  | 0 => by simp [cnt]
  | n + 1 => by
    have h1 := cnt_le hw h n
    have h2 : ((lay rs kr l0 n).filter fun r => !kr r).length ≤ 12 := Nat.le_trans (List.length_filter_le ..) (Nat.le_trans (room_len (nodup_ints (lay_si h n).1) (lay_si h n).2) hw.2.1)
    show cnt rs kr l0 n + _ ≤ _
    omega
theorem cnt_sub {b m : Nat} (hb : b ≤ m) (hw : OkWeb rs) (h : SI rs l0) : 0 ≤ cnt rs kr l0 m - cnt rs kr l0 b := by
  induction m with
  | zero => have : b = 0 := by omega
            subst this; omega
  | succ m ih =>
    by_cases e : b = m + 1
    · subst e; omega
    · have := ih (by omega)
      show 0 ≤ cnt rs kr l0 m + _ - _
      omega
/-- pigeons among lists of rooms: the code of a list -/
def codeN (l : List Int) : Nat → Nat
  | 0 => 0
  | n + 1 => codeN l n + (if (n : Int) ∈ l then 2 ^ n else 0)
theorem codeN_lt (l : List Int) : ∀ n, codeN l n < 2 ^ n
  | 0 => by simp [codeN]
  | n + 1 => by
    have := codeN_lt l n
    show codeN l n + _ < _
    rw [Nat.pow_succ]
    by_cases h : (n : Int) ∈ l
    · rw [if_pos h]; omega
    · rw [if_neg h]; omega
theorem codeN_inj (l m : List Int) : ∀ n, codeN l n = codeN m n → ∀ i, i < n → ((i : Int) ∈ l ↔ (i : Int) ∈ m)
  | 0, _, i, hi => by omega
  | n + 1, h, i, hi => by
    have h : codeN l n + (if (n : Int) ∈ l then 2 ^ n else 0) = codeN m n + (if (n : Int) ∈ m then 2 ^ n else 0) := h
    have l1 := codeN_lt l n
    have l2 := codeN_lt m n
    have hp : 0 < 2 ^ n := Nat.two_pow_pos n
    have key : ((n : Int) ∈ l ↔ (n : Int) ∈ m) ∧ codeN l n = codeN m n := by
      by_cases h1 : (n : Int) ∈ l <;> by_cases h2 : (n : Int) ∈ m <;> simp only [h1, h2, if_true, if_false] at h ⊢ <;> (constructor <;> first | trivial | omega)
    by_cases e : i = n
    · subst e; exact key.1
    · exact codeN_inj l m n key.2 i (by omega)
theorem si_code (h : SI rs l0) {l1 : List Int} (h1 : SI rs l1) (e : codeN l0 rs.length = codeN l1 rs.length) : l0 = l1 := by
  refine sorted_uniqI ((List.perm_ext_iff_of_nodup (nodup_ints h.1) (nodup_ints h1.1)).mpr fun a => ?_) (h.1.imp fun z => Int.le_of_lt z) (h1.1.imp fun z => Int.le_of_lt z)
  have key := codeN_inj l0 l1 _ e a.toNat
  constructor
  · intro ha
    obtain ⟨a0, a1⟩ := h.2 a ha
    have := (key (by omega)).mp (by rw [Int.toNat_of_nonneg a0]; exact ha)
    rwa [Int.toNat_of_nonneg a0] at this
  · intro ha
    obtain ⟨a0, a1⟩ := h1.2 a ha
    have := (key (by omega)).mpr (by rw [Int.toNat_of_nonneg a0]; exact ha)
    rwa [Int.toNat_of_nonneg a0] at this
theorem lay_small (hw : OkWeb rs) (h : SI rs l0) {m : Nat} (hd : ∀ i j, i < j → j ≤ m → lay rs kr l0 j ≠ lay rs kr l0 i) : m < 4096 := by
  have h1 := nat_nodup_len ((List.range (m + 1)).map fun i => codeN (lay rs kr l0 i) rs.length) (List.range (2 ^ rs.length)) ?_ fun x hx => ?_
  · rw [List.length_map, List.length_range, List.length_range] at h1
    have h2 : 2 ^ rs.length ≤ 2 ^ 12 := Nat.pow_le_pow_right (by decide) hw.2.1
    omega
  · rw [List.nodup_iff_pairwise_ne, List.pairwise_map]
    refine List.Pairwise.imp_of_mem (fun {a b} ha hb z => ?_) (List.pairwise_lt_range (n := m + 1))
    intro e
    exact hd a b z (by have := List.mem_range.mp hb; omega) (si_code (lay_si h a) (lay_si h b) e).symm
  · obtain ⟨i, hi, rfl⟩ := List.mem_map.mp hx
    exact List.mem_range.mpr (codeN_lt _ _)
end
end S
set_option Elab.async false
set_option linter.all false
set_option maxRecDepth 100000
set_option maxHeartbeats 4000000
/-! # gone_down walked -/
namespace S
open PySem PySem.Spec PyProof.Rows L2 G LamX
section
variable {X : Cx} {CX : CXT} {i j k : Nat} {x : Str} {E : XK} {t : TA} {e : Expr} {es : List Expr} {p pos : Pos}
theorem pe_callvK (P : Program) (w : World) (K : PySem.W.Frag) (mg : Str → Option Value) (base : Heap) (hr : Room j X.A) (hk : k ≤ j) (hx : Passes CX X E) (hN : X.N[i]? = some x) (hv : Vis X.env.scope x) (ha : PA X (e :: es) t)
    (hP : X.prog = P := by rfl) (hw : X.w = w := by rfl) (hK : X.K = K := by rfl) (hm : X.mg = mg := by rfl) (hb : X.base = base := by rfl)
    (hd : (x == ("__debug__" : Str)) = false := by decide) (hcd : (x == ("__classdict__" : Str)) = false := by decide)
    (he : starEach (e :: es) X.env = (false, eval e X.env) :: starEach es X.env := by rfl) (hpl : (backTo pos (starEach es X.env)).any (·.1) = false := by rfl) :
    PE X (.Call (.Name x p) (e :: es) [] pos) (LV.tCallV i (LV.FV P w K mg base CX k) E t) := by
  subst hP hw hK hm hb
  exact LV.pe_callv hr hk hx hN hv ha hd hcd he hpl
end
/-- known, told of a room alone -/
def spKr (rs : List RoomD) (kr : Int → Bool) : Sp := fun vs H Q _ => ∃ r, vs = [.int r] ∧ InR rs r ∧ ∀ H', Same H H' → Q (.bl (kr r)) H'
def spGone (P : Program) (w : World) (K : PySem.W.Frag) (mg : Str → Option Value) (base : Heap) (j : Nat) : Sp := fun vs H Q _ => ∃ (x l f : Addr) (rs : List RoomD) (l0 : List Int) (n : Nat) (kr : Int → Bool), vs = [.ref x, .ref l, .int n, .ref f] ∧ WebAt K H x rs ∧ OkWeb rs ∧ H l = some (.lst (nsv l0)) ∧ SI rs l0 ∧
  LV.FV P w K mg base C8.CX0 j H f (spKr rs kr) ∧ ∀ H' p q, Same H H' → H p = none → (q = l ∨ H q = none) → H' q = some (.lst (nsv (lay rs kr l0 n))) → H' p = some (.tup [.ref q, .int (cnt rs kr l0 n)]) → Q (.ref p) H'
theorem nsv_get {l : List Int} {i : Nat} {a : Int} (h : l[i]? = some a) : (nsv l)[i]? = some (.int a) := by rw [List.getElem?_map, h]; rfl
theorem sizeL : sizeLine = 16777216 := sizeLine_eq
/-- the loop's layers -/
structure GD (l : Addr) (H H' : Hp) (rs : List RoomD) (kr : Int → Bool) (l0 : List Int) (m : Nat) (Lr C Pl : Addr) : Prop where
  sm : Same H H'
  f1 : H Lr = none
  f2 : H C = none
  f3 : H Pl = none
  ne : Lr ≠ C
  as : ∃ as : List Addr, H' Lr = some (.lst (as.map V.ref)) ∧ as.length = m + 1 ∧ ∀ (i : Nat) (a : Addr), as[i]? = some a → (a = l ∨ H a = none) ∧ a ≠ Lr ∧ a ≠ C ∧ H' a = some (.lst (nsv (lay rs kr l0 i)))
  cs : H' C = some (.lst (nsv ((List.range (m + 1)).map (cnt rs kr l0))))
  ps : H' Pl = some (.dT ((List.range (m + 1)).map fun i => ((lay rs kr l0 i).map Sum.inl, V.int i)))
  di : ∀ i j, i < j → j ≤ m → lay rs kr l0 j ≠ lay rs kr l0 i
theorem GD.same {l : Addr} {H H1 H2 : Hp} {rs : List RoomD} {kr : Int → Bool} {l0 : List Int} {m : Nat} {Lr C Pl : Addr} (g : GD l H H1 rs kr l0 m Lr C Pl) (s : Same H1 H2) : GD l H H2 rs kr l0 m Lr C Pl := by
  obtain ⟨a1, a2, a3, a4, a5, ⟨as, b1, b2, b3⟩, a7, a8, a9⟩ := g
  exact ⟨a1.trans s, a2, a3, a4, a5, ⟨as, s _ _ b1, b2, fun i a h => ⟨(b3 i a h).1, (b3 i a h).2.1, (b3 i a h).2.2.1, s _ _ (b3 i a h).2.2.2⟩⟩, s _ _ a7, s _ _ a8, a9⟩
theorem inl_inj {l m : List Int} (h : l.map (Sum.inl : Int → L2.Key) = m.map Sum.inl) : l = m := by
  have h2 := congrArg (List.map fun k : L2.Key => match k with | .inl i => i | .inr _ => 0) h
  rw [List.map_map, List.map_map] at h2
  have e : ∀ l : List Int, l.map ((fun k : L2.Key => match k with | .inl i => i | .inr _ => 0) ∘ Sum.inl) = l := fun l => by
    induction l with
    | nil => rfl
    | cons a r ih => rw [List.map_cons, ih]; rfl
  rwa [e, e] at h2
/-- the dict of the layers, looked up -/
theorem valV_lay (rs : List RoomD) (kr : Int → Bool) (l0 : List Int) (l : List Int) : ∀ m, (∀ i j, i < j → j ≤ m → lay rs kr l0 j ≠ lay rs kr l0 i) →
    (∃ i, i ≤ m ∧ lay rs kr l0 i = l ∧ valV ((List.range (m + 1)).map fun i => ((lay rs kr l0 i).map (Sum.inl : Int → L2.Key), V.int i)) (l.map Sum.inl) = some (.int i)) ∨ ((∀ i, i ≤ m → lay rs kr l0 i ≠ l) ∧ valV ((List.range (m + 1)).map fun i => ((lay rs kr l0 i).map (Sum.inl : Int → L2.Key), V.int i)) (l.map Sum.inl) = none) := by
  intro m hd
  by_cases ex : ∃ i, i ≤ m ∧ lay rs kr l0 i = l
  · obtain ⟨i, hi, e⟩ := ex
    refine .inl ⟨i, hi, e, ?_⟩
    unfold valV
    rw [List.find?_map]
    have : (List.range (m + 1)).find? ((fun kv : List L2.Key × V => decide (kv.1 = l.map Sum.inl)) ∘ fun i => ((lay rs kr l0 i).map (Sum.inl : Int → L2.Key), V.int i)) = some i := by
      rw [List.find?_range_eq_some]
      refine ⟨by simp [e], by simp; omega, fun j hj => ?_⟩
      have h1 : lay rs kr l0 j ≠ l := fun z => hd j i hj hi (e.trans z.symm)
      simp only [Function.comp, Bool.not_eq_true', decide_eq_false_iff_not]
      exact fun z => h1 (inl_inj z)
    rw [this]
    rfl
  · have no : ∀ i, i ≤ m → lay rs kr l0 i ≠ l := fun i hi e => ex ⟨i, hi, e⟩
    refine .inr ⟨no, ?_⟩
    unfold valV
    rw [Option.map_eq_none_iff, List.find?_eq_none]
    intro kv hkv
    obtain ⟨i, hi, rfl⟩ := List.mem_map.mp hkv
    simp only [decide_eq_true_eq]
    exact fun z => no i (by have := List.mem_range.mp hi; omega) (inl_inj z)
theorem nsv_kV (l : List Int) : (l.map (Sum.inl : Int → L2.Key)).map kV = nsv l := by
  rw [List.map_map]
  rfl
theorem atI_lastOf {α : Type} {xs : List α} {v : α} {m : Nat} (h : xs.length = m + 1) (e : xs[m]? = some v) : atI xs (-1) = some v := by
  have h2 : xs = xs.take m ++ [v] := by
    have h3 := List.take_add_one (l := xs) (i := m)
    rw [e, List.take_of_length_le (by omega)] at h3
    exact h3
  rw [h2]
  exact atI_last _ _
theorem neg1 : (-(1 : Int)) = -1 := rfl
theorem range_at (g : Nat → Int) {m i : Nat} (h : i < m) : (nsv ((List.range m).map g))[i]? = some (.int (g i)) := by
  rw [List.getElem?_map, List.getElem?_map, List.getElem?_range h]
  rfl
theorem nsv_len (l : List Int) : (nsv l).length = l.length := List.length_map ..
section
variable {P : Program} {w : World} {K : PySem.W.Frag} {mg : Str → Option Value} {base : Heap}
theorem ok_gone_down (T : Tx K mg) (j : Nat) (hj : 2 ≤ j) : CL P w K mg base CX0 (j + 1) "gone_down" ["web", "rooms", "beats", "known"] (spGone P w K mg base j) := by
  have GH := ok_rooms_heard (P := P) (w := w) (base := base) T
  have nd := sc_gone_down.nd
  refine CL.of0 T.d_gone_down T.g_gone_down sc_gone_down b_gone_down (fun vs H Q E h => ?_) (fun f cdv A outer s H vs Q E hr h => ?_)
  · obtain ⟨x, l, f, rs, l0, n, kr, rfl, _⟩ := h; rfl
  · obtain ⟨x, l, fk, rs, l0, n, kr, rfl, hW, hok, hl, hsi, hF, k⟩ := h
    refine ⟨_, (pss_cons (ps_set (i := 4) nd rfl (Or.inl rfl) (pe_lst (pa_cons (pv 1) pa_nil)))
      (pss_cons (ps_set (i := 5) nd rfl (Or.inl rfl) (pe_lst (pa_cons pe_int pa_nil)))
      (pss_cons (ps_set (i := 6) nd rfl (Or.inl rfl) (pe_dispT (hu_of hr) (pe_callTy call_tuple_of (by rfl) T.f_tuple (by decide +kernel) (pa_cons (pv 1) pa_nil)) pe_int))
      (pss_cons (ps_while PassesOwn.never (pt_cmpR op_le (pe_callB call_len_seq (by rfl) T.f_len PySem.boot_len (pa_cons (pv 4) pa_nil)) (pv 2) (nomark _)) (pss_cons (ps_setLc (i := 7) (own := [("room", 13)]) (g := gName 13) rfl nd rfl rfl (sw_true rfl rfl rfl (by decide +kernel)) (pi_list (pe_ix ix_list (pv 4) (pe_un un_neg pe_int) (fun _ _ => rfl))) (blkOk_by (N := N_gone_down) (sc := defScope s_gone_down) (by decide +kernel))
            (fun _ _ _ _ _ => pg_name (i := 13) nd rfl (Or.inl rfl)) (fun _ _ _ _ _ => pts_one (pt_not (pt_val (pe_callvK P w K mg base (i := 3) (CX := C8.CX0) (k := j) hr (Nat.le_refl _) pass0 rfl (by first | exact Or.inl rfl | exact Or.inr (Or.inl rfl) | exact Or.inr (Or.inr rfl)) (pa_cons (pv 13) pa_nil))))) (fun _ _ _ _ _ => pv 13))
      (pss_cons (ps_expr (pe_bm PySem.F.plainAttrs_list PySem.F.slot_list_append PySem.F.type_list_append mt_append (pv 5) (pa_cons (pe_op op_add (pe_ix ix_list (pv 5) (pe_un un_neg pe_int) (fun _ _ => rfl)) (pe_callB call_len_seq (by rfl) T.f_len PySem.boot_len (pa_cons (pv 7) pa_nil))) pa_nil)))
      (pss_cons (ps_set (i := 1) nd rfl (Or.inl rfl) (pe_cl GH hr hj pass0 (pa_cons (pv 0) (pa_cons (pv 7) pa_nil))))
      (pss_cons (ps_set (i := 8) nd rfl (Or.inl rfl) (DT2.pe_dsetdT (hu_of hr) (pv 6) (pe_callTy call_tuple_of (by rfl) T.f_tuple (by decide +kernel) (pa_cons (pv 1) pa_nil)) (pe_callB call_len_seq (by rfl) T.f_len PySem.boot_len (pa_cons (pv 4) pa_nil)) ⟨rfl, rfl, rfl, rfl⟩))
      (pss_cons (ps_if (pt_cmpR op_lt (pv 8) (pe_callB call_len_seq (by rfl) T.f_len PySem.boot_len (pa_cons (pv 4) pa_nil)) (nomark _)) (pss_cons (ps_set (i := 9) nd rfl (Or.inl rfl) (pe_op op_sub (pe_callB call_len_seq (by rfl) T.f_len PySem.boot_len (pa_cons (pv 4) pa_nil)) (pv 8)))
      (pss_cons (ps_par (i := 10) (j := 11) (by rfl) nd rfl rfl (by decide) rfl rfl (pa_cons (pe_op op_fdivN (pe_op op_sub (pv 2) (pv 8)) (pv 9)) (pa_cons (pe_op op_modN (pe_op op_sub (pv 2) (pv 8)) (pv 9)) pa_nil)) (by rfl))
      (pss_cons (ps_set (i := 12) nd rfl (Or.inl rfl) (pe_op op_sub (pe_ix ix_list (pv 5) (pe_un un_neg pe_int) (fun _ _ => rfl)) (pe_ix ix_list (pv 5) (pv 8) (fun _ _ => rfl))))
      (pss_one (ps_ret (pe_tup (pa_cons (pe_ix ix_list (pv 4) (pe_op op_add (pv 8) (pv 11)) (fun _ _ => rfl)) (pa_cons (pe_op op_add (pe_ix ix_list (pv 5) (pe_op op_add (pv 8) (pv 11)) (fun _ _ => rfl)) (pe_op op_mul (pv 10) (pv 12))) pa_nil)))))))) pss_nil)
      (pss_one (ps_expr (pe_bm PySem.F.plainAttrs_list PySem.F.slot_list_append PySem.F.type_list_append mt_append (pv 4) (pa_cons (pv 1) pa_nil))))))))))
      (pss_one (ps_ret (pe_tup (pa_cons (pe_ix ix_list (pv 4) (pe_un un_neg pe_int) (fun _ _ => rfl)) (pa_cons (pe_ix ix_list (pv 5) (pe_un un_neg pe_int) (fun _ _ => rfl)) pa_nil))))))))), ?_⟩
    -- layers, counts, places
    refine ⟨_, rfl, (by show 1 ≤ sizeLine; decide), fun Lr hLr => ?_⟩
    refine ⟨(by show 1 ≤ sizeLine; decide), fun C hC => ?_⟩
    have f2 : H C = none := none_upd hC
    have neLC : Lr ≠ C := fun z => by rw [← z, upd_same] at hC; cases hC
    refine fun Pl hPl => ?_
    have f3' := none_upd hPl
    have f3 : H Pl = none := none_upd f3'
    have neLP : Lr ≠ Pl := fun z => by rw [← z, upd_same] at f3'; cases f3'
    have neCP : C ≠ Pl := fun z => by rw [← z, upd_same] at hPl; cases hPl
    have lL : l ≠ Lr := ne_of_none hl hLr
    have lC : l ≠ C := ne_of_none hl f2
    have lP : l ≠ Pl := ne_of_none hl f3
    refine ⟨_, rfl, _, _, rfl, .inl ⟨SqL.of (by rw [upd_ne lP, upd_ne lC, upd_ne lL]; exact hl), fun t ht => ?_⟩⟩
    have ht0 := none_upd (none_upd (none_upd ht))
    have tP : t ≠ Pl := fun z => by rw [z, upd_same] at ht; cases ht
    have tC' : t ≠ C := fun z => by have := none_upd ht; rw [z, upd_same] at this; cases this
    have tL : t ≠ Lr := fun z => by have := none_upd (none_upd ht); rw [z, upd_same] at this; cases this
    refine ⟨t, l0.map Sum.inl, rfl, by rw [upd_same, nsv_kV], by rw [upd_ne tP.symm, upd_same], ?_⟩
    have g0 : GD l H (upd (upd (upd (upd (upd H Lr (.lst [V.ref l])) C (.lst [V.int 0])) Pl (.dT [])) t (.tup (nsv l0))) Pl (.dT [(l0.map Sum.inl, V.int 0)])) rs kr l0 0 Lr C Pl := by
      refine ⟨fun b o e => ?_, hLr, f2, f3, neLC, ⟨[l], ?_, rfl, fun i a h => ?_⟩, ?_, ?_, fun i j h1 h2 => absurd h1 (by omega)⟩
      · rw [upd_ne (ne_of_none e f3), upd_ne (ne_of_none e ht0), upd_ne (ne_of_none e f3), upd_ne (ne_of_none e f2), upd_ne (ne_of_none e hLr)]
        exact e
      · rw [upd_ne neLP, upd_ne tL.symm, upd_ne neLP, upd_ne neLC, upd_same]
        rfl
      · cases i with
        | succ i => cases h
        | zero =>
          have e : l = a := Option.some.inj h
          subst e
          refine ⟨.inl rfl, lL, lC, ?_⟩
          rw [upd_ne lP, upd_ne (ne_of_none hl ht0), upd_ne lP, upd_ne lC, upd_ne lL]
          exact hl
      · rw [upd_ne neCP, upd_ne tC'.symm, upd_ne neCP, upd_same]
        rfl
      · rw [upd_same]
        rfl
    generalize upd (upd (upd (upd (upd H Lr (.lst [V.ref l])) C (.lst [V.int 0])) Pl (.dT [])) t (.tup (nsv l0))) Pl (.dT [(l0.map Sum.inl, V.int 0)]) = Hs at g0 ⊢
    refine ⟨fun q σ Hc => ∃ (m : Nat) (u1 u7 u8 : Option V), q + m = n ∧ GD l H Hc rs kr l0 m Lr C Pl ∧ σ = [some (.ref x), u1, some (.int n), some (.ref fk), some (.ref Lr), some (.ref C), some (.ref Pl), u7, u8, none, none, none, none, none],
      ⟨n, 0, _, _, _, Nat.add_zero _, g0, rfl⟩, ?_⟩
    rintro q σ Hc ⟨m, u1, u7, u8, hq, g, rfl⟩
    obtain ⟨as, a1, a2, a3⟩ := g.as
    have hm : m < 4096 := lay_small hok hsi g.di
    refine ⟨_, rfl, Lr, _, rfl, .inl (SqL.of a1), _, rfl, _, _, rfl, rfl, _, rfl, ?_⟩
    have elen : ((as.map V.ref).length : Int) = (m : Int) + 1 := by rw [List.length_map, a2]; omega
    rw [elen]
    have hmas : ∃ am, as[m]? = some am := ⟨_, List.getElem?_eq_getElem (by omega)⟩
    obtain ⟨am, ham⟩ := hmas
    have hamL := (a3 m am ham).2.2.2
    have iam : atI (as.map V.ref) (-1) = some (.ref am) := atI_lastOf (m := m) (by rw [List.length_map, a2]) (by rw [List.getElem?_map, ham]; rfl)
    have icm : atI (nsv ((List.range (m + 1)).map (cnt rs kr l0))) (-1) = some (.int (cnt rs kr l0 m)) := atI_lastOf (m := m) (by rw [nsv_len, List.length_map, List.length_range]) (range_at _ (Nat.lt_succ_self m))
    by_cases hmn : m < n
    · refine iteDT (by omega) ?_
      refine ⟨fun σ' H' => ∃ (u1 u7 u8 : Option V), GD l H H' rs kr l0 (m + 1) Lr C Pl ∧ σ' = [some (.ref x), u1, some (.int n), some (.ref fk), some (.ref Lr), some (.ref C), some (.ref Pl), u7, u8, none, none, none, none, none],
        fun σ' H' ⟨w1, w7, w8, h1, h2⟩ => ⟨q - 1, by omega, m + 1, w1, w7, w8, by omega, h1, h2⟩, ?_⟩
      have lsi := lay_si (kr := kr) hsi m
      have llen : (lay rs kr l0 m).length ≤ 12 := Nat.le_trans (room_len (nodup_ints lsi.1) lsi.2) hok.2.1
      -- run
      refine ⟨_, rfl, 1, rfl, _, _, _, _, rfl, rfl, SqL.of a1, iam, am, rfl, ⟨_, SqL.of hamL⟩, fun D hD => ?_⟩
      refine lc_filt (walk_list (xs := nsv (lay rs kr l0 m))) (fun i => ((lay rs kr l0 m)[i]?).bind fun r => if (!kr r) = true then some (V.int r) else none) (by rw [List.length_map]; omega) hD (fun H2 s2 => SqL.of (s2 _ _ hamL)) (fun i y H2 H3 acc Nx hi s2 hacc hlen2 hy k1 k0 => ?_) (fun H2 s2 h2 => ?_)
      · obtain ⟨rfl, hyx⟩ := hy
        obtain ⟨r, hr', rfl⟩ := nsv_at hyx
        rw [hr'] at k1 k0
        refine ⟨rfl, fk, _, rfl, hF.same (g.sm.trans s2), ?_⟩
        refine ⟨_, rfl, ExtN.refl _, r, rfl, lsi.2 r (List.mem_of_getElem? hr'), fun H4 s4 => ⟨_, rfl, ?_⟩⟩
        cases hkr : kr r with
        | true => exact k0 _ (by simp [hkr]) s4
        | false => exact ⟨_, rfl, acc, s4 _ _ hacc, hlen2, k1 _ _ (by simp [hkr]) s4⟩
      · have eH : List.filterMap (fun i => ((lay rs kr l0 m)[i]?).bind fun r => if (!kr r) = true then some (V.int r) else none) (List.range (nsv (lay rs kr l0 m)).length) = nsv ((lay rs kr l0 m).filter fun r => !kr r) := by
          rw [List.length_map, filterMap_range, filterMap_if]
        rw [eH] at h2
        have g2 := g.same s2
        obtain ⟨run, hrun⟩ : ∃ run, run = (lay rs kr l0 m).filter fun r => !kr r := ⟨_, rfl⟩
        rw [← hrun] at h2
        have rlen : run.length ≤ 12 := by rw [hrun]; exact Nat.le_trans (List.length_filter_le ..) llen
        have rin : ∀ r ∈ run, InR rs r := fun r hr => lsi.2 r (by rw [hrun] at hr; exact (List.mem_filter.mp hr).1)
        have ecnt : cnt rs kr l0 (m + 1) = cnt rs kr l0 m + (run.length : Int) := by rw [hrun]; rfl
        have elay : lay rs kr l0 (m + 1) = rh rs run := by rw [hrun]; rfl
        have hD0 : H D = none := none_same g.sm hD
        have DC : D ≠ C := (ne_of_none g.cs hD).symm
        -- counts
        refine ⟨_, rfl, .inl ⟨rfl, _, SqL.of g2.cs⟩, _, rfl, 1, rfl, _, _, _, _, rfl, rfl, SqL.of g2.cs, icm, _, rfl, D, _, rfl, .inl (SqL.of h2), _, _, rfl, rfl, C, _, _, rfl, rfl, g2.cs, (by rw [nsv_len, List.length_map, List.length_range, sizeL]; omega), ?_⟩
        dsimp only
        rw [nsv_len run, ← ecnt]
        have ecs : nsv ((List.range (m + 1)).map (cnt rs kr l0)) ++ [V.int (cnt rs kr l0 (m + 1))] = nsv ((List.range (m + 1 + 1)).map (cnt rs kr l0)) := by
          rw [List.range_succ (n := m + 1), List.map_append, nsv_app]
          rfl
        rw [ecs]
        obtain ⟨H3, hH3⟩ : ∃ H3, H3 = upd H2 C (.lst (nsv ((List.range (m + 1 + 1)).map (cnt rs kr l0)))) := ⟨_, rfl⟩
        rw [← hH3]
        have s3 : Same H H3 := fun b o e => by rw [hH3, upd_ne (ne_of_none e f2)]; exact g2.sm _ _ e
        have c3 : H3 C = some (.lst (nsv ((List.range (m + 1 + 1)).map (cnt rs kr l0)))) := by rw [hH3, upd_same]
        have d3 : H3 D = some (.lst (nsv run)) := by rw [hH3, upd_ne DC]; exact h2
        have keep3 : ∀ b o, b ≠ C → H2 b = some o → H3 b = some o := fun b o hb e => by rw [hH3, upd_ne hb]; exact e
        obtain ⟨dx, tw, hx, hR⟩ := id hW
        -- rooms
        refine ⟨_, rfl, _, rfl, _, _, rs, run, rfl, hW.same s3, hok, d3, rin, by omega, fun H4 p3 s4 np3 hp3 => ?_⟩
        rw [← elay] at hp3
        have a14 : H4 Lr = some (.lst (as.map V.ref)) := s4 _ _ (keep3 _ _ neLC (s2 _ _ a1))
        have c4 := s4 _ _ c3
        have p4 : H4 Pl = some (.dT ((List.range (m + 1)).map fun i => ((lay rs kr l0 i).map Sum.inl, V.int i))) := s4 _ _ (keep3 _ _ neCP.symm g2.ps)
        have p3L : p3 ≠ Lr := (ne_of_none (keep3 _ _ neLC (s2 _ _ a1)) np3).symm
        have p3C : p3 ≠ C := (ne_of_none c3 np3).symm
        -- setdefault
        refine ⟨_, rfl, Pl, rfl, .inr ⟨_, .inl p4⟩, _, rfl, _, _, rfl, .inl ⟨SqL.of hp3, fun t ht => ?_⟩⟩
        have ht0 : H t = none := none_same (s3.trans s4) ht
        have tL' : Lr ≠ t := ne_of_none a14 ht
        have tC2 : C ≠ t := ne_of_none c4 ht
        have tP2 : Pl ≠ t := ne_of_none p4 ht
        have a15 : (upd H4 t (.tup (nsv (lay rs kr l0 (m + 1))))) Lr = some (.lst (as.map V.ref)) := by rw [upd_ne tL']; exact a14
        have c5 : (upd H4 t (.tup (nsv (lay rs kr l0 (m + 1))))) C = some (.lst (nsv ((List.range (m + 1 + 1)).map (cnt rs kr l0)))) := by rw [upd_ne tC2]; exact c4
        have p5 : (upd H4 t (.tup (nsv (lay rs kr l0 (m + 1))))) Pl = some (.dT ((List.range (m + 1)).map fun i => ((lay rs kr l0 i).map Sum.inl, V.int i))) := by rw [upd_ne tP2]; exact p4
        have hp5 : (upd H4 t (.tup (nsv (lay rs kr l0 (m + 1))))) p3 = some (.lst (nsv (lay rs kr l0 (m + 1)))) := by rw [upd_ne (ne_of_none hp3 ht)]; exact hp3
        have t5 : (upd H4 t (.tup (nsv (lay rs kr l0 (m + 1))))) t = some (.tup (((lay rs kr l0 (m + 1)).map (Sum.inl : Int → L2.Key)).map kV)) := by rw [upd_same, nsv_kV]
        have s5 : Same H (upd H4 t (.tup (nsv (lay rs kr l0 (m + 1))))) := same_new (s3.trans s4) ht0
        have as5 : ∀ (i : Nat) (a : Addr), as[i]? = some a → (upd H4 t (.tup (nsv (lay rs kr l0 (m + 1))))) a = some (.lst (nsv (lay rs kr l0 i))) := fun i a h => by
          obtain ⟨_, b1, b2, b3⟩ := a3 i a h
          have e4 := s4 _ _ (keep3 _ _ b2 (s2 _ _ b3))
          rw [upd_ne (ne_of_none e4 ht)]
          exact e4
        generalize upd H4 t (.tup (nsv (lay rs kr l0 (m + 1)))) = H5 at a15 c5 p5 hp5 t5 s5 as5 ⊢
        refine ⟨_, rfl, Lr, _, rfl, .inl (SqL.of a15), _, _, t, p5, rfl, t5, (by rw [List.length_map, List.length_range, sizeL]; omega), fun v hv => ?_, fun hv => ?_⟩
        · rcases valV_lay rs kr l0 (lay rs kr l0 (m + 1)) m g.di with ⟨i, hi, hli, hvi⟩ | ⟨_, hvi⟩
          · rw [hvi] at hv
            cases hv
            refine ⟨_, rfl, _, rfl, Lr, _, rfl, .inl (SqL.of a15), _, _, rfl, rfl, _, rfl, ?_⟩
            rw [elen]
            refine iteDT (by omega) ?_
            refine ⟨_, rfl, Lr, _, rfl, .inl (SqL.of a15), _, rfl, _, _, rfl, rfl, ?_⟩
            have ering : (m : Int) + 1 - (i : Int) = ((m + 1 - i : Nat) : Int) := by omega
            have eni : (n : Int) - (i : Int) = ((n - i : Nat) : Int) := by omega
            dsimp only
            rw [elen, ering]
            refine ⟨_, rfl, _, rfl, _, _, rfl, rfl, _, rfl, _, _, rfl, rfl, ⟨by omega, by omega⟩, _, rfl, _, rfl, _, _, rfl, rfl, _, rfl, _, _, rfl, rfl, by omega, ?_⟩
            dsimp only
            rw [eni, ← Int.ofNat_fdiv, ← Int.ofNat_fmod]
            obtain ⟨l1, l2⟩ := lay_at (rs := rs) (kr := kr) (l0 := l0) (b := i) (m := m + 1) (n := n) (by omega) hli.symm (by omega)
            have hrest : (n - i) % (m + 1 - i) < m + 1 - i := Nat.mod_lt _ (by omega)
            obtain ⟨rest, hrst⟩ : ∃ rest, rest = (n - i) % (m + 1 - i) := ⟨_, rfl⟩
            obtain ⟨rounds, hrnd⟩ : ∃ rounds, rounds = (n - i) / (m + 1 - i) := ⟨_, rfl⟩
            rw [← hrst] at l1 l2 hrest ⊢
            rw [← hrnd] at l2 ⊢
            refine ⟨_, _, rfl, ?_⟩
            have icm1 : atI (nsv ((List.range (m + 1 + 1)).map (cnt rs kr l0))) (-1) = some (.int (cnt rs kr l0 (m + 1))) := atI_lastOf (m := m + 1) (by rw [nsv_len, List.length_map, List.length_range]) (range_at _ (by omega))
            have ici : atI (nsv ((List.range (m + 1 + 1)).map (cnt rs kr l0))) (i : Int) = some (.int (cnt rs kr l0 i)) := atI_nat (range_at _ (by omega))
            refine ⟨_, rfl, 1, rfl, _, _, _, _, rfl, rfl, SqL.of c5, icm1, _, rfl, _, rfl, _, _, _, _, rfl, rfl, SqL.of c5, ici, _, _, rfl, rfl, ?_⟩
            have ebr : (i : Int) + (rest : Int) = ((i + rest : Nat) : Int) := by omega
            obtain ⟨ar, har⟩ : ∃ ar, as[i + rest]? = some ar := ⟨_, List.getElem?_eq_getElem (by omega)⟩
            have iar : atI (as.map V.ref) ((i + rest : Nat) : Int) = some (.ref ar) := atI_nat (by rw [List.getElem?_map, har]; rfl)
            have icr : atI (nsv ((List.range (m + 1 + 1)).map (cnt rs kr l0))) ((i + rest : Nat) : Int) = some (.int (cnt rs kr l0 (i + rest))) := atI_nat (range_at _ (by omega))
            have hper0 := cnt_sub (b := i) (m := m + 1) (kr := kr) (l0 := l0) (by omega) hok hsi
            have hper1 := cnt_le (kr := kr) hok hsi (m + 1)
            have hper2 := cnt_nonneg (rs := rs) (kr := kr) (l0 := l0) i
            refine ⟨_, rfl, _, rfl, _, rfl, _, _, rfl, rfl, ?_⟩
            dsimp only
            rw [ebr]
            refine ⟨_, _, _, _, rfl, rfl, SqL.of a15, iar, _, rfl, _, rfl, _, rfl, _, _, rfl, rfl, ?_⟩
            dsimp only
            rw [ebr]
            refine ⟨_, _, _, _, rfl, rfl, SqL.of c5, icr, _, rfl, _, rfl, _, _, rfl, rfl, .inr ⟨by omega, by omega⟩, _, _, rfl, rfl, (by show 2 ≤ sizeLine; decide), fun p hp => ?_⟩
            have hp0 := none_same s5 hp
            refine k _ p ar (same_new s5 hp0) hp0 (a3 _ _ har).1 ?_ ?_
            · rw [upd_ne (ne_of_none (as5 _ _ har) hp), l1]
              exact as5 _ _ har
            · rw [upd_same, l2]
          · rw [hvi] at hv
            cases hv
        · rcases valV_lay rs kr l0 (lay rs kr l0 (m + 1)) m g.di with ⟨i, hi, hli, hvi⟩ | ⟨hno, hvi⟩
          · rw [hvi] at hv
            cases hv
          · rw [putK_new _ hv]
            have Lp : Lr ≠ Pl := neLP
            have a16 : (upd H5 Pl (.dT (((List.range (m + 1)).map fun i => ((lay rs kr l0 i).map (Sum.inl : Int → L2.Key), V.int i)) ++ [((lay rs kr l0 (m + 1)).map Sum.inl, V.int ((as.map V.ref).length : Nat))]))) Lr = some (.lst (as.map V.ref)) := by rw [upd_ne Lp]; exact a15
            refine ⟨_, rfl, _, rfl, Lr, _, rfl, .inl (SqL.of a16), _, _, rfl, rfl, _, rfl, ?_⟩
            refine iteDF (by omega) ?_
            refine ⟨_, rfl, .inl ⟨rfl, _, SqL.of a16⟩, _, rfl, Lr, _, _, rfl, rfl, a16, (by rw [List.length_map, a2, sizeL]; omega), ?_⟩
            refine ⟨_, _, _, ⟨fun b o e => ?_, hLr, f2, f3, neLC, ⟨as ++ [p3], ?_, by rw [List.length_append, a2]; rfl, fun i a h => ?_⟩, ?_, ?_, fun i j h1 h2 => ?_⟩, rfl⟩
            · rw [upd_ne (ne_of_none e hLr), upd_ne (ne_of_none e f3)]
              exact s5 _ _ e
            · rw [upd_same, List.map_append]
              rfl
            · by_cases hi : i < as.length
              · rw [List.getElem?_append_left hi] at h
                obtain ⟨b0, b1, b2, _⟩ := a3 i a h
                have e5 := as5 i a h
                refine ⟨b0, b1, b2, ?_⟩
                rw [upd_ne b1, upd_ne (ne_of e5 p5 (fun z => nomatch z))]
                exact e5
              · have hi2 : i = as.length := by
                  have := (List.getElem?_eq_some_iff.mp h).1
                  rw [List.length_append] at this
                  simp at this
                  omega
                subst hi2
                rw [List.getElem?_concat_length] at h
                have e : p3 = a := Option.some.inj h
                subst e
                refine ⟨.inr (none_same s3 np3), p3L, p3C, ?_⟩
                rw [upd_ne p3L, upd_ne (ne_of hp5 p5 (fun z => nomatch z)), a2]
                exact hp5
            · rw [upd_ne neLC.symm, upd_ne neCP]
              exact c5
            · rw [upd_ne neLP.symm, upd_same, List.range_succ (n := m + 1), List.map_append, List.length_map, a2]
              rfl
            · by_cases hj2 : j ≤ m
              · exact g.di i j h1 hj2
              · have : j = m + 1 := by omega
                subst this
                exact fun z => hno i (by omega) z.symm
    · have emn : m = n := by omega
      subst emn
      refine iteDF (by omega) ?_
      refine ⟨_, rfl, 1, rfl, _, _, _, _, rfl, rfl, SqL.of a1, iam, _, rfl, 1, rfl, _, _, _, _, rfl, rfl, SqL.of g.cs, icm, (by show 2 ≤ sizeLine; decide), fun p hp => ?_⟩
      have hp0 := none_same g.sm hp
      exact k _ p am (same_new g.sm hp0) hp0 (a3 _ _ ham).1 (by rw [upd_ne (ne_of_none hamL hp)]; exact hamL) upd_same
end
end S
set_option Elab.async false
set_option linter.all false
set_option maxRecDepth 100000
set_option maxHeartbeats 4000000
/-! # defs that make lambdas; walked_down's term -/
namespace S
open PySem PySem.Spec PyProof.Rows L2 G LamX NdefX
/-- a lambda's name in a def -/
abbrev lamQ (q : Str) : Str := (envOfC q (defScope s_by_beats) 0 0 .none).qual ++ "<lambda>"
abbrev aWD : He.Defn := ("walked_down", none)
abbrev aRM : He.Defn := ("run_many", none)
abbrev aND : He.Defn := ("needed", none)
abbrev aBB : He.Defn := ("by_beats", none)
abbrev aHW : He.Defn := ("House", some "walked")
abbrev aHL : He.Defn := ("House", some "look")
abbrev lamDefs : List (He.Defn × Str) := [(aWD, lamQ "walked_down"), (aRM, lamQ "run_many"), (aND, lamQ "needed"), (aBB, lamQ "by_beats"), (aHW, lamQ "House.walked"), (aHL, lamQ "House.look")]
def TBS (K : PySem.W.Frag) : List (Addr × Str) := lamDefs.map fun d => ((He.cT K d.1).2, d.2)
structure LT (K : PySem.W.Frag) (mg : Str → Option Value) (base : Heap) : Prop where
  tb : ∀ d ∈ lamDefs, TabB base mg (He.codeOf K d.1) (He.tabOf K (He.codeOf K d.1))
  un : ∀ p ∈ TBS K, ∀ q ∈ TBS K, p.1 = q.1 → p.2 = q.2
section
variable {P : Program} {w : World} {K : PySem.W.Frag} {mg : Str → Option Value} {base : Heap}
theorem tt_mem {d : He.Defn × Str} (h : d ∈ lamDefs) : (He.tabOf K (He.codeOf K d.1), d.2) ∈ TBS K := List.mem_map.mpr ⟨d, h, rfl⟩
theorem LT.hu (L : LT K mg base) {d : He.Defn × Str} (h : d ∈ lamDefs) : ∀ p ∈ TBS K, p.1 = He.tabOf K (He.codeOf K d.1) → p.2 = d.2 := fun p hp e => L.un p hp _ (tt_mem h) e
/-- a body's proof where the def's code object is known -/
abbrev BodyC (P : Program) (w : World) (K : PySem.W.Frag) (mg : Str → Option Value) (base : Heap) (k : Nat) (N : List Str) (qual : Str) (st : Stmt) (d : He.Defn) (sp : Sp) : Prop :=
  ∀ (A : Around) (outer : List Env) (s : Shared) (H : Hp) (vs : List V) (Q : VK) (E : XK), Room k (A.deeper (envOfC qual (defScope st) s.heap.objs.size (He.fAd K d) (.ref (He.codeOf K d)))) → sp vs H Q E →
    ∃ t, PSs (cxOf CX0 P w K mg base N qual (defScope st) (He.fAd K d) (.ref (He.codeOf K d)) A outer s H E).nox (defBody st) t ∧ t { nx := fun _ H' => Q .non H', rt := Q } (start N vs) H
theorem fn_bodyC {x qual : Str} {st : Stmt} {dvs : List V} {kws : List (Str × V)} {d : He.Defn} {fd : FuncData} {N ps : List Str} {k : Nat} {sp : Sp} (F : FunD K x qual (defArgs st) (defBody st) (defScope st) dvs kws (He.fAd K d) fd) (S : FnScope N ps (defScope st)) (len : ∀ vs H Q E, sp vs H Q E → vs.length = ps.length)
    (hb : BodyC P w K mg base k N qual st d sp) : FnOk P w K mg base CX0 (k + 1) (He.fAd K d) fd ps sp := by
  obtain ⟨oc, od, dV, kV, doc, pm, an, cdv, ct, osl, rfl, lk, hcd, _, _⟩ := F.ex
  obtain ⟨c, rfl⟩ := He.codeIn_ref hcd
  have ec : He.codeOf K d = c := He.codeOf_eq lk rfl
  refine fn_of lk hcd S len fun A outer s H vs Q E hr hsp => ?_
  rw [← ec] at hr ⊢
  obtain ⟨t, h, q⟩ := hb A outer s H vs Q E hr hsp
  exact ⟨t, h.nox, q⟩
theorem CL.ofC {x qual : Str} {st : Stmt} {d : He.Defn} {N ps : List Str} {k : Nat} {sp : Sp} (F : ∃ fd, FunD K x qual (defArgs st) (defBody st) (defScope st) [] [] (He.fAd K d) fd) (hm : mg x = some (.ref (He.fAd K d))) (S : FnScope N ps (defScope st))
    (b : ∀ fd, FunD K x qual (defArgs st) (defBody st) (defScope st) [] [] (He.fAd K d) fd → Binds K fd ps [])
    (len : ∀ vs H Q E, sp vs H Q E → vs.length = ps.length) (hb : BodyC P w K mg base k N qual st d sp) : CL P w K mg base CX0 (k + 1) x ps sp := by
  obtain ⟨fd, F⟩ := F
  exact ⟨_, fd, fn_bodyC F S len hb, hm, F.kp, b fd F⟩
end
/-- a frozen cell of the running frame is no list, no tuple -/
theorem extN_get {H H' : Hp} (e : ExtN H H') {b : Addr} {o : HO} (h : H b = some o) (n : ∀ ps, o ≠ .tbl ps := by intro ps z; cases z) : H' b = some o := e b o h n
theorem WebAt.ext {K : PySem.W.Frag} {H H' : Hp} {x : Addr} {rs : List RoomD} (h : WebAt K H x rs) (e : ExtN H H') : WebAt K H' x rs := by
  obtain ⟨dx, t, h1, as, h2, h3, h4⟩ := h
  refine ⟨dx, t, extN_get e h1, as, extN_get e h2, h3, fun i a r h5 h6 => ?_⟩
  obtain ⟨dy, th, tr, g1, g2, g3⟩ := h4 i a r h5 h6
  exact ⟨dy, th, tr, extN_get e g1, extN_get e g2, extN_get e g3⟩
theorem extN_new {H H1 : Hp} {p : Addr} {o : HO} (s : ExtN H H1) (h : H1 p = none) : ExtN H (upd H1 p o) := fun b o' e n => by
  have e1 := s b o' e n
  rw [upd_ne (ne_of_none e1 h)]
  exact e1
theorem tabs_new {T : List (Addr × Str)} {H : Hp} {p : Addr} {o : HO} (t : Tabs T H) (h : H p = none) : Tabs T (upd H p o) := t.ext fun b o' e => by
  rw [upd_ne (ne_of_none e h)]
  exact e
/-- known, told of a cell -/
def spKn (rs : List RoomD) (kn : Cell → Bool) : Sp := fun vs H Q _ => ∃ (t : Addr) (c : Cell), vs = [.ref t] ∧ H t = some (.tup (cV c)) ∧ InR rs c.1 ∧ ∀ H', Same H H' → Q (.bl (kn c)) H'
def layC (rs : List RoomD) (kn : Cell → Bool) (c : Cell) : Nat → List Int
  | 0 => [c.1]
  | n + 1 => rh rs ((layC rs kn c n).filter fun r => !kn (r, c.2 - n))
def cntC (rs : List RoomD) (kn : Cell → Bool) (c : Cell) : Nat → Int
  | 0 => 0
  | n + 1 => cntC rs kn c n + (((layC rs kn c n).filter fun r => !kn (r, c.2 - n)).length : Int)
abbrev scWL : Scope := { kind := .function, names := [("one", .local), ("here", .free), ("known", .free)], isGenerator := false, isCoroutine := false }
theorem ndWL : ndefB (defScope s_walked_down) scWL ["known", "here"] = true := by decide +kernel
theorem nsWL : NScope ["one", "known", "here"] ["one"] ["known", "here"] scWL := nscope_by (by decide +kernel)
theorem clo_sub {cells : List (Str × Addr)} {names : List (Str × NameKind)} {fr : List Str} (h : ∀ y ∈ names, y.2 = .free → y.1 ∈ fr) : ∀ y c, (cloFrom cells names []).lookup y = some c → y ∈ fr := fun y c e => by
  rcases cloFrom_mem (PySem.mem_of_lookup e) with z | ⟨z, _⟩
  · cases z
  · exact h _ z rfl
theorem layC_si {rs : List RoomD} {kn : Cell → Bool} {c : Cell} (h : InR rs c.1) : ∀ n, SI rs (layC rs kn c n)
  | 0 => ⟨List.pairwise_singleton .., fun x hx => by rw [List.mem_singleton.mp hx]; exact h⟩
  | n + 1 => rh_si rs _
theorem layC_lay {rs : List RoomD} {kn : Cell → Bool} {kr : Int → Bool} {c : Cell} (hc : InR rs c.1) (i n : Nat) (h : ∀ k, k < n → ∀ r, InR rs r → kn (r, c.2 - ((i + k : Nat) : Int)) = kr r) : ∀ k, k ≤ n → layC rs kn c (i + k) = lay rs kr (layC rs kn c i) k ∧ cntC rs kn c (i + k) = cntC rs kn c i + cnt rs kr (layC rs kn c i) k
  | 0, _ => by simp [lay, cnt]
  | k + 1, hk => by
    obtain ⟨h1, h2⟩ := layC_lay hc i n h k (by omega)
    have e : ((layC rs kn c (i + k)).filter fun r => !kn (r, c.2 - ((i + k : Nat) : Int))) = (lay rs kr (layC rs kn c i) k).filter fun r => !kr r := by
      rw [h1]
      refine List.filter_congr fun r hr => ?_
      rw [h k (by omega) r ((lay_si (layC_si hc i) k).2 r hr)]
    constructor
    · show rh rs ((layC rs kn c (i + k)).filter fun r => !kn (r, c.2 - ((i + k : Nat) : Int))) = rh rs _
      rw [e]
    · show cntC rs kn c (i + k) + (((layC rs kn c (i + k)).filter fun r => !kn (r, c.2 - ((i + k : Nat) : Int))).length : Int) = _ + (cnt rs kr (layC rs kn c i) k + _)
      rw [e, h2]
      omega
theorem stops_lt {a a' : Int} (h : a' < a) : ∀ {l : List Int}, a' ∈ l → (l.filter fun s => decide (a ≤ s)).length + 1 ≤ (l.filter fun s => decide (a' ≤ s)).length
  | [], hm => by cases hm
  | x :: l, hm => by
    have le : ∀ m : List Int, (m.filter fun s => decide (a ≤ s)).length ≤ (m.filter fun s => decide (a' ≤ s)).length := fun m => by
      induction m with
      | nil => exact Nat.le_refl _
      | cons y r ih =>
        rw [List.filter_cons, List.filter_cons]
        by_cases h1 : a ≤ y
        · have h2 : a' ≤ y := by omega
          simp [h1, h2, ih]
        · by_cases h2 : a' ≤ y
          · simp [h1, h2]
            omega
          · simp [h1, h2, ih]
    rw [List.filter_cons, List.filter_cons]
    rcases List.mem_cons.mp hm with e | hm
    · have h1 : ¬ a ≤ x := by omega
      have h2 : a' ≤ x := by omega
      have := le l
      simp [h1, h2]
      omega
    · have ih := stops_lt h hm
      by_cases h1 : a ≤ x
      · have h2 : a' ≤ x := by omega
        simp [h1, h2]
        omega
      · by_cases h2 : a' ≤ x
        · simp [h1, h2]
          omega
        · simp [h1, h2]
          omega
theorem stops_le {a a' : Int} (h : a' ≤ a) (m : List Int) : (m.filter fun s => decide (a ≤ s)).length ≤ (m.filter fun s => decide (a' ≤ s)).length := by
  induction m with
  | nil => exact Nat.le_refl _
  | cons y r ih =>
    rw [List.filter_cons, List.filter_cons]
    by_cases h1 : a ≤ y
    · have h2 : a' ≤ y := by omega
      simp [h1, h2, ih]
    · by_cases h2 : a' ≤ y
      · simp [h1, h2]
        omega
      · simp [h1, h2, ih]
theorem tabs_lst {T : List (Addr × Str)} {H : Hp} {M : Addr} {xs : List V} {o : HO} (t : Tabs T H) (h : H M = some (.lst xs)) : Tabs T (upd H M o) := fun p hp => by
  obtain ⟨ps, h1, h2, h3⟩ := t p hp
  refine ⟨ps, by rw [upd_ne (ne_of h1 h (fun z => nomatch z))]; exact h1, h2, fun pos cv hc => ?_⟩
  obtain ⟨c, e1, e2⟩ := h3 pos cv hc
  exact ⟨c, e1, by rw [upd_ne (ne_of e2 h (fun z => nomatch z))]; exact e2⟩
theorem rh_nil (rs : List RoomD) : rh rs [] = [] := by
  unfold rh
  simp
theorem layC_nil {rs : List RoomD} {kn : Cell → Bool} {c : Cell} {i : Nat} (h : layC rs kn c i = []) : ∀ k, layC rs kn c (i + k) = [] ∧ cntC rs kn c (i + k) = cntC rs kn c i
  | 0 => ⟨h, rfl⟩
  | k + 1 => by
    obtain ⟨h1, h2⟩ := layC_nil h k
    constructor
    · show rh rs ((layC rs kn c (i + k)).filter _) = []
      rw [h1]
      exact rh_nil rs
    · show cntC rs kn c (i + k) + (((layC rs kn c (i + k)).filter fun r => !kn (r, c.2 - ((i + k : Nat) : Int))).length : Int) = _
      rw [h1, h2]
      simp
theorem pair_app {α β : Type} {F : α → β → Prop} : ∀ {a : List α} {b : List β} {c : List α} {d : List β}, Paired F a b → Paired F c d → Paired F (a ++ c) (b ++ d)
  | _, _, _, _, .nil, h2 => h2
  | _, _, _, _, .cons h1 t, h2 => .cons h1 (pair_app t h2)
def spWalk (P : Program) (w : World) (K : PySem.W.Frag) (mg : Str → Option Value) (base : Heap) (j : Nat) : Sp := fun vs H Q _ => ∃ (x t st f : Addr) (rs : List RoomD) (c : Cell) (low : Int) (n : Nat) (stops : List Int) (kn : Cell → Bool), vs = [.ref x, .ref t, .int low, .ref st, .ref f] ∧ WebAt K H x rs ∧ OkWeb rs ∧ H t = some (.tup (cV c)) ∧ InR rs c.1 ∧
  c.2 - low = n ∧ H st = some (.lst (nsv stops)) ∧ stops.length ≤ 100000 ∧ LV.FV P w K mg base C8.CX0 j H f (spKn rs kn) ∧ (∀ r b b', InR rs r → low < b → b ≤ b' → (∀ s ∈ stops, ¬ (b ≤ s ∧ s ≤ b')) → kn (r, b) = kn (r, b')) ∧ Tabs (TBS K) H ∧
  ∀ H' p q m (mets : List Addr) (cs : List Cell), ExtN H H' → Tabs (TBS K) H' → H' q = some (.lst (nsv (layC rs kn c n))) → H' m = some (.lst (mets.map V.ref)) → TupsAt H' (cs.map cV) mets → (∀ e ∈ cs, InR rs e.1) → mets.length ≤ 12 * (3 + stops.length) → H' p = some (.tup [.ref q, .int (cntC rs kn c n), .ref m]) → Q (.ref p) H'
/-- the lambda of walked_down: known at one beat -/
theorem fv_wd {P : Program} {w : World} {K : PySem.W.Frag} {mg : Str → Option Value} {base : Heap} {j : Nat} {H0 H1 H2 : Hp} {f fk : Addr} {F : LV.LF} {rs : List RoomD} {kn : Cell → Bool} {at_ : Int} (hF : LV.FV P w K mg base C8.CX0 j H0 fk (spKn rs kn)) (h01 : ExtN H0 H1) (hn : ∀ b ∈ LV.cellsL F.cl, H1 b = none) (he : ∀ b, b ∉ LV.cellsL F.cl → H2 b = H1 b)
    (hsc : F.scope = scWL) (hb : ∀ (pm ctv : Value) (us : List Value), us.length = 1 → bindArgs (F.fd pm ctv) ⟨us, []⟩ = pure ([("one" : Str)].zip us)) (hbody : ∃ p1 p2 p3 p4 p5 k, F.body = .Call (.Name "known" p1) [.Tuple [.Name "one" p2, .Name "here" p3] k p4] [] p5)
    (hf : H2 f = some (LV.LamO f F)) (hc : H2 F.c = some (CodeO F.c F.qual)) (C : LV.TrackAt F.cl ["known", "here"] [.ref fk, .int at_] H2) :
    LV.FV P w K mg base C8.CX0 (j + 1) H2 f (spKr rs fun r => kn (r, at_)) := by
  obtain ⟨qual, params, body, scope, cl, c'⟩ := F
  obtain rfl : scope = scWL := hsc
  obtain ⟨p1, p2, p3, p4, p5, k, rfl⟩ := hbody
  refine LV.fv_of (N := ["one", "known", "here"]) (ps := ["one"]) (fr := ["known", "here"]) (ws := [.ref fk, .int at_]) nsWL hb (fun vs H Q E h => ?_) hf hc C fun A outer s H3 vs Q E hr e3 z hsp => ?_
  · obtain ⟨r, rfl, _⟩ := h; rfl
  · obtain ⟨r, rfl, hir, kk⟩ := hsp
    refine ⟨_, pe_callvK P w K mg base (i := 1) (CX := C8.CX0) (k := j) (E := C8.E0) hr (Nat.le_refl _) pass0 rfl (by first | exact Or.inl rfl | exact Or.inr (Or.inl rfl) | exact Or.inr (Or.inr rfl)) (pa_cons (pe_tup (pa_cons (pv 0) (pa_cons (pv 2) pa_nil))) pa_nil), ?_⟩
    have e4 : ExtN H0 (LV.drp H3 (LV.cellsL cl)) := fun b o e n => by
      have e5 := h01 b o e n
      have nb : b ∉ LV.cellsL cl := fun hb => by rw [hn b hb] at e5; cases e5
      rw [LV.drp_out nb]
      exact e3 b o (by rw [he b nb]; exact e5) n
    refine ⟨fk, _, rfl, hF.ext e4, _, rfl, _, rfl, (by show 2 ≤ sizeLine; decide), fun tp htp => ⟨extN_new (ExtN.refl _) htp, tp, (r, at_), rfl, upd_same, hir, fun H4 s4 => ?_⟩⟩
    exact kk _ (LV.same_bak ((same_new (Same.refl _) htp).trans s4))
section
variable {P : Program} {w : World} {K : PySem.W.Frag} {mg : Str → Option Value} {base : Heap}
theorem ok_walked_down (T : Tx K mg) (L : LT K mg base) (j : Nat) (hj : 2 ≤ j) : CL P w K mg base CX0 (j + 3) "walked_down" ["web", "cell", "low", "stops", "known"] (spWalk P w K mg base j) := by
  have GH := ok_rooms_heard (P := P) (w := w) (base := base) T
  have GG := ok_gone_down (P := P) (w := w) (base := base) T (j + 1) (by omega)
  have nd := sc_walked_down.nd
  have hmem : (aWD, lamQ "walked_down") ∈ lamDefs := List.mem_cons_self ..
  have TB := L.tb _ hmem
  refine CL.ofC (d := aWD) T.d_walked_down T.g_walked_down sc_walked_down b_walked_down (fun vs H Q E h => ?_) (fun A outer s H vs Q E hr h => ?_)
  · obtain ⟨x, t, st, f, rs, c, low, n, stops, kn, rfl, _⟩ := h; rfl
  · obtain ⟨x, t, st, fk, rs, c, low, n, stops, kn, rfl, hW, hok, ht, hin, hn, hst, hsl, hF, hkn, hT, k⟩ := h
    refine ⟨_, (pss_cons (ps_asg (pv 1) (pg_tup (by rfl) (pgs_cons (pg_name (i := 5) nd rfl (Or.inl rfl)) (pgs_cons (pg_name (i := 6) nd rfl (Or.inr rfl)) pgs_nil))))
      (pss_cons (ps_set (i := 7) nd rfl (Or.inl rfl) (pe_lst (pa_cons (pv 5) pa_nil)))
      (pss_cons (ps_set (i := 8) nd rfl (Or.inl rfl) pe_int)
      (pss_cons (ps_set (i := 9) nd rfl (Or.inl rfl) (pe_lst pa_nil))
      (pss_cons (ps_while PassesOwn.never (pt_cmpR (op_neD hr.units) (pv 7) (pe_lst pa_nil) (nomark _)) (pss_cons (ps_set (i := 10) nd rfl (Or.inr rfl) (pe_lc (own := [("one", 14)]) (g := gName 14) rfl nd (pi_list (pv 7)) (blkOk_by (N := N_walked_down) (sc := defScope s_walked_down) (by decide +kernel))
            (fun _ _ _ _ _ => pg_name (i := 14) nd rfl (Or.inl rfl)) (fun _ _ _ _ _ => pts_one (pt_not (pt_val (pe_callvK P w K mg base (i := 4) (CX := C8.CX0) (k := j) hr (by omega) pass0 rfl (by first | exact Or.inl rfl | exact Or.inr (Or.inl rfl) | exact Or.inr (Or.inr rfl)) (pa_cons (pe_tup (pa_cons (pv 14) (pa_cons (pv 6) pa_nil))) pa_nil))))) (fun _ _ _ _ _ => pv 14)))
      (pss_cons (ps_expr (pe_bm PySem.F.plainAttrs_list PySem.F.slot_list_extend PySem.F.type_list_extend mt_extend (pv 9) (pa_cons (pe_lc (own := [("one", 14)]) (g := gName 14) rfl nd (pi_list (pv 7)) (blkOk_by (N := N_walked_down) (sc := defScope s_walked_down) (by decide +kernel))
            (fun _ _ _ _ _ => pg_name (i := 14) nd rfl (Or.inl rfl)) (fun _ _ _ _ _ => pts_one (pt_cmpR (op_notInK K) (pv 14) (pv 10) (by rfl))) (fun _ _ _ _ _ => pe_tup (pa_cons (pv 14) (pa_cons (pv 6) pa_nil)))) pa_nil)))
      (pss_cons (ps_if (pt_cmpR op_eq (pv 6) (pv 2) (nomark _)) (pss_one (ps_break)) pss_nil)
      (pss_cons (ps_aug (i := 8) nd rfl (Or.inl rfl) (pe_callB call_len_seq (by rfl) T.f_len PySem.boot_len (pa_cons (pv 10) pa_nil)) ip_add)
      (pss_cons (ps_set (i := 7) nd rfl (Or.inl rfl) (pe_cl GH hr (by omega) pass0 (pa_cons (pv 0) (pa_cons (pv 10) pa_nil))))
      (pss_cons (ps_aug (i := 6) nd rfl (Or.inr rfl) pe_int ip_sub)
      (pss_cons (ps_set (i := 11) nd rfl (Or.inl rfl) (pe_callBK (MD.cr_maxD rfl) (by rfl) T.f_max (by decide +kernel) (pa_cons (pe_lc (own := [("beat", 15)]) (g := gName 15) rfl nd (pi_list (pv 3)) (blkOk_by (N := N_walked_down) (sc := defScope s_walked_down) (by decide +kernel))
            (fun _ _ _ _ _ => pg_name (i := 15) nd rfl (Or.inl rfl)) (fun _ _ _ _ _ => pts_one (pt_chain op_le op_le (pv 2) (pv 15) (pv 6))) (fun _ _ _ _ _ => pv 15)) pa_nil) (pk_cons (pv 2) pk_nil)))
      (pss_one (ps_if (pt_cmpR op_gt (pv 6) (pv 11) (nomark _)) (pss_cons (ps_set (i := 12) nd rfl (Or.inr rfl) (pv 6))
      (pss_cons (ps_asg (LV.pe_clU (E := C8.E0) GG hr (by omega) (js := [4, 12]) (fr := ["known", "here"]) (fun ok => Caps.made (scope := scWL) ok (ndef_free ndWL) (ndef_fr ndWL) rfl) (by decide +kernel) (clo_sub nsWL.free) (fun _ _ => rfl)
                (pa_cons (pv 0) (pa_cons (pv 7) (pa_cons (pe_op op_sub (pv 6) (pv 11)) (pa_cons (LV.pe_lamv TB rfl (tt_mem hmem) (L.hu hmem) rfl (ndef_free ndWL)) pa_nil))))) (pg_tup (by rfl) (pgs_cons (pg_name (i := 7) nd rfl (Or.inl rfl)) (pgs_cons (pg_name (i := 13) nd rfl (Or.inl rfl)) pgs_nil))))
      (pss_cons (ps_aug (i := 8) nd rfl (Or.inl rfl) (pv 13) ip_add)
      (pss_one (ps_set (i := 6) nd rfl (Or.inr rfl) (pv 11)))))) pss_nil))))))))))
      (pss_one (ps_ret (pe_tup (pa_cons (pv 7) (pa_cons (pv 8) (pa_cons (pv 9) pa_nil))))))))))), ?_⟩
    obtain ⟨cr, cb⟩ := c
    have hn : cb - low = n := hn
    have hin : InR rs cr := hin
    refine ⟨_, rfl, _, _, rfl, SqT.of ht, rfl, _, _, rfl, _, _, rfl, rfl, ?_⟩
    refine ⟨_, rfl, (by show 1 ≤ sizeLine; decide), fun R0 hR0 => ?_⟩
    refine ⟨Nat.zero_le _, fun M hM => ?_⟩
    have hM0 : H M = none := none_upd hM
    have R0M : R0 ≠ M := fun z => by rw [← z, upd_same] at hM; cases hM
    have e0 : ExtN H (upd (upd H R0 (.lst [V.int cr])) M (.lst [])) := extN_new (extN_new (ExtN.refl _) hR0) hM
    have t0 : Tabs (TBS K) (upd (upd H R0 (.lst [V.int cr])) M (.lst [])) := tabs_new (tabs_new hT hR0) hM
    have r0 : (upd (upd H R0 (.lst [V.int cr])) M (.lst [])) R0 = some (.lst (nsv (layC rs kn (cr, cb) 0))) := by
      rw [upd_ne R0M, upd_same]
      rfl
    have m0 : (upd (upd H R0 (.lst [V.int cr])) M (.lst [])) M = some (.lst []) := upd_same
    generalize upd (upd H R0 (.lst [V.int cr])) M (.lst []) = Hs at e0 t0 r0 m0 ⊢
    -- what is so at the head of each turn
    refine ⟨fun q σ Hc => ∃ (i : Nat) (R : Addr) (mets : List Addr) (cs : List Cell) (u10 u11 u12 u13 : Option V), q + i = n + 1 ∧ i ≤ n ∧ ExtN H Hc ∧ Tabs (TBS K) Hc ∧ R ≠ M ∧ mets.length ≤ 12 * (1 + (stops.filter fun s => decide (cb - (i : Int) ≤ s)).length + (if i = n then 1 else 0)) ∧ Hc R = some (.lst (nsv (layC rs kn (cr, cb) i))) ∧ Hc M = some (.lst (mets.map V.ref)) ∧ TupsAt Hc (cs.map cV) mets ∧ (∀ e ∈ cs, InR rs e.1) ∧
        σ = [some (.ref x), some (.ref t), some (.int low), some (.ref st), some (.ref fk), some (.int cr), some (.int (cb - i)), some (.ref R), some (.int (cntC rs kn (cr, cb) i)), some (.ref M), u10, u11, u12, u13, none, none],
      ⟨n + 1, 0, R0, [], [], none, none, none, none, rfl, Nat.zero_le _, e0, t0, R0M, Nat.zero_le _, r0, m0, .nil, (fun _ h => by cases h), ?_⟩, ?_⟩
    · show _ = [some (V.ref x), some (.ref t), some (.int low), some (.ref st), some (.ref fk), some (.int cr), some (.int (cb - ((0 : Nat) : Int))), some (.ref R0), some (.int 0), some (.ref M), none, none, none, none, none, none]
      rw [show cb - ((0 : Nat) : Int) = cb by omega]
      rfl
    rintro q σ Hc ⟨i, R, mets, cs, u10, u11, u12, u13, hq, hi, eH, tH, RM, ml, hR, hMc, hmt, hmi, rfl⟩
    have lsi := layC_si (rs := rs) (kn := kn) (c := (cr, cb)) hin i
    have llen : (layC rs kn (cr, cb) i).length ≤ 12 := Nat.le_trans (room_len (nodup_ints lsi.1) lsi.2) hok.2.1
    have hMN : ∀ {H' : Hp}, ExtN H H' → H' M = none → H M = none := fun _ _ => hM0
    refine ⟨_, rfl, Nat.zero_le _, fun q1 hq1 => ⟨_, _, .lst (SqL.of (by rw [upd_ne (ne_of_none hR hq1)]; exact hR)) (dpAll_ints _), .lst (SqL.of upd_same) .nil, PySem.W.ke_shaped_ints _, PySem.W.ke_shaped_ints [], _, rfl, ?_⟩⟩
    have eH1 : ExtN H (upd Hc q1 (.lst [])) := extN_new eH hq1
    have tH1 : Tabs (TBS K) (upd Hc q1 (.lst [])) := tabs_new tH hq1
    have hR1 : (upd Hc q1 (.lst [])) R = some (.lst (nsv (layC rs kn (cr, cb) i))) := by rw [upd_ne (ne_of_none hR hq1)]; exact hR
    have hM1 : (upd Hc q1 (.lst [])) M = some (.lst (mets.map V.ref)) := by rw [upd_ne (ne_of_none hMc hq1)]; exact hMc
    have hmt1 : TupsAt (upd Hc q1 (.lst [])) (cs.map cV) mets := TupsAt.same hmt fun b t e => by rw [upd_ne (ne_of_none e hq1)]; exact e
    have mlen0 : mets.length ≤ 12 * (3 + stops.length) := by
      have := List.length_filter_le (fun s => decide (cb - (i : Int) ≤ s)) stops
      refine Nat.le_trans ml ?_
      by_cases e : i = n
      · rw [if_pos e]; omega
      · rw [if_neg e]; omega
    generalize upd Hc q1 (.lst []) = H1 at eH1 tH1 hR1 hM1 hmt1 ⊢
    rw [eqv_ints_nil]
    cases hl : layC rs kn (cr, cb) i with
    | nil =>
      refine iteF ?_
      obtain ⟨g1, g2⟩ := layC_nil hl (n - i)
      have ein : i + (n - i) = n := by omega
      rw [ein] at g1 g2
      refine ⟨_, rfl, _, rfl, _, rfl, (by show 3 ≤ sizeLine; decide), fun p hp => ?_⟩
      refine k _ p R M mets cs (extN_new eH1 hp) (tabs_new tH1 hp) ?_ ?_ (TupsAt.same hmt1 fun b t e => by rw [upd_ne (ne_of_none e hp)]; exact e) hmi mlen0 ?_
      · rw [upd_ne (ne_of_none hR1 hp), g1, ← hl]
        exact hR1
      · rw [upd_ne (ne_of_none hM1 hp)]
        exact hM1
      · rw [upd_same, g2]
    | cons r0 rr =>
      rw [← hl]
      have hne : (layC rs kn (cr, cb) i).isEmpty = false := by rw [hl]; rfl
      rw [hne]
      clear hl hne
      refine iteT ?_
      refine ⟨fun σ' H' => ∃ (i' : Nat) (R : Addr) (mets : List Addr) (cs : List Cell) (u10 u11 u12 u13 : Option V), i < i' ∧ i' ≤ n ∧ ExtN H H' ∧ Tabs (TBS K) H' ∧ R ≠ M ∧ mets.length ≤ 12 * (1 + (stops.filter fun s => decide (cb - (i' : Int) ≤ s)).length + (if i' = n then 1 else 0)) ∧ H' R = some (.lst (nsv (layC rs kn (cr, cb) i'))) ∧ H' M = some (.lst (mets.map V.ref)) ∧ TupsAt H' (cs.map cV) mets ∧ (∀ e ∈ cs, InR rs e.1) ∧
        σ' = [some (.ref x), some (.ref t), some (.int low), some (.ref st), some (.ref fk), some (.int cr), some (.int (cb - i')), some (.ref R), some (.int (cntC rs kn (cr, cb) i')), some (.ref M), u10, u11, u12, u13, none, none],
        fun σ' H' ⟨i', R', mets', cs', w1, w2, w3, w4, h1, h2, h3⟩ => ⟨n + 1 - i', by omega, i', R', mets', cs', w1, w2, w3, w4, by omega, h2, h3⟩, ?_⟩
      -- run
      refine ⟨_, rfl, R, rfl, ⟨_, SqL.of hR1⟩, fun D hD => ?_⟩
      refine lc_filt (walk_list (xs := nsv (layC rs kn (cr, cb) i))) (fun a => ((layC rs kn (cr, cb) i)[a]?).bind fun r => if (!kn (r, cb - i)) = true then some (V.int r) else none) (by rw [List.length_map]; omega) hD (fun H2 s2 => SqL.of (s2 _ _ hR1)) (fun a y H2 H3 acc Nx ha s2 hacc hlen2 hy k1 k0 => ?_) (fun H2 s2 h2 => ?_)
      · obtain ⟨rfl, hyx⟩ := hy
        obtain ⟨r, hr', rfl⟩ := nsv_at hyx
        rw [hr'] at k1 k0
        refine ⟨rfl, fk, _, rfl, hF.ext (eH1.trans (ExtN.of s2)), ?_⟩
        refine ⟨_, rfl, _, rfl, (by show 2 ≤ sizeLine; decide), fun tp htp => ?_⟩
        have s3 := same_new (Same.refl H3) (o := .tup [.int r, .int (cb - i)]) htp
        refine ⟨ExtN.of s3, tp, (r, cb - i), rfl, upd_same, lsi.2 r (List.mem_of_getElem? hr'), fun H4 s4 => ⟨_, rfl, ?_⟩⟩
        have s5 := s3.trans s4
        cases hkr : kn (r, cb - i) with
        | true => exact k0 _ (by simp [hkr]) s5
        | false => exact ⟨_, rfl, acc, s5 _ _ hacc, hlen2, k1 _ _ (by simp [hkr]) s5⟩
      have eF : List.filterMap (fun a => ((layC rs kn (cr, cb) i)[a]?).bind fun r => if (!kn (r, cb - i)) = true then some (V.int r) else none) (List.range (nsv (layC rs kn (cr, cb) i)).length) = nsv ((layC rs kn (cr, cb) i).filter fun r => !kn (r, cb - i)) := by
        rw [List.length_map, filterMap_range, filterMap_if]
      rw [eF] at h2
      obtain ⟨run, hrun⟩ : ∃ run, run = (layC rs kn (cr, cb) i).filter fun r => !kn (r, cb - i) := ⟨_, rfl⟩
      rw [← hrun] at h2
      have rlen : run.length ≤ 12 := by rw [hrun]; exact Nat.le_trans (List.length_filter_le ..) llen
      have rin : ∀ r ∈ run, InR rs r := fun r hr => lsi.2 r (by rw [hrun] at hr; exact (List.mem_filter.mp hr).1)
      have ecnt : cntC rs kn (cr, cb) (i + 1) = cntC rs kn (cr, cb) i + (run.length : Int) := by rw [hrun]; rfl
      have elay : layC rs kn (cr, cb) (i + 1) = rh rs run := by rw [hrun]; rfl
      have eH2 : ExtN H H2 := eH1.trans (ExtN.of s2)
      have tH2 : Tabs (TBS K) H2 := tH1.ext s2
      have hR2 := s2 _ _ hR1
      have hM2 := s2 _ _ hM1
      have DM : D ≠ M := (ne_of_none hM1 hD).symm
      -- met
      refine ⟨_, rfl, .inl ⟨rfl, _, SqL.of hM2⟩, _, rfl, R, rfl, ⟨_, SqL.of hR2⟩, fun D2 hD2 => ?_⟩
      refine lc_tups (walk_list (xs := nsv (layC rs kn (cr, cb) i))) (fun a => ((layC rs kn (cr, cb) i)[a]?).bind fun r => if decide (r ∉ run) = true then some [V.int r, V.int (cb - i)] else none) (by rw [List.length_map]; omega) hD2 (fun H3 s3 => SqL.of (s3 _ _ hR2)) (fun a y H3 H4 acc Nx ha s3 hacc hlen2 hy k1 k0 => ?_) (fun H3 bs s3 h3 ht3 => ?_)
      · obtain ⟨rfl, hyx⟩ := hy
        obtain ⟨r, hr', rfl⟩ := nsv_at hyx
        rw [hr'] at k1 k0
        refine ⟨rfl, _, rfl, _, rfl, D, _, rfl, .inl (SqL.of (s3 _ _ h2)), rfl, flat_ints _, _, rfl, ?_⟩
        rw [inV_int]
        by_cases q : r ∈ run
        · simp only [q]
          simp
          exact k0 _ (by simp [q]) (Same.refl _)
        · simp only [q]
          simp
          refine ⟨_, rfl, _, rfl, (by show 2 ≤ sizeLine; decide), fun b hb => ?_⟩
          have s4 := same_new (Same.refl H4) (o := .tup [.int r, .int (cb - i)]) hb
          exact ⟨acc, s4 _ _ hacc, hlen2, k1 b _ _ (by simp [q]) upd_same s4⟩
      have bl : bs.length ≤ 12 := by
        rw [← Paired.length ht3]
        refine Nat.le_trans (List.length_filterMap_le _ _) ?_
        rw [List.length_range, nsv_len]
        exact llen
      have sl2 : (stops.filter fun s => decide (cb - (i : Int) ≤ s)).length ≤ 100000 := Nat.le_trans (List.length_filter_le ..) hsl
      have mlen : mets.length ≤ 1300000 := by
        refine Nat.le_trans ml ?_
        by_cases e : i = n
        · rw [if_pos e]; omega
        · rw [if_neg e]; omega
      have hM3 := s3 _ _ hM2
      have eM : List.filterMap (fun a => ((layC rs kn (cr, cb) i)[a]?).bind fun r => if decide (r ∉ run) = true then some [V.int r, V.int (cb - i)] else none) (List.range (nsv (layC rs kn (cr, cb) i)).length) = (((layC rs kn (cr, cb) i).filter fun r => decide (r ∉ run)).map fun r => ((r, cb - (i : Int)) : Cell)).map cV := by
        rw [List.length_map, filterMap_range, filterMap_if, List.map_map]
        rfl
      rw [eM] at ht3
      obtain ⟨cn, hcn⟩ : ∃ cn, cn = ((layC rs kn (cr, cb) i).filter fun r => decide (r ∉ run)).map fun r => ((r, cb - (i : Int)) : Cell) := ⟨_, rfl⟩
      rw [← hcn] at ht3
      have hcni : ∀ e ∈ cs ++ cn, InR rs e.1 := fun e he => by
        rcases List.mem_append.mp he with he | he
        · exact hmi e he
        · rw [hcn] at he
          obtain ⟨r, hr1, rfl⟩ := List.mem_map.mp he
          exact lsi.2 r (List.mem_filter.mp hr1).1
      have hmt3 : TupsAt H3 ((cs ++ cn).map cV) (mets ++ bs) := by
        rw [List.map_append]
        exact pair_app (TupsAt.same hmt1 fun b t e => s3 _ _ (s2 _ _ e)) ht3
      refine ⟨M, D2, _, _, rfl, rfl, hM3, h3, (by rw [List.length_map, List.length_map, sizeL]; omega), ?_⟩
      have eH4 : ExtN H (upd H3 M (.lst (mets.map V.ref ++ bs.map V.ref))) := fun b o e n => by
        rw [upd_ne (ne_of_none e hM0)]
        exact (eH2.trans (ExtN.of s3)) b o e n
      have tH4 : Tabs (TBS K) (upd H3 M (.lst (mets.map V.ref ++ bs.map V.ref))) := tabs_lst (tH2.ext s3) hM3
      have hR4 : (upd H3 M (.lst (mets.map V.ref ++ bs.map V.ref))) R = some (.lst (nsv (layC rs kn (cr, cb) i))) := by rw [upd_ne RM]; exact s3 _ _ hR2
      have hM4 : (upd H3 M (.lst (mets.map V.ref ++ bs.map V.ref))) M = some (.lst ((mets ++ bs).map V.ref)) := by rw [upd_same, List.map_append]
      have hmt4 : TupsAt (upd H3 M (.lst (mets.map V.ref ++ bs.map V.ref))) ((cs ++ cn).map cV) (mets ++ bs) := TupsAt.same hmt3 fun b t e => by rw [upd_ne (ne_of e hM3 (fun z => nomatch z))]; exact e
      have hD4 : (upd H3 M (.lst (mets.map V.ref ++ bs.map V.ref))) D = some (.lst (nsv run)) := by rw [upd_ne DM]; exact s3 _ _ h2
      have ml4 : (mets ++ bs).length ≤ 12 * (2 + (stops.filter fun s => decide (cb - (i : Int) ≤ s)).length + (if i = n then 1 else 0)) := by
        rw [List.length_append]
        omega
      generalize upd H3 M (.lst (mets.map V.ref ++ bs.map V.ref)) = H4 at eH4 tH4 hR4 hM4 hD4 hmt4 ⊢
      obtain ⟨mets2, hmets2⟩ : ∃ mets2, mets2 = mets ++ bs := ⟨_, rfl⟩
      rw [← hmets2] at hM4 ml4 hmt4
      clear hmets2 hmt3
      obtain ⟨cs2, hcs2⟩ : ∃ cs2, cs2 = cs ++ cn := ⟨_, rfl⟩
      rw [← hcs2] at hmt4 hcni
      clear hcs2 hcn
      -- at == low
      refine ⟨_, rfl, _, rfl, rfl, _, rfl, ?_⟩
      rw [dV]
      by_cases hin2 : i = n
      · refine iteDT (by omega) ?_
        refine ⟨_, rfl, _, rfl, _, rfl, (by show 3 ≤ sizeLine; decide), fun p hp => ?_⟩
        subst hin2
        exact k _ p R M mets2 cs2 (extN_new eH4 hp) (tabs_new tH4 hp) (by rw [upd_ne (ne_of_none hR4 hp)]; exact hR4) (by rw [upd_ne (ne_of_none hM4 hp)]; exact hM4) (TupsAt.same hmt4 fun b t e => by rw [upd_ne (ne_of_none e hp)]; exact e) hcni (by
          have := List.length_filter_le (fun s => decide (cb - (i : Int) ≤ s)) stops
          refine Nat.le_trans ml4 ?_
          rw [if_pos rfl]
          omega) upd_same
      · have hlt : i < n := by omega
        refine iteDF (by omega) ?_
        rw [if_neg hin2] at ml4
        -- many, rooms, at
        refine ⟨_, rfl, _, rfl, D, _, rfl, .inl (SqL.of hD4), _, _, rfl, rfl, ?_⟩
        refine ⟨_, rfl, _, rfl, x, D, rs, run, rfl, hW.ext eH4, hok, hD4, rin, by omega, fun H5 p5 s5 np5 hp5 => ?_⟩
        rw [← elay] at hp5
        have eH5 := eH4.trans (ExtN.of s5)
        have tH5 := tH4.ext s5
        have hM5 := s5 _ _ hM4
        have p5M : p5 ≠ M := (ne_of_none hM4 np5).symm
        refine ⟨_, rfl, _, _, rfl, rfl, ?_⟩
        -- stop
        have hst5 := extN_get eH5 hst
        refine ⟨_, rfl, st, rfl, ⟨_, SqL.of hst5⟩, fun D3 hD3 => ?_⟩
        refine lc_filt (walk_list (xs := nsv stops)) (fun a => (stops[a]?).bind fun s => if (decide (low ≤ s) && decide (s ≤ cb - (i : Int) - 1)) = true then some (V.int s) else none) (by rw [List.length_map]; omega) hD3 (fun H6 s6 => SqL.of (s6 _ _ hst5)) (fun a y H6 H7 acc Nx ha s6 hacc hlen2 hy k1 k0 => ?_) (fun H6 s6 h6 => ?_)
        · obtain ⟨rfl, hyx⟩ := hy
          obtain ⟨s, hs', rfl⟩ := nsv_at hyx
          rw [hs'] at k1 k0
          refine ⟨rfl, _, rfl, _, rfl, _, _, rfl, rfl, _, rfl, ?_⟩
          by_cases q1 : low ≤ s
          · refine iteDT q1 ⟨_, rfl, _, _, rfl, rfl, _, rfl, ?_⟩
            by_cases q2 : s ≤ cb - (i : Int) - 1
            · refine iteDT q2 ?_
              exact ⟨_, rfl, acc, hacc, hlen2, k1 _ _ (by simp [q1, q2]) (Same.refl _)⟩
            · refine iteDF q2 ?_
              exact k0 _ (by simp [q2]) (Same.refl _)
          · refine iteDF q1 ?_
            exact ⟨_, rfl, k0 _ (by simp [q1]) (Same.refl _)⟩
        have eS : List.filterMap (fun a => (stops[a]?).bind fun s => if (decide (low ≤ s) && decide (s ≤ cb - (i : Int) - 1)) = true then some (V.int s) else none) (List.range (nsv stops).length) = nsv (stops.filter fun s => decide (low ≤ s) && decide (s ≤ cb - (i : Int) - 1)) := by
          rw [List.length_map, filterMap_range, filterMap_if]
        rw [eS] at h6
        have eH6 := eH5.trans (ExtN.of s6)
        have tH6 := tH5.ext s6
        have hM6 := s6 _ _ hM5
        have hp6 := s6 _ _ hp5
        refine ⟨_, rfl, D3, _, low, rfl, rfl, SqL.of h6, fun mx hmx => ?_⟩
        have mem : ∀ s, s ∈ (stops.filter fun s => decide (low ≤ s) && decide (s ≤ cb - (i : Int) - 1)) ↔ s ∈ stops ∧ low ≤ s ∧ s ≤ cb - (i : Int) - 1 := fun s => by
          rw [List.mem_filter]
          simp
        have mx1 : low ≤ mx ∧ mx ≤ cb - (i : Int) - 1 ∧ (mx ∈ stops ∨ mx = low) ∧ ∀ s ∈ stops, low ≤ s → s ≤ cb - (i : Int) - 1 → s ≤ mx := by
          rcases hmx with ⟨h1, h2⟩ | ⟨h1, h2⟩
          · refine ⟨by omega, by omega, .inr h2, fun s hs a b => ?_⟩
            have := (mem s).mpr ⟨hs, a, b⟩
            rw [h1] at this
            cases this
          · obtain ⟨a1, a2, a3⟩ := (mem mx).mp h1
            exact ⟨a2, a3, .inl a1, fun s hs a b => h2 s ((mem s).mpr ⟨hs, a, b⟩)⟩
        obtain ⟨mx2, mx3, mx4, mx5⟩ := mx1
        have mlx : ∀ i' : Nat, (cb - (i' : Int)) = mx → mets2.length ≤ 12 * (1 + (stops.filter fun s => decide (cb - (i' : Int) ≤ s)).length + (if i' = n then 1 else 0)) := fun i' e => by
          rcases mx4 with h | h
          · have h5 := stops_lt (a := cb - (i : Int)) (a' := cb - (i' : Int)) (by omega) (l := stops) (by rw [e]; exact h)
            omega
          · have h5 := stops_le (a := cb - (i : Int)) (a' := cb - (i' : Int)) (by omega) stops
            have : i' = n := by omega
            rw [if_pos this]
            omega
        refine ⟨_, rfl, _, rfl, _, _, rfl, rfl, _, rfl, ?_⟩
        by_cases hgt : mx < cb - (i : Int) - 1
        · refine iteDT hgt ?_
          refine ⟨_, rfl, ?_⟩
          refine ⟨_, rfl, _, rfl, _, rfl, _, rfl, _, _, rfl, rfl, tH6, fun f c' H7 e7 n7 t7 f7 hf7 hc7 => ⟨fun jj hjj => ?_, fun H8 hn8 he8 C8 => ?_⟩⟩
          · rcases List.mem_cons.mp hjj with rfl | hjj
            · exact ⟨_, rfl⟩
            · rcases List.mem_cons.mp hjj with rfl | hjj
              · exact ⟨_, rfl⟩
              · cases hjj
          have eH7 := eH6.trans e7
          have s78 : Same H7 H8 := fun b o e => by
            rw [he8 b (fun hb => by rw [hn8 b hb] at e; cases e)]
            exact e
          have eH8 := eH7.trans (ExtN.of s78)
          have kk2 : ((cb - (i : Int) - 1 - mx).toNat : Int) = cb - (i : Int) - 1 - mx := Int.toNat_of_nonneg (by omega)
          have lsi1 := layC_si (rs := rs) (kn := kn) (c := (cr, cb)) hin (i + 1)
          refine ⟨x, p5, f, rs, layC rs kn (cr, cb) (i + 1), (cb - (i : Int) - 1 - mx).toNat, fun r => kn (r, cb - (i : Int) - 1), ?_, hW.ext eH8, hok, s78 _ _ (extN_get e7 hp6), lsi1, ?_, fun H9 p9 q9 s9 np9 or9 hq9 hp9 => ?_⟩
          · rw [kk2]
          · exact fv_wd hF eH7 hn8 he8 rfl (fun pm ctv us hl => match us, hl with | [_], _ => rfl) ⟨_, _, _, _, _, _, rfl⟩ (s78 _ _ hf7) (s78 _ _ hc7) C8
          · intro Hd sd1 _ sd2 sd3
            have s7d := sd1 s9
            have hqd := sd3 (ExtN.of s9) _ _ (fun _ _ z => by cases z) hq9
            have hpd := sd3 (ExtN.of s9) _ _ (fun _ _ z => by cases z) hp9
            have eHd := eH7.trans (ExtN.of s7d)
            have tHd := t7.ext s7d
            have hMd := s7d _ _ (extN_get e7 hM6)
            have q9M : q9 ≠ M := by
              rcases or9 with z | z
              · rw [z]; exact p5M
              · exact (ne_of_none (s78 _ _ (extN_get e7 hM6)) z).symm
            refine ⟨p9, _, rfl, SqT.of hpd, rfl, _, _, rfl, _, _, rfl, rfl, ?_⟩
            refine ⟨_, rfl, _, rfl, _, _, rfl, rfl, ?_⟩
            refine ⟨_, rfl, ?_⟩
            obtain ⟨n', hn'⟩ : ∃ n', n' = (cb - (i : Int) - 1 - mx).toNat := ⟨_, rfl⟩
            rw [← hn'] at kk2 hqd
            have hll := layC_lay (rs := rs) (kn := kn) (kr := fun r => kn (r, cb - (i : Int) - 1)) (c := (cr, cb)) hin (i + 1) n' (fun kx hk r hr => ?_) n' (Nat.le_refl _)
            · refine ⟨i + 1 + n', q9, mets2, cs2, some (.ref D), some (.int mx), some (.int (cb - (i : Int) - 1)), some (.int (cnt rs (fun r => kn (r, cb - (i : Int) - 1)) (layC rs kn (cr, cb) (i + 1)) n')), by omega, by omega, eHd, tHd, q9M, mlx (i + 1 + n') (by omega), by rw [hll.1]; exact hqd, hMd, TupsAt.same hmt4 fun b t e => s7d _ _ (extN_get e7 (s6 _ _ (s5 _ _ e))), hcni, ?_⟩
              rw [hll.2, ecnt, ← nsv_len run, hn', show cb - ((i + 1 + (cb - (i : Int) - 1 - mx).toNat : Nat) : Int) = mx by omega]
              rfl
            · refine hkn r _ _ hr (by show low < cb - ((i + 1 + kx : Nat) : Int); omega) (by show cb - ((i + 1 + kx : Nat) : Int) ≤ _; omega) fun s hs h => ?_
              have h1 : cb - ((i + 1 + kx : Nat) : Int) ≤ s := h.1
              have h5 := mx5 s hs (by omega) h.2
              omega
        · refine iteDF (by omega) ?_
          refine ⟨i + 1, p5, mets2, cs2, some (.ref D), some (.int mx), u12, u13, by omega, by omega, eH6, tH6, p5M, mlx (i + 1) (by omega), hp6, hM6, TupsAt.same hmt4 fun b t e => s6 _ _ (s5 _ _ e), hcni, ?_⟩
          rw [ecnt, ← nsv_len run, show cb - ((i + 1 : Nat) : Int) = cb - (i : Int) - 1 by omega]
          rfl
end
end S
set_option Elab.async false
set_option linter.all false
set_option maxRecDepth 100000
set_option maxHeartbeats 4000000
/-! # run_many -/
namespace S
open PySem PySem.Spec PyProof.Rows L2 G LamX NdefX
/-- a def f(web, room, beat, *, pokes=None) -/
structure PK (P : Program) (w : World) (K : PySem.W.Frag) (mg : Str → Option Value) (base : Heap) (k : Nat) (x : Str) (sp : Sp) : Prop where
  ex : ∃ f fd mv, FnOk P w K mg base CX0 k f fd ["web", "room", "beat", "pokes"] sp ∧ mg x = some (.ref f) ∧ PySem.W.keepIn K (.ref f) = true ∧ KBn K fd ["web", "room", "beat", "pokes"] 3 ["pokes"] (fun us ws => (fun us mv ws => us ++ (mv ++ ws)) us mv ws) (fun vs zs => (fun vs (mz : List V) zs => vs ++ (mz ++ zs)) vs (([] : List (Str × V)).map (·.2)) zs)
theorem kb_run {K : PySem.W.Frag} {f : Addr} {fd : FuncData} (F : FunD K "run_many" "run_many" (defArgs s_run_many) (defBody s_run_many) (defScope s_run_many) (d_run_many.dvs K) (d_run_many.kws K) f fd) :
    ∃ mv, KBn K fd ["web", "room", "beat", "pokes"] 3 ["pokes"] (fun us ws => (fun us mv ws => us ++ (mv ++ ws)) us mv ws) (fun vs zs => (fun vs (mz : List V) zs => vs ++ (mz ++ zs)) vs (([] : List (Str × V)).map (·.2)) zs) := by
  refine FunD.kbinds0 (F := F) 3 ["pokes"] [] (fun us mv ws => us ++ (mv ++ ws)) (fun e => nomatch e) (fun q hq => nomatch hq) (fun h1 h2 h3 => h1.append (h2.append h3)) (fun D doc pm an cdv ct us mv ws h1 h2 h3 => ?_)
  match us, mv, ws, h1, h2, h3 with
  | [a, b, c], [], [d], _, _, _ => exact rfl
theorem kb_needed {K : PySem.W.Frag} {f : Addr} {fd : FuncData} (F : FunD K "needed" "needed" (defArgs s_needed) (defBody s_needed) (defScope s_needed) (d_needed.dvs K) (d_needed.kws K) f fd) :
    ∃ mv, KBn K fd ["web", "room", "beat", "pokes"] 3 ["pokes"] (fun us ws => (fun us mv ws => us ++ (mv ++ ws)) us mv ws) (fun vs zs => (fun vs (mz : List V) zs => vs ++ (mz ++ zs)) vs (([] : List (Str × V)).map (·.2)) zs) := by
  refine FunD.kbinds0 (F := F) 3 ["pokes"] [] (fun us mv ws => us ++ (mv ++ ws)) (fun e => nomatch e) (fun q hq => nomatch hq) (fun h1 h2 h3 => h1.append (h2.append h3)) (fun D doc pm an cdv ct us mv ws h1 h2 h3 => ?_)
  match us, mv, ws, h1, h2, h3 with
  | [a, b, c], [], [d], _, _, _ => exact rfl
section
variable {X : Cx} {k j : Nat} {x : Str} {sp : Sp} {p pos : Pos} {e : Expr} {es : List Expr} {kws : List Keyword} {t tk : TA}
theorem pe_pk (c : PK X.prog X.w X.K X.mg X.base k x sp) (hr : Room j X.A) (hj : k ≤ j) (ha : PA X (e :: es) t) (hkw : L2.PK X kws tk) (hg : Gl X x := by rfl) (hall : (backToKw pos (keywordEach kws X.env)).all (·.1.isSome) = true := by rfl) (hks : (backToKw pos (keywordEach kws X.env)).filterMap (·.1) = [("pokes" : Str)] := by rfl)
    (hdb : (x == ("__debug__" : Str)) = false := by decide) (he : starEach (e :: es) X.env = (false, eval e X.env) :: starEach es X.env := by rfl)
    (hpl : ((backTo pos (starEach (e :: es) X.env)).any (·.1) || (backToKw pos (keywordEach kws X.env)).any (·.1.isNone)) = false := by rfl) :
    PE X (.Call (.Name x p) (e :: es) kws pos) (L2.tCallN 3 1 sp (fun vs zs => vs ++ zs) C8.E0 t tk) := by
  obtain ⟨f, fd, mv, F, hm, kp, hb⟩ := c.ex
  exact L2.pe_callN (ks := ["pokes"]) F (hr.mono hj) hg hm kp hb pass0 ha hkw hall hks hdb he hpl
end
abbrev scRM : Scope := { kind := .function, names := [("one", .local), ("pokes", .free), ("is_known", .globalImplicit)], isGenerator := false, isCoroutine := false }
theorem ndRM : ndefB (defScope s_run_many) scRM ["pokes"] = true := by decide +kernel
theorem ndND : ndefB (defScope s_needed) scRM ["pokes"] = true := by decide +kernel
theorem nsRM : NScope ["one", "pokes"] ["one"] ["pokes"] scRM := nscope_by (by decide +kernel)
theorem tabs_sd {T : List (Addr × Str)} {H Hd : Hp} (t : Tabs T H) (s : ∀ b o, (∀ ob u, o ≠ .frz ob u) → H b = some o → Hd b = some o) : Tabs T Hd := fun p hp => by
  obtain ⟨ps, h1, h2, h3⟩ := t p hp
  refine ⟨ps, s _ _ (fun _ _ z => by cases z) h1, h2, fun pos cv hc => ?_⟩
  obtain ⟨c, e1, e2⟩ := h3 pos cv hc
  exact ⟨c, e1, s _ _ (fun _ _ z => by cases z) e2⟩
/-- the lambda of run_many and needed: is_known by the pokes -/
theorem fv_rm {P : Program} {w : World} {K : PySem.W.Frag} {mg : Str → Option Value} {base : Heap} {H0 H1 H2 : Hp} {f : Addr} {F : LV.LF} {rs : List RoomD} {pk : V} {es : List Ent} (T : Tx K mg) (hpk : PkAt H0 pk es) (h01 : ExtN H0 H1) (hn : ∀ b ∈ LV.cellsL F.cl, H1 b = none) (he : ∀ b, b ∉ LV.cellsL F.cl → H2 b = H1 b)
    (hsc : F.scope = scRM) (hb : ∀ (pm ctv : Value) (us : List Value), us.length = 1 → bindArgs (F.fd pm ctv) ⟨us, []⟩ = pure ([("one" : Str)].zip us)) (hbody : ∃ p1 p2 p3 p4, F.body = .Call (.Name "is_known" p1) [.Name "one" p2, .Name "pokes" p3] [] p4)
    (hf : H2 f = some (LV.LamO f F)) (hc : H2 F.c = some (CodeO F.c F.qual)) (C : LV.TrackAt F.cl ["pokes"] [pk] H2) :
    LV.FV P w K mg base C8.CX0 2 H2 f (spKn rs (knP es)) := by
  have GK : CL P w K mg base CX0 1 "is_known" ["cell", "pokes"] spIsKnown := ok_is_known T
  obtain ⟨qual, params, body, scope, cl, c'⟩ := F
  obtain rfl : scope = scRM := hsc
  obtain ⟨p1, p2, p3, p4, rfl⟩ := hbody
  refine LV.fv_of (k := 1) (N := ["one", "pokes"]) (ps := ["one"]) (fr := ["pokes"]) (ws := [pk]) nsRM hb (fun vs H Q E h => ?_) hf hc C fun A outer s H3 vs Q E hr e3 z hsp => ?_
  · obtain ⟨r, c, rfl, _⟩ := h; rfl
  · obtain ⟨t, c, rfl, ht, hir, kk⟩ := hsp
    refine ⟨_, pe_cl (E := C8.E0) GK hr (Nat.le_refl _) pass0 (pa_cons (pv 0) (pa_cons (pv 1) pa_nil)), ?_⟩
    have e4 : ExtN H0 (LV.drp H3 (LV.cellsL cl)) := fun b o e n => by
      have e5 := h01 b o e n
      have nb : b ∉ LV.cellsL cl := fun hb => by rw [hn b hb] at e5; cases e5
      rw [LV.drp_out nb]
      exact e3 b o (by rw [he b nb]; exact e5) n
    refine ⟨_, rfl, _, rfl, t, pk, c, es, rfl, z.keep ht (fun _ _ q => by cases q), hpk.same (fun b kvs e => extN_get e4 e), ?_⟩
    exact kk _ (LV.same_bak (Same.refl _))
theorem knP_flat (rs : List RoomD) (es : List Ent) : ∀ r b b' : Int, InR rs r → 0 < b → b ≤ b' → (∀ s ∈ es.map (fun e => e.1.2), ¬ (b ≤ s ∧ s ≤ b')) → knP es (r, b) = knP es (r, b') := by
  intro r b b' _ h0 hb hs
  have no : ∀ c, b ≤ c → c ≤ b' → knP es (r, c) = false := fun c h1 h2 => by
    unfold knP
    have e1 : decide (c = 0) = false := decide_eq_false (by omega)
    show (decide (c = 0) || _) = false
    rw [e1, Bool.false_or]
    unfold lkP
    cases e : es.find? fun e => decide (e.1 = (r, c)) with
    | none => rfl
    | some a =>
      have h3 := List.find?_some e
      have h4 := List.mem_of_find?_eq_some e
      have h5 : a.1 = (r, c) := of_decide_eq_true h3
      have := hs a.1.2 (List.mem_map.mpr ⟨a, h4, rfl⟩)
      rw [h5] at this
      exact absurd ⟨h1, h2⟩ this
  rw [no b (Int.le_refl _) hb, no b' hb (Int.le_refl _)]
section
variable {P : Program} {w : World} {K : PySem.W.Frag} {mg : Str → Option Value} {base : Heap}
def spRun (K : PySem.W.Frag) : Sp := fun vs H Q _ => ∃ (x : Addr) (rs : List RoomD) (room beat : Int) (v : V) (es : List Ent), vs = [.ref x, .int room, .int beat, v] ∧ WebAt K H x rs ∧ OkWeb rs ∧ InR rs room ∧ 0 ≤ beat ∧ beat ≤ 10 ^ 60 ∧ PkAt H v es ∧ es.length ≤ 1000 ∧ Tabs (TBS K) H ∧
  ∀ H', ExtN H H' → Tabs (TBS K) H' → Q (.int (cntC rs (knP es) (room, beat) beat.toNat)) H'
theorem ok_run_many (T : Tx K mg) (L : LT K mg base) : PK P w K mg base 6 "run_many" (spRun K) := by
  have GC := ok_look_cell (P := P) (w := w) (base := base) T
  have GB := ok_poked_beats (P := P) (w := w) (base := base) T
  have GW := ok_walked_down (P := P) (w := w) T L 2 (by decide)
  have nd := sc_run_many.nd
  have hmem : (aRM, lamQ "run_many") ∈ lamDefs := List.mem_cons_of_mem _ (List.mem_cons_self ..)
  have TB := L.tb _ hmem
  obtain ⟨fd, F⟩ := T.d_run_many
  obtain ⟨mv, hb⟩ := kb_run F
  refine ⟨_, fd, mv, fn_bodyC (d := aRM) F sc_run_many (fun vs H Q E h => ?_) (fun A outer s H vs Q E hr h => ?_), T.g_run_many, F.kp, hb⟩
  · obtain ⟨x, rs, room, beat, v, es, rfl, _⟩ := h; rfl
  · obtain ⟨x, rs, room, beat, v, es, rfl, hW, hok, hin, hb0, hb1, hpk, hel, hT, k⟩ := h
    refine ⟨_, (pss_cons (ps_expr (pe_cl GC hr (by decide) pass0 (pa_cons (pv 0) (pa_cons (pv 1) (pa_cons (pv 2) pa_nil)))))
      (pss_one (ps_ret (pe_ix ix_tup (LV.pe_clU (E := C8.E0) GW hr (by decide) (js := [3]) (fr := ["pokes"]) (fun ok => Caps.made (scope := scRM) ok (ndef_free ndRM) (ndef_fr ndRM) rfl) (by decide +kernel) (clo_sub nsRM.free) (fun _ _ => rfl)
          (pa_cons (pv 0) (pa_cons (pe_tup (pa_cons (pv 1) (pa_cons (pv 2) pa_nil))) (pa_cons pe_int (pa_cons (pe_cl GB hr (by decide) pass0 (pa_cons (pv 3) pa_nil)) (pa_cons (LV.pe_lamv TB rfl (tt_mem hmem) (L.hu hmem) rfl (ndef_free ndRM)) pa_nil)))))) pe_int (fun _ _ => rfl))))), ?_⟩
    obtain ⟨i0, i1⟩ := id hin
    refine ⟨_, rfl, _, rfl, _, rfl, x, rs, room, beat, rfl, hW, i0, i1, hb0, hb1, ?_⟩
    refine ⟨_, rfl, _, rfl, _, rfl, (by show 2 ≤ sizeLine; decide), fun t ht => ?_⟩
    have s1 := same_new (Same.refl H) (o := .tup [.int room, .int beat]) ht
    refine ⟨_, rfl, v, es, rfl, hpk.same (fun b kvs e => s1 _ _ e), hel, fun H2 p s2 np hp => ?_⟩
    have s3 := s1.trans s2
    refine ⟨hT.ext s3, fun f c' H7 e7 n7 t7 f7 hf7 hc7 => ⟨fun jj hjj => ?_, fun H8 hn8 he8 C8 => ?_⟩⟩
    · rcases List.mem_cons.mp hjj with rfl | hjj
      · exact ⟨_, rfl⟩
      · cases hjj
    have s78 : Same H7 H8 := fun b o e => by
      rw [he8 b (fun hb => by rw [hn8 b hb] at e; cases e)]
      exact e
    have e37 : ExtN H H7 := (ExtN.of s3).trans e7
    have e38 := e37.trans (ExtN.of s78)
    refine ⟨x, t, p, f, rs, (room, beat), 0, beat.toNat, es.map (fun e => e.1.2), knP es, rfl, hW.ext e38, hok, s78 _ _ (extN_get e7 (s2 _ _ upd_same)), hin, (by show beat - 0 = _; omega), s78 _ _ (extN_get e7 hp), (by rw [List.length_map]; omega), ?_, knP_flat rs es, t7.ext s78, fun H9 p9 q9 m9 mets cs9 e9 t9 hq9 hm9 _ _ _ hp9 => ?_⟩
    · exact fv_rm T hpk e37 hn8 he8 rfl (fun pm ctv us hl => match us, hl with | [_], _ => rfl) ⟨_, _, _, _, rfl⟩ (s78 _ _ hf7) (s78 _ _ hc7) C8
    · intro Hd _ sd1 sd2 sd3
      have hpd := sd3 e9 _ _ (fun _ _ z => by cases z) hp9
      exact ⟨_, _, _, _, rfl, rfl, SqT.of hpd, atI_nat (j := 1) rfl, k Hd (e37.trans (sd1 e9)) (tabs_sd t9 (sd3 e9))⟩
end
end S
set_option Elab.async false
set_option linter.all false
set_option maxRecDepth 100000
set_option maxHeartbeats 4000000
/-! # cells_needed, needed -/
namespace S
open PySem PySem.Spec PyProof.Rows L2 G LamX NdefX SrtO
section
variable {J : It} {n : Nat} {Gd : Hp → Prop} {Y : Nat → Hp → V → Hp → Prop}
theorem dcT_it (w : Walk J n Gd Y) {g : TG} {tt : TT} {tk tv : TE} {vs : List Nat} {σ : L2.St} {H1 : Hp} {D : Addr} {Qd : Hp → Prop} (Pv : Nat → Hp → Prop) (h0 : Pv 0 (upd H1 D (.dT []))) (hG : ∀ i H, i ≤ n → Pv i H → Gd H)
    (hs : ∀ i x H H', i < n → Pv i H → Y i H x H' → g x (wipe σ vs) H' fun σ2 H2 => wipe σ2 vs = wipe σ vs ∧ tt σ2 H2 fun b H3 =>
      if b = true then tk σ2 H3 fun y H4 => tv σ2 H4 fun z H5 => ∃ kvs k b, y = .ref b ∧ H5 b = some (.tup (k.map kV)) ∧ H5 D = some (.dT kvs) ∧ kvs.length < sizeLine ∧ Pv (i + 1) (upd H5 D (.dT (putK kvs k z))) else Pv (i + 1) H3) (hd : ∀ H, Pv n H → Qd H) :
    ∃ W : Nat → Nat → Hp → Prop, (∃ m, W 0 m (upd H1 D (.dT []))) ∧ ∀ i m H, W i m H →
      (J.stop i H ∧ Qd H) ∨ (J.go i H ∧ ∃ Nx : Hp → Prop, (∀ H', Nx H' → ∃ m', m' < m ∧ W (i + 1) m' H') ∧ ∀ x H', J.yld i H x H' → g x (wipe σ vs) H' fun σ2 H2 => wipe σ2 vs = wipe σ vs ∧ tt σ2 H2 fun b H3 =>
        if b = true then tk σ2 H3 fun y H4 => tv σ2 H4 fun z H5 => ∃ kvs k b, y = .ref b ∧ H5 b = some (.tup (k.map kV)) ∧ H5 D = some (.dT kvs) ∧ kvs.length < sizeLine ∧ Nx (upd H5 D (.dT (putK kvs k z))) else Nx H3) := by
  refine ⟨fun i m H => m = n - i ∧ i ≤ n ∧ Pv i H, ⟨n, by simp, Nat.zero_le _, h0⟩, ?_⟩
  rintro i m H ⟨rfl, hi, p⟩
  have q := hG i H hi p
  by_cases hlt : i < n
  · refine .inr ⟨w.goes i H hlt q, Pv (i + 1), fun H' p' => ⟨n - (i + 1), by omega, rfl, hlt, p'⟩, fun x H' y => hs i x H H' hlt p (w.yields i H x H' hlt q y)⟩
  · have e : i = n := by omega
    subst e
    exact .inl ⟨w.stops H q, hd H p⟩
end
theorem hu2_of {k : Nat} {A : Around} (hr : Room k A) : A.units + 2 < cLine := by
  have := hr.units
  omega
/-! ### comparisons of lists of cells -/
theorem eqv_nil (ds : List PyData) : PyData.eqv (.list ds) (.list []) = ds.isEmpty := by
  cases ds with
  | nil => rfl
  | cons a r => rfl
abbrev cD (c : Cell) : PyData := .tuple [.int c.1, .int c.2]
theorem dpAll_cells {K : PySem.W.Frag} {H : Hp} : ∀ {cs : List Cell} {bs : List Addr}, TupsAt H (cs.map cV) bs → DpAll K H (bs.map V.ref) (cs.map cD)
  | [], [], _ => .nil
  | c :: cs, b :: bs, h => by
    cases h with
    | cons h1 h2 => exact .cons (.tup (SqT.of h1) (.cons (.int _) (.cons (.int _) .nil))) (dpAll_cells h2)
abbrev iD (l : List Int) : PyData := .tuple (l.map PyData.int)
theorem lay_tups : ∀ ls : List (List Int), PyData.canLayAll0 (ls.map iD) = true
  | [] => rfl
  | l :: r => by simp [PyData.canLayAll0, PyData.canLay0, lay_tups r, PySem.W.ke_canLayAll0]
theorem depth_tups : ∀ ls : List (List Int), PyData.depthAll (ls.map iD) ≤ 1
  | [] => by simp [PyData.depthAll]
  | l :: r => by
    have := depth_tups r
    simp [PyData.depthAll, PyData.depth, PySem.W.ke_depthAll]
    omega
theorem shaped_tups (ls : List (List Int)) : SeqAt.shaped (.list (ls.map iD)) = true := by
  have := depth_tups ls
  simp [SeqAt.shaped, PyData.canLay0, PyData.depth, lay_tups]
  omega
theorem shaped_cells (cs : List Cell) : SeqAt.shaped (.list (cs.map cD)) = true := by
  have h := shaped_tups (cs.map fun c => [c.1, c.2])
  rw [List.map_map] at h
  exact h
/-! ### pairs of lists -/
section
variable {α β γ : Type} {F : α → β → Prop}
theorem pm1 {f : γ → α} : ∀ {l : List γ} {m : List β}, Paired F (l.map f) m → Paired (fun a b => F (f a) b) l m
  | [], [], _ => .nil
  | a :: l, b :: m, h => by
    cases h with
    | cons h1 h2 => exact .cons h1 (pm1 h2)
theorem pm2 {f : γ → α} : ∀ {l : List γ} {m : List β}, Paired (fun a b => F (f a) b) l m → Paired F (l.map f) m
  | [], [], _ => .nil
  | a :: l, b :: m, h => by
    cases h with
    | cons h1 h2 => exact .cons h1 (pm2 h2)
theorem pm_snoc {a : α} : ∀ {l : List α} {m : List β}, Paired F (l ++ [a]) m → ∃ m' b, m = m' ++ [b] ∧ Paired F l m' ∧ F a b
  | [], m, h => by
    cases h with
    | cons h1 h2 =>
      cases h2
      exact ⟨[], _, rfl, .nil, h1⟩
  | x :: l, m, h => by
    cases h with
    | cons h1 h2 =>
      obtain ⟨m', b, rfl, h3, h4⟩ := pm_snoc h2
      exact ⟨_ :: m', b, rfl, .cons h1 h3, h4⟩
theorem pm_app : ∀ {l l2 : List α} {m m2 : List β}, Paired F l m → Paired F l2 m2 → Paired F (l ++ l2) (m ++ m2)
  | _, _, _, _, .nil, h2 => h2
  | _, _, _, _, .cons h1 h, h2 => .cons h1 (pm_app h h2)
end
abbrev fkv (c : Cell) : List L2.Key × V := (cK c, V.non)
theorem valV_F (c : Cell) : ∀ F : List Cell, valV (F.map fkv) (cK c) = if c ∈ F then some V.non else none
  | [] => by simp [valV_nil]
  | d :: F => by
    rw [List.map_cons]
    by_cases h : d = c
    · rw [valV_pos (by rw [h])]
      simp [h]
    · rw [valV_neg (fun z => h (cK_inj z)), valV_F c F]
      have h' : ¬ c = d := fun z => h z.symm
      simp [h']
/-- the loop's lists -/
structure CNv (H0 Hc : Hp) (D Wt : Addr) (rs : List RoomD) (kn : Cell → Bool) (cs U F W : List Cell) (ws : List Addr) : Prop where
  sm : Same H0 Hc
  d0 : H0 D = none
  w0 : H0 Wt = none
  hd : Hc D = some (.dT (F.map fkv))
  hw : Hc Wt = some (.lst (ws.map V.ref))
  tw : TupsAt Hc (W.map cV) ws
  fn : F.Nodup
  wn : W.Nodup
  fU : ∀ c ∈ F, c ∈ U
  wF : ∀ c ∈ W, c ∈ F
  cF : ∀ c ∈ cs, c ∈ F
  cl : ∀ c ∈ F, c ∉ W → kn c = false → ∀ h ∈ (rAt rs c.1).hears, (h, c.2 - 1) ∈ F
theorem CNv.same {H0 H1 H2 : Hp} {D Wt : Addr} {rs : List RoomD} {kn : Cell → Bool} {cs U F W : List Cell} {ws : List Addr} (g : CNv H0 H1 D Wt rs kn cs U F W ws) (s : Same H1 H2) : CNv H0 H2 D Wt rs kn cs U F W ws := by
  obtain ⟨a1, a2, a3, a4, a5, a6, a7, a8, a9, b1, b2, b3⟩ := g
  exact ⟨a1.trans s, a2, a3, s _ _ a4, s _ _ a5, a6.same fun b t e => s _ _ e, a7, a8, a9, b1, b2, b3⟩
theorem cell_len {l D : List Cell} (hn : l.Nodup) (hs : ∀ x ∈ l, x ∈ D) : l.length ≤ D.length := by
  induction l generalizing D with
  | nil => exact Nat.zero_le _
  | cons x l ih =>
    obtain ⟨h1, h2⟩ := List.nodup_cons.mp hn
    have hx := hs x List.mem_cons_self
    have := ih (D := D.erase x) h2 fun y hy => (List.mem_erase_of_ne (fun z : y = x => h1 (by rw [← z]; exact hy))).mpr (hs y (List.mem_cons_of_mem _ hy))
    rw [List.length_erase_of_mem hx] at this
    have := List.length_pos_of_mem hx
    rw [List.length_cons]
    omega
/-! ### what cells need -/
inductive Need (rs : List RoomD) (kn : Cell → Bool) (cs : List Cell) : Cell → Prop
  | base {c : Cell} (h : c ∈ cs) : Need rs kn cs c
  | step {c : Cell} {h : Int} (n : Need rs kn cs c) (k : kn c = false) (m : h ∈ (rAt rs c.1).hears) : Need rs kn cs (h, c.2 - 1)
def spCN (P : Program) (w : World) (K : PySem.W.Frag) (mg : Str → Option Value) (base : Heap) (j : Nat) : Sp := fun vs H Q _ => ∃ (x cl f : Addr) (rs : List RoomD) (kn : Cell → Bool) (cs U : List Cell) (bs : List Addr), vs = [.ref x, .ref cl, .ref f] ∧ WebAt K H x rs ∧ OkWeb rs ∧ H cl = some (.lst (bs.map V.ref)) ∧ TupsAt H (cs.map cV) bs ∧ cs.Nodup ∧ LV.FV P w K mg base C8.CX0 j H f (spKn rs kn) ∧
  U.Nodup ∧ U.length ≤ 100000 ∧ (∀ c ∈ U, InR rs c.1) ∧ (∀ c ∈ cs, c ∈ U) ∧ (∀ c ∈ U, kn c = false → ∀ h ∈ (rAt rs c.1).hears, (h, c.2 - 1) ∈ U) ∧ (∀ c ∈ U, Need rs kn cs c) ∧
  ∀ (H' : Hp) (p : Addr) (bs : List Addr) (zs : List Cell), Same H H' → H p = none → zs.Perm U → zs.Pairwise (fun x y => lexB y x = false) → H' p = some (.lst (bs.map V.ref)) → TupsAt H' (zs.map cV) bs → Q (.ref p) H'
section
variable {P : Program} {w : World} {K : PySem.W.Frag} {mg : Str → Option Value} {base : Heap}
theorem ok_cells_needed (T : Tx K mg) (j : Nat) (hj : 2 ≤ j) : CL P w K mg base CX0 (j + 1) "cells_needed" ["web", "cells", "known"] (spCN P w K mg base j) := by
  have GH := ok_heard_cells (P := P) (w := w) (base := base) T
  have nd := sc_cells_needed.nd
  refine CL.of0 T.d_cells_needed T.g_cells_needed sc_cells_needed b_cells_needed (fun vs H Q E h => ?_) (fun f cdv A outer s H vs Q E hr h => ?_)
  · obtain ⟨x, cl, f, rs, kn, cs, U, bs, rfl, _⟩ := h; rfl
  · obtain ⟨x, cl, fk, rs, kn, cs, U, bs, rfl, hW, hok, hcl, hbs, hcn, hF, un, ul, uin, ucs, ucl, unr, k⟩ := h
    refine ⟨_, (pss_cons (ps_set (i := 3) nd rfl (Or.inr rfl) (DT2.pe_dcT (own := [("cell", 5)]) (g := gName 5) (tt := tYes) (hu2_of hr) rfl nd (pi_list (pv 1)) (blkOk_by (N := N_cells_needed) (sc := defScope s_cells_needed) (by decide +kernel))
          (fun _ _ _ _ _ => pg_name (i := 5) nd rfl (Or.inl rfl)) (fun _ _ _ _ _ => pts_nil) (fun _ _ _ _ _ => pv 5) (fun _ _ _ _ _ => pe_non)))
      (pss_cons (ps_set (i := 4) nd rfl (Or.inl rfl) (pe_callTy (call_list_dT rfl) (by rfl) T.f_list (by decide +kernel) (pa_cons (pv 3) pa_nil)))
      (pss_cons (ps_while PassesOwn.never (pt_cmpR (op_neD hr.units) (pv 4) (pe_lst pa_nil) (nomark _)) (pss_cons (ps_set (i := 5) nd rfl (Or.inl rfl) (pe_bm0 PySem.F.plainAttrs_list PySem.F.slot_list_pop PySem.F.type_list_pop mt_pop (pv 4)))
      (pss_one (ps_if (pt_not (pt_val (LV.pe_callv (i := 2) (E := C8.E0) (CX := C8.CX0) (k := j) hr (Nat.le_refl _) pass0 rfl (by first | exact Or.inl rfl | exact Or.inr (Or.inl rfl) | exact Or.inr (Or.inr rfl)) (pa_cons (pv 5) pa_nil)))) (pss_cons (ps_setLc (i := 6) (own := [("one", 7)]) (g := gName 7) rfl nd rfl rfl (sw_true rfl rfl rfl (by decide +kernel)) (pi_list (pe_cl GH hr hj pass0 (pa_cons (pv 0) (pa_cons (pv 5) pa_nil)))) (blkOk_by (N := N_cells_needed) (sc := defScope s_cells_needed) (by decide +kernel))
                (fun _ _ _ _ _ => pg_name (i := 7) nd rfl (Or.inl rfl)) (fun _ _ _ _ _ => pts_one (pt_cmp (pc_dnotin (hu_of hr) (pv 7) (pv 3)))) (fun _ _ _ _ _ => pv 7))
      (pss_cons (ps_for PassesOwn.never rfl (pi_list (pv 6)) (pg_name (i := 7) nd rfl (Or.inl rfl)) (pss_one (ps_dput (hu_of hr) (pv 3) (pv 7) pe_non rfl)))
      (pss_one (ps_expr (pe_bm PySem.F.plainAttrs_list PySem.F.slot_list_extend PySem.F.type_list_extend mt_extend (pv 4) (pa_cons (pv 6) pa_nil)))))) pss_nil))))
      (pss_one (ps_ret (pe_callB (DT2.cr_sortedDT rfl) (by rfl) T.f_sorted (by decide +kernel) (pa_cons (pv 3) pa_nil))))))), ?_⟩
    -- found
    refine ⟨_, rfl, cl, rfl, ⟨_, SqL.of hcl⟩, fun D hD => ?_⟩
    have clen : cs.length ≤ 100000 := Nat.le_trans (cell_len hcn ucs) ul
    have blen : bs.length = cs.length := by
      have := Paired.length hbs
      rw [List.length_map] at this
      exact this.symm
    refine dcT_it (walk_list (xs := bs.map V.ref)) (fun i Hx => Same H Hx ∧ Hx D = some (.dT ((cs.take i).map fkv))) ⟨same_new (Same.refl _) hD, by rw [upd_same]; rfl⟩ (fun i H' _ h => SqL.of (h.1 _ _ hcl)) (fun i y H1 H2 hi h hy => ?_) (fun H1 h => ?_)
    · obtain ⟨rfl, hx⟩ := hy
      obtain ⟨s1, hD1⟩ := h
      obtain ⟨b, hb, rfl⟩ : ∃ b, bs[i]? = some b ∧ y = .ref b := by
        rw [List.getElem?_map] at hx
        cases e : bs[i]? with
        | none => rw [e] at hx; cases hx
        | some b => rw [e] at hx; exact ⟨b, rfl, (Option.some.inj hx).symm⟩
      obtain ⟨tp, htp, htb⟩ := L2.DX.pget hbs hb
      rw [List.getElem?_map] at htp
      obtain ⟨c, hc, ec⟩ := Option.map_eq_some_iff.mp htp
      subst ec
      have hci : c ∉ cs.take i := fun hm => by
        obtain ⟨j2, hj2, ej⟩ := List.mem_iff_getElem.mp hm
        rw [List.length_take] at hj2
        have hi2 : i < cs.length := (List.getElem?_eq_some_iff.mp hc).1
        have e1 : cs[j2]'(by omega) = c := by rw [← ej, List.getElem_take]
        have e2 : cs[i] = c := (List.getElem?_eq_some_iff.mp hc).2
        have := (List.getElem_inj hcn).mp (e1.trans e2.symm)
        omega
      refine ⟨rfl, yes_ (iteT ⟨_, rfl, _, cK c, b, rfl, s1 _ _ htb, hD1, (by rw [List.length_map, List.length_take, sizeL]; omega), ?_⟩)⟩
      rw [putK_new _ (by rw [valV_F, if_neg hci])]
      refine ⟨fun b' o e => ?_, ?_⟩
      · rw [upd_ne (ne_of_none e hD)]
        exact s1 _ _ e
      · rw [upd_same, List.take_add_one, hc, List.map_append]
        rfl
    obtain ⟨s1, hD1⟩ := h
    rw [List.length_map, blen, List.take_length] at hD1
    -- waiting
    refine ⟨_, rfl, D, _, rfl, .inl hD1, fun Wt ws hWt hkeys => ?_⟩
    have tws : TupsAt H1 (cs.map cV) ws := pm2 (pm1 hkeys)
    have hWt0 : H Wt = none := none_same s1 hWt
    have g0 : CNv H (upd H1 Wt (.lst (ws.map V.ref))) D Wt rs kn cs U cs cs ws := by
      refine ⟨same_new s1 hWt0, hD, hWt0, by rw [upd_ne (ne_of_none hD1 hWt)]; exact hD1, upd_same, tws.same fun b t e => by rw [upd_ne (ne_of_none e hWt)]; exact e, hcn, hcn, ucs, fun c h => h, fun c h => h, fun c h1 h2 => absurd h1 h2⟩
    generalize upd H1 Wt (.lst (ws.map V.ref)) = Hs at g0 ⊢
    refine ⟨fun q σ Hc => ∃ (F W : List Cell) (ws : List Addr) (u5 u6 u7 : Option V), q = 2 * (U.length - F.length) + W.length ∧ CNv H Hc D Wt rs kn cs U F W ws ∧ σ = [some (.ref x), some (.ref cl), some (.ref fk), some (.ref D), some (.ref Wt), u5, u6, u7],
      ⟨_, cs, cs, ws, _, _, _, rfl, g0, rfl⟩, ?_⟩
    rintro q σ Hc ⟨F, W, ws, u5, u6, u7, hq, g, rfl⟩
    refine ⟨_, rfl, Nat.zero_le _, fun q1 hq1 => ?_⟩
    have g1 := g.same (same_new (Same.refl Hc) (o := .lst []) hq1)
    refine ⟨_, _, .lst (SqL.of g1.hw) (dpAll_cells g1.tw), .lst (SqL.of upd_same) .nil, shaped_cells _, PySem.W.ke_shaped_ints [], _, rfl, ?_⟩
    generalize upd Hc q1 (.lst []) = H2 at g1 ⊢
    clear g hq1
    rw [eqv_nil]
    have flen : F.length ≤ U.length := cell_len g1.fn g1.fU
    rcases List.eq_nil_or_concat W with rfl | ⟨W', c, rfl⟩
    · refine iteF ?_
      refine ⟨_, rfl, D, _, F, rfl, g1.hd, by rw [List.map_map]; rfl, fun zs bs2 p pm pw pr np => ?_⟩
      have hUF : ∀ c, Need rs kn cs c → c ∈ F := fun c hc => by
        induction hc with
        | base h => exact g1.cF _ h
        | step n k m ih => exact g1.cl _ ih (by simp) k _ m
      have pmU : F.Perm U := (List.perm_ext_iff_of_nodup g1.fn un).mpr fun a => ⟨g1.fU a, fun h => hUF a (unr a h)⟩
      refine k _ p bs2 zs (same_new g1.sm (none_same g1.sm np)) (none_same g1.sm np) (pm.trans pmU) pw upd_same ?_
      exact pm2 (Paired.mapP pr fun z b e => by rw [upd_ne (ne_of_none e np)]; exact e)
    · rw [List.concat_eq_append] at g1 hq
      rw [show ((W'.concat c).map cD).isEmpty = false by simp]
      refine iteT ?_
      refine ⟨fun σ' H' => ∃ (F2 W2 : List Cell) (ws : List Addr) (u5 u6 u7 : Option V), 2 * (U.length - F2.length) + W2.length < q ∧ CNv H H' D Wt rs kn cs U F2 W2 ws ∧ σ' = [some (.ref x), some (.ref cl), some (.ref fk), some (.ref D), some (.ref Wt), u5, u6, u7],
        fun σ' H' ⟨F2, W2, ws2, v5, v6, v7, h1, h2, h3⟩ => ⟨_, h1, F2, W2, ws2, v5, v6, v7, rfl, h2, h3⟩, ?_⟩
      have tw := g1.tw
      rw [List.map_append] at tw
      obtain ⟨ws', b, rfl, tw', htb⟩ := pm_snoc tw
      -- pop
      refine ⟨_, rfl, .inl ⟨rfl, _, SqL.of g1.hw⟩, _, _, .ref b, rfl, rfl, g1.hw, (by rw [List.map_append]; simp), ?_⟩
      have edl : ((ws' ++ [b]).map V.ref).dropLast = ws'.map V.ref := by
        rw [List.map_append]
        exact List.dropLast_concat
      rw [edl]
      have s3 : Same H (upd H2 Wt (.lst (ws'.map V.ref))) := fun b' o e => by
        rw [upd_ne (ne_of_none e g1.w0)]
        exact g1.sm _ _ e
      have nt : ∀ b' t, H2 b' = some (.tup t) → (upd H2 Wt (.lst (ws'.map V.ref))) b' = some (.tup t) := fun b' t e => by
        rw [upd_ne (ne_of e g1.hw (fun z => nomatch z))]
        exact e
      have hd3 : (upd H2 Wt (.lst (ws'.map V.ref))) D = some (.dT (F.map fkv)) := by
        rw [upd_ne (ne_of g1.hd g1.hw (fun z => nomatch z))]
        exact g1.hd
      have hw3 : (upd H2 Wt (.lst (ws'.map V.ref))) Wt = some (.lst (ws'.map V.ref)) := upd_same
      have tw3 : TupsAt (upd H2 Wt (.lst (ws'.map V.ref))) (W'.map cV) ws' := TupsAt.same tw' nt
      have htb3 := nt _ _ htb
      generalize upd H2 Wt (.lst (ws'.map V.ref)) = H3 at s3 hd3 hw3 tw3 htb3 ⊢
      have wn' : W'.Nodup := (List.nodup_append.mp g1.wn).1
      have cnW : c ∉ W' := fun h => (List.nodup_append.mp g1.wn).2.2 c h c (List.mem_singleton.mpr rfl) rfl
      have cF : c ∈ F := g1.wF c (by simp)
      have cU := g1.fU c cF
      have wF' : ∀ d ∈ W', d ∈ F := fun d h => g1.wF d (by simp [h])
      have hcin := uin c cU
      have hlW : (W' ++ [c]).length = W'.length + 1 := by simp
      rw [hlW] at hq
      -- known(cell)
      refine ⟨fk, _, rfl, hF.same s3, _, rfl, ExtN.refl _, b, c, rfl, htb3, hcin, fun H4 s4 => ⟨_, rfl, ?_⟩⟩
      have s34 := s3.trans s4
      have hd4 := s4 _ _ hd3
      have hw4 := s4 _ _ hw3
      have tw4 : TupsAt H4 (W'.map cV) ws' := tw3.same fun b t e => s4 _ _ e
      have htb4 := s4 _ _ htb3
      cases hkc : kn c with
      | true =>
        refine ⟨F, W', ws', _, _, _, by omega, ⟨s34, g1.d0, g1.w0, hd4, hw4, tw4, g1.fn, wn', g1.fU, wF', g1.cF, fun d h1 h2 h3 => ?_⟩, rfl⟩
        by_cases e : d = c
        · subst e
          rw [hkc] at h3
          cases h3
        · exact g1.cl d h1 (by simp [h2, e]) h3
      | false =>
        obtain ⟨c0, c1⟩ := id hcin
        obtain ⟨hr1, hr2, hr3, _⟩ := hok.2.2 _ (rAt_mem c0 c1)
        refine ⟨_, rfl, _, rfl, x, b, rs, c, rfl, hW.same s34, hok, htb4, hcin, fun H5 p5 hs5 s5 np5 hp5 ht5 => ⟨p5, rfl, ⟨_, SqL.of hp5⟩, fun D2 hD2 => ?_⟩⟩
        have hlen5 : hs5.length = (rAt rs c.1).hears.length := by
          have := Paired.length ht5
          rw [List.length_map] at this
          exact this.symm
        have hd5 := s5 _ _ hd4
        refine lc_tups (walk_list (xs := hs5.map V.ref)) (fun i => ((rAt rs c.1).hears[i]?).bind fun h => if decide ((h, c.2 - 1) ∉ F) = true then some (cV (h, c.2 - 1)) else none) (by rw [List.length_map]; omega) hD2 (fun H6 s6 => SqL.of (s6 _ _ hp5)) (fun i y H6 H7 acc Nx hi s6 hacc hlen2 hy k1 k0 => ?_) (fun H6 ns s6 h6 ht6 => ?_)
        · obtain ⟨rfl, hx⟩ := hy
          obtain ⟨b5, hb5, rfl⟩ : ∃ b5, hs5[i]? = some b5 ∧ y = .ref b5 := by
            rw [List.getElem?_map] at hx
            cases e : hs5[i]? with
            | none => rw [e] at hx; cases hx
            | some b => rw [e] at hx; exact ⟨b, rfl, (Option.some.inj hx).symm⟩
          obtain ⟨tp, htp, htb5⟩ := L2.DX.pget ht5 hb5
          rw [List.getElem?_map] at htp
          obtain ⟨h, hh, eh⟩ := Option.map_eq_some_iff.mp htp
          subst eh
          rw [hh] at k1 k0
          have hb6 := s6 _ _ htb5
          refine ⟨rfl, _, rfl, _, rfl, D, _, rfl, DGet.t (k := cK (h, c.2 - 1)) (s6 _ _ hd5) hb6, _, rfl, ?_⟩
          rw [valV_F]
          by_cases q2 : (h, c.2 - 1) ∈ F
          · rw [if_pos q2]
            exact k0 _ (by simp [q2]) (Same.refl _)
          · rw [if_neg q2]
            exact ⟨_, rfl, acc, hacc, hlen2, k1 b5 _ _ (by simp [q2]) hb6 (Same.refl _)⟩
        obtain ⟨nw, hnw⟩ : ∃ nw : List Cell, nw = ((rAt rs c.1).hears.filter fun h => decide ((h, c.2 - 1) ∉ F)).map fun h => (h, c.2 - 1) := ⟨_, rfl⟩
        have eN : List.filterMap (fun i => ((rAt rs c.1).hears[i]?).bind fun h => if decide ((h, c.2 - 1) ∉ F) = true then some (cV (h, c.2 - 1)) else none) (List.range (hs5.map V.ref).length) = nw.map cV := by
          rw [List.length_map, hlen5, filterMap_range, filterMap_if, hnw, List.map_map]
          rfl
        rw [eN] at ht6
        have nwlen : nw.length ≤ 3 := by
          rw [hnw, List.length_map]
          exact Nat.le_trans (List.length_filter_le ..) hr1
        have nsl : ns.length = nw.length := by
          have := Paired.length ht6
          rw [List.length_map] at this
          exact this.symm
        have nwn : nw.Nodup := by
          rw [hnw]
          refine List.pairwise_map.mpr (List.Pairwise.imp (fun h e => h (Prod.mk.inj e).1) (hr3.filter _))
        have nwF : ∀ d ∈ nw, d ∉ F := fun d hd => by
          rw [hnw] at hd
          obtain ⟨h, hh, rfl⟩ := List.mem_map.mp hd
          exact of_decide_eq_true (List.mem_filter.mp hh).2
        have nwU : ∀ d ∈ nw, d ∈ U := fun d hd => by
          rw [hnw] at hd
          obtain ⟨h, hh, rfl⟩ := List.mem_map.mp hd
          exact ucl c cU hkc h (List.mem_filter.mp hh).1
        have hd6 := s6 _ _ hd5
        have hw6 := s6 _ _ (s5 _ _ hw4)
        have s36 := (s34.trans s5).trans s6
        have D2D : D2 ≠ D := (ne_of h6 hd6 (fun z => nomatch z))
        -- found[one] = None
        refine ⟨_, rfl, D2, rfl, ⟨_, SqL.of h6⟩, ?_⟩
        refine for_list (xs := ns.map V.ref) (fun i σ' H' => (∀ b' o, b' ≠ D → H6 b' = some o → H' b' = some o) ∧ H' D = some (.dT ((F ++ nw.take i).map fkv)) ∧ ∃ u7, σ' = [some (.ref x), some (.ref cl), some (.ref fk), some (.ref D), some (.ref Wt), some (.ref b), some (.ref D2), u7])
          ⟨fun _ _ _ e => e, by rw [List.take_zero, List.append_nil]; exact hd6, _, rfl⟩ (fun i σ' H' _ h => SqL.of (h.1 _ _ D2D h6)) (fun i y σ' H7 hy h => ?_) (fun σ' H7 h => ?_)
        · obtain ⟨n7, hd7, v7, rfl⟩ := h
          obtain ⟨b7, hb7, rfl⟩ : ∃ b7, ns[i]? = some b7 ∧ y = .ref b7 := by
            rw [List.getElem?_map] at hy
            cases e : ns[i]? with
            | none => rw [e] at hy; cases hy
            | some b => rw [e] at hy; exact ⟨b, rfl, (Option.some.inj hy).symm⟩
          obtain ⟨tp, htp, htb7⟩ := L2.DX.pget ht6 hb7
          rw [List.getElem?_map] at htp
          obtain ⟨d, hd, ed⟩ := Option.map_eq_some_iff.mp htp
          subst ed
          have hb8 := n7 _ _ (ne_of htb7 hd6 (fun z => nomatch z)) htb7
          have hdn : d ∉ F ++ nw.take i := fun hm => by
            rcases List.mem_append.mp hm with z | hm
            · exact nwF d (List.mem_of_getElem? hd) z
            · obtain ⟨j2, hj2, ej⟩ := List.mem_iff_getElem.mp hm
              rw [List.length_take] at hj2
              have hi2 : i < nw.length := (List.getElem?_eq_some_iff.mp hd).1
              have e1 : nw[j2]'(by omega) = d := by rw [← ej, List.getElem_take]
              have e2 : nw[i] = d := (List.getElem?_eq_some_iff.mp hd).2
              have := (List.getElem_inj nwn).mp (e1.trans e2.symm)
              omega
          refine ⟨_, rfl, _, rfl, D, _, rfl, DPut.t (k := cK d) hd7 hb8 (by rw [List.length_map, List.length_append, List.length_take, sizeL]; omega), ?_⟩
          rw [putK_new _ (by rw [valV_F, if_neg hdn])]
          refine ⟨fun b' o hb' e => by rw [upd_ne hb']; exact n7 _ _ hb' e, ?_, _, rfl⟩
          rw [upd_same, List.take_add_one, hd, List.map_append, List.map_append, List.map_append, List.append_assoc]
          rfl
        · obtain ⟨n7, hd7, v7, rfl⟩ := h
          rw [List.length_map, nsl, List.take_length] at hd7
          have DW : Wt ≠ D := ne_of hw6 hd6 (fun z => nomatch z)
          have hw7 := n7 _ _ DW hw6
          have hn7 := n7 _ _ D2D h6
          have wlen : W'.length ≤ U.length := cell_len wn' fun d h => g1.fU d (wF' d h)
          have wsl : ws'.length = W'.length := by
            have := Paired.length tw'
            rw [List.length_map] at this
            exact this.symm
          refine ⟨_, rfl, .inl ⟨rfl, _, SqL.of hw7⟩, _, rfl, Wt, D2, _, _, rfl, rfl, hw7, hn7, (by rw [List.length_map, List.length_map, sizeL]; omega), ?_⟩
          have fn2 : (F ++ nw).Nodup := List.nodup_append.mpr ⟨g1.fn, nwn, fun a ha b' hb' e => nwF b' hb' (e ▸ ha)⟩
          have fU2 : ∀ d ∈ F ++ nw, d ∈ U := fun d hd => (List.mem_append.mp hd).elim (g1.fU d) (nwU d)
          have fl2 := cell_len fn2 fU2
          rw [List.length_append] at fl2
          refine ⟨F ++ nw, W' ++ nw, ws' ++ ns, _, _, _, by rw [List.length_append, List.length_append]; omega, ⟨fun b' o e => ?_, g1.d0, g1.w0, ?_, ?_, ?_, fn2, ?_, fU2, fun d hd => ?_, fun d hd => List.mem_append_left _ (g1.cF d hd), fun d h1 h2 h3 => ?_⟩, rfl⟩
          · rw [upd_ne (ne_of_none e g1.w0)]
            exact n7 _ _ (ne_of_none e g1.d0) (s36 _ _ e)
          · rw [upd_ne DW.symm]
            exact hd7
          · rw [upd_same, List.map_append]
          · rw [List.map_append]
            refine pm_app (TupsAt.same tw4 fun b' t e => ?_) (TupsAt.same ht6 fun b' t e => ?_)
            · have e6 := s6 _ _ (s5 _ _ e)
              rw [upd_ne (ne_of e6 hw6 (fun z => nomatch z))]
              exact n7 _ _ (ne_of e6 hd6 (fun z => nomatch z)) e6
            · rw [upd_ne (ne_of e hw6 (fun z => nomatch z))]
              exact n7 _ _ (ne_of e hd6 (fun z => nomatch z)) e
          · exact List.nodup_append.mpr ⟨wn', nwn, fun a ha b' hb' e => nwF b' hb' (e ▸ wF' a ha)⟩
          · exact (List.mem_append.mp hd).elim (fun z => List.mem_append_left _ (wF' d z)) (fun z => List.mem_append_right _ z)
          · rcases List.mem_append.mp h1 with z | z
            · by_cases e : d = c
              · subst e
                intro h hh
                by_cases q3 : (h, d.2 - 1) ∈ F
                · exact List.mem_append_left _ q3
                · refine List.mem_append_right _ ?_
                  rw [hnw]
                  exact List.mem_map.mpr ⟨h, List.mem_filter.mpr ⟨hh, decide_eq_true q3⟩, rfl⟩
              · intro h hh
                exact List.mem_append_left _ (g1.cl d z (fun hm => by
                  rcases List.mem_append.mp hm with y | y
                  · exact h2 (List.mem_append_left _ y)
                  · exact e (List.mem_singleton.mp y)) h3 h hh)
            · exact absurd (List.mem_append_right _ z) h2
end
end S
set_option Elab.async false
set_option linter.all false
set_option maxRecDepth 100000
set_option maxHeartbeats 4000000
/-! # needed, known_stand, by_beats -/
namespace S
open PySem PySem.Spec PyProof.Rows L2 G LamX NdefX SrtO
section
variable {P : Program} {w : World} {K : PySem.W.Frag} {mg : Str → Option Value} {base : Heap}
/-- what is needed, as a list that the caller tells -/
structure UOk (rs : List RoomD) (kn : Cell → Bool) (c0 : Cell) (U : List Cell) : Prop where
  nd : U.Nodup
  le : U.length ≤ 100000
  inr : ∀ c ∈ U, InR rs c.1
  m0 : c0 ∈ U
  cl : ∀ c ∈ U, kn c = false → ∀ h ∈ (rAt rs c.1).hears, (h, c.2 - 1) ∈ U
  nr : ∀ c ∈ U, Need rs kn [c0] c
def spNeeded (K : PySem.W.Frag) : Sp := fun vs H Q _ => ∃ (x : Addr) (rs : List RoomD) (room beat : Int) (v : V) (es : List Ent) (U : List Cell), vs = [.ref x, .int room, .int beat, v] ∧ WebAt K H x rs ∧ OkWeb rs ∧ InR rs room ∧ 0 ≤ beat ∧ beat ≤ 10 ^ 60 ∧ PkAt H v es ∧ es.length ≤ 1000 ∧ Tabs (TBS K) H ∧
  cntC rs (knP es) (room, beat) beat.toNat ≤ 2000 ∧ UOk rs (knP es) (room, beat) U ∧
  ∀ (H' : Hp) (p : Addr) (bs : List Addr) (zs : List Cell), ExtN H H' → Tabs (TBS K) H' → zs.Perm U → zs.Pairwise (fun x y => lexB y x = false) → H' p = some (.lst (bs.map V.ref)) → TupsAt H' (zs.map cV) bs → Q (.ref p) H'
theorem ok_needed (T : Tx K mg) (L : LT K mg base) : PK P w K mg base 7 "needed" (spNeeded K) := by
  have GR := ok_run_many (P := P) (w := w) T L
  have GC := ok_cells_needed (P := P) (w := w) (base := base) T 2 (by decide)
  have nd := sc_needed.nd
  have hmem : (aND, lamQ "needed") ∈ lamDefs := List.mem_cons_of_mem _ (List.mem_cons_of_mem _ (List.mem_cons_self ..))
  have TB := L.tb _ hmem
  obtain ⟨fd, F⟩ := T.d_needed
  obtain ⟨mv, hb⟩ := kb_needed F
  obtain ⟨tm, mm⟩ := T.i_MOST_RUN_needs
  refine ⟨_, fd, mv, fn_bodyC (d := aND) F sc_needed (fun vs H Q E h => ?_) (fun A outer s H vs Q E hr h => ?_), T.g_needed, F.kp, hb⟩
  · obtain ⟨x, rs, room, beat, v, es, U, rfl, _⟩ := h; rfl
  · obtain ⟨x, rs, room, beat, v, es, U, rfl, hW, hok, hin, hb0, hb1, hpk, hel, hT, hcn, hU, k⟩ := h
    refine ⟨_, (pss_cons (ps_set (i := 4) nd rfl (Or.inl rfl) (pe_pk GR hr (by decide) (pa_cons (pv 0) (pa_cons (pv 1) (pa_cons (pv 2) pa_nil))) (pk_cons (pv 3) pk_nil)))
      (pss_cons (ps_if (pt_cmpR op_gt (pv 4) (pe_glob (v := .int 2000) rfl mm ⟨_, rfl⟩) (nomark _)) pss_never pss_nil)
      (pss_one (ps_ret (LV.pe_clU (E := C8.E0) GC hr (by decide) (js := [3]) (fr := ["pokes"]) (fun ok => Caps.made (scope := scRM) ok (ndef_free ndND) (ndef_fr ndND) rfl) (by decide +kernel) (clo_sub nsRM.free) (fun _ _ => rfl)
          (pa_cons (pv 0) (pa_cons (pe_lst (pa_cons (pe_tup (pa_cons (pv 1) (pa_cons (pv 2) pa_nil))) pa_nil)) (pa_cons (LV.pe_lamv TB rfl (tt_mem hmem) (L.hu hmem) rfl (ndef_free ndND)) pa_nil)))))))), ?_⟩
    refine ⟨_, rfl, _, rfl, _, rfl, _, rfl, rfl, rfl, x, rs, room, beat, v, es, rfl, hW, hok, hin, hb0, hb1, hpk, hel, hT, fun H1 e1 t1 => ?_⟩
    refine ⟨_, rfl, _, _, rfl, rfl, _, rfl, iteDF (by omega) ?_⟩
    refine ⟨_, rfl, _, rfl, _, rfl, (by show 2 ≤ sizeLine; decide), fun t ht => ⟨(by show 1 ≤ sizeLine; decide), fun l hl => ?_⟩⟩
    have e2 : ExtN H (upd (upd H1 t (.tup [.int room, .int beat])) l (.lst [.ref t])) := extN_new (extN_new e1 ht) hl
    have t2 : Tabs (TBS K) (upd (upd H1 t (.tup [.int room, .int beat])) l (.lst [.ref t])) := tabs_new (tabs_new t1 ht) hl
    have tl : t ≠ l := fun z => by rw [← z, upd_same] at hl; cases hl
    have ht2 : (upd (upd H1 t (.tup [.int room, .int beat])) l (.lst [.ref t])) t = some (.tup (cV (room, beat))) := by rw [upd_ne tl, upd_same]
    have hl2 : (upd (upd H1 t (.tup [.int room, .int beat])) l (.lst [.ref t])) l = some (.lst ([t].map V.ref)) := upd_same
    generalize upd (upd H1 t (.tup [.int room, .int beat])) l (.lst [.ref t]) = H2 at e2 t2 ht2 hl2 ⊢
    refine ⟨t2, fun f c' H7 e7 n7 t7 f7 hf7 hc7 => ⟨fun jj hjj => ?_, fun H8 hn8 he8 C8 => ?_⟩⟩
    · rcases List.mem_cons.mp hjj with rfl | hjj
      · exact ⟨_, rfl⟩
      · cases hjj
    have s78 : Same H7 H8 := fun b o e => by
      rw [he8 b (fun hb => by rw [hn8 b hb] at e; cases e)]
      exact e
    have e37 : ExtN H H7 := e2.trans e7
    have e38 := e37.trans (ExtN.of s78)
    refine ⟨x, l, f, rs, knP es, [(room, beat)], U, [t], rfl, hW.ext e38, hok, s78 _ _ (extN_get e7 hl2), .cons (s78 _ _ (extN_get e7 ht2)) .nil, List.pairwise_singleton .., ?_, hU.nd, hU.le, hU.inr, fun c hc => by rw [List.mem_singleton.mp hc]; exact hU.m0, hU.cl, hU.nr, fun H9 p9 bs zs s9 np9 hpm hpw hp9 ht9 => ?_⟩
    · exact fv_rm T hpk e37 hn8 he8 rfl (fun pm ctv us hl => match us, hl with | [_], _ => rfl) ⟨_, _, _, _, rfl⟩ (s78 _ _ hf7) (s78 _ _ hc7) C8
    · intro Hd sd1 sd2 _ sd3
      have nf := sd3 (ExtN.of s9)
      exact k Hd p9 bs zs (e37.trans (sd2 (ExtN.of s9))) (tabs_sd ((t7.ext s78).ext s9) nf) hpm hpw (nf _ _ (fun _ _ z => by cases z) hp9) (ht9.same fun b t e => nf _ _ (fun _ _ z => by cases z) e)
/-! ### known_stand -/
def stF (rs : List RoomD) (es : List Ent) (c : Cell) : Int := (lkP es c).getD (rAt rs c.1).first
def spKS (K : PySem.W.Frag) : Sp := fun vs H Q _ => ∃ (x t : Addr) (rs : List RoomD) (c : Cell) (v : V) (es : List Ent), vs = [.ref x, .ref t, v] ∧ WebAt K H x rs ∧ H t = some (.tup (cV c)) ∧ InR rs c.1 ∧ PkAt H v es ∧ Q (.int (stF rs es c)) H
theorem ok_known_stand (T : Tx K mg) : CL P w K mg base CX0 2 "known_stand" ["web", "cell", "pokes"] (spKS K) := by
  have GR := ok_Web_rooms (P := P) (w := w) (base := base) T
  have nd := sc_known_stand.nd
  refine CL.of0 T.d_known_stand T.g_known_stand sc_known_stand b_known_stand (fun vs H Q E h => ?_) (fun f cdv A outer s H vs Q E hr h => ?_)
  · obtain ⟨x, t, rs, c, v, es, rfl, _⟩ := h; rfl
  · obtain ⟨x, t, rs, c, v, es, rfl, ⟨dx, tw, hx, hR⟩, ht, ⟨b0, b1⟩, hpk, k⟩ := h
    refine ⟨_, (pss_cons (ps_if (PW.pt (pw_and (pt_cmpR op_notN (pv 2) pe_non (nomark _)) (pw_and1 (pt_cmp (pc_din (hu_of hr) (pv 1) (pv 2)))))) (pss_one (ps_ret (pe_dget (hu_of hr) (pv 2) (pv 1) (fun _ _ => rfl)))) pss_nil)
      (pss_one (ps_ret (pe_fld (pe_ix ix_tup (pe_ml0 GR hr (by decide) pass0 (pv 0)) (pe_ix ix_tup (pv 1) pe_int (fun _ _ => rfl)) (fun _ _ => rfl)) rfl)))), ?_⟩
    obtain ⟨xs', y', q1', q2', dy', th', tr', h3', h4', h5'⟩ := get2 hR b0 b1
    rcases hpk with ⟨rfl, rfl⟩ | ⟨pk, rfl, hp⟩
    · refine ⟨_, rfl, rfl, _, rfl, iteF (iteF ?_)⟩
      exact ⟨_, rfl, _, _, _, rfl, hx, wf_none, _, _, _, rfl, hx, _, rfl, _, _, _, _, rfl, rfl, SqT.of ht, rfl, _, _, _, _, rfl, rfl, SqT.of q1', q2', _, _, _, _, _, rfl, h3', T.c_Room, T.n_Room_first, rf_first, k⟩
    · refine ⟨_, rfl, rfl, _, rfl, iteT ?_⟩
      refine ⟨_, rfl, _, rfl, pk, _, rfl, DGet.t (k := cK c) hp ht, _, rfl, ?_⟩
      rw [valV_ent, Option.isSome_map]
      cases hl : lkP es c with
      | none =>
        refine iteF ?_
        have e : stF rs es c = (rAt rs c.1).first := by unfold stF; rw [hl]; rfl
        rw [e] at k
        exact ⟨_, rfl, _, _, _, rfl, hx, wf_none, _, _, _, rfl, hx, _, rfl, _, _, _, _, rfl, rfl, SqT.of ht, rfl, _, _, _, _, rfl, rfl, SqT.of q1', q2', _, _, _, _, _, rfl, h3', T.c_Room, T.n_Room_first, rf_first, k⟩
      | some u =>
        refine iteT ?_
        have e : stF rs es c = u := by unfold stF; rw [hl]; rfl
        rw [e] at k
        refine ⟨_, rfl, _, rfl, pk, .int u, rfl, ?_, k⟩
        have := DGet.t (k := cK c) hp ht
        rw [valV_ent, hl] at this
        exact this
/-! ### by_beats -/
abbrev scBB : Scope := { kind := .function, names := [("cell", .local)], isGenerator := false, isCoroutine := false }
theorem ndBB : ndefB (defScope s_by_beats) scBB [] = true := by decide +kernel
theorem nsBB : NScope ["cell"] ["cell"] [] scBB := nscope_by (by decide +kernel)
def swapC (c : Cell) : Cell := (c.2, c.1)
def gB (H : Hp) : V → Int × Int
  | .ref t => match H t with
    | some (.tup [.int i, .int j]) => (j, i)
    | _ => (0, 0)
  | _ => (0, 0)
theorem gB_at {H : Hp} {t : Addr} {c : Cell} (h : H t = some (.tup (cV c))) : gB H (.ref t) = swapC c := by
  show (match H t with
    | some (.tup [.int i, .int j]) => (j, i)
    | _ => (0, 0)) = _
  rw [h]
  rfl
def spKey : Sp := fun vs H Q _ => ∃ (t : Addr) (c : Cell), vs = [.ref t] ∧ H t = some (.tup (cV c)) ∧ ∀ H' p, Same H H' → H' p = some (.tup [.int c.2, .int c.1]) → Q (.ref p) H'
def spBB (K : PySem.W.Frag) : Sp := fun vs H Q _ => ∃ (l : Addr) (cs : List Cell) (bs : List Addr), vs = [.ref l] ∧ H l = some (.lst (bs.map V.ref)) ∧ TupsAt H (cs.map cV) bs ∧ cs.length ≤ 1000000 ∧ Tabs (TBS K) H ∧
  ∀ (H' : Hp) (p : Addr) (bs2 : List Addr) (zs : List Cell), ExtN H H' → Tabs (TBS K) H' → zs.Perm cs → zs.Pairwise (fun x y => lexB (swapC y) (swapC x) = false) → H' p = some (.lst (bs2.map V.ref)) → TupsAt H' (zs.map cV) bs2 → Q (.ref p) H'
theorem ok_by_beats (T : Tx K mg) (L : LT K mg base) : CL P w K mg base CX0 4 "by_beats" ["cells"] (spBB K) := by
  have nd := sc_by_beats.nd
  have hmem : (aBB, lamQ "by_beats") ∈ lamDefs := List.mem_cons_of_mem _ (List.mem_cons_of_mem _ (List.mem_cons_of_mem _ (List.mem_cons_self ..)))
  have TB := L.tb _ hmem
  refine CL.ofC (d := aBB) T.d_by_beats T.g_by_beats sc_by_beats b_by_beats (fun vs H Q E h => ?_) (fun A outer s H vs Q E hr h => ?_)
  · obtain ⟨l, cs, bs, rfl, _⟩ := h; rfl
  · obtain ⟨l, cs, bs, rfl, hl, hbs, hlen, hT, k⟩ := h
    refine ⟨_, (pss_one (ps_ret (pe_callBK (LV.cr_sortedF (k := 1) hr) (by rfl) T.f_sorted (by decide +kernel) (pa_cons (pv 0) pa_nil) (pk_cons (LV.pe_lamv TB rfl (tt_mem hmem) (L.hu hmem) rfl (ndef_free ndBB)) pk_nil)))), ?_⟩
    refine ⟨_, rfl, hT, fun f c' H1 e1 n1 t1 f1 hf1 hc1 => ?_⟩
    have hl1 := extN_get e1 hl
    have hbs1 : TupsAt H1 (cs.map cV) bs := hbs.same fun b t e => extN_get e1 e
    have blen : bs.length = cs.length := by
      have := Paired.length hbs
      rw [List.length_map] at this
      exact this.symm
    have each : ∀ x ∈ bs.map V.ref, ∃ t c, x = V.ref t ∧ H1 t = some (.tup (cV c)) := fun x hx => by
      obtain ⟨b, hb, rfl⟩ := List.mem_map.mp hx
      obtain ⟨i, hi⟩ := List.mem_iff_getElem?.mp hb
      obtain ⟨tp, htp, htb⟩ := L2.DX.pget hbs1 hi
      rw [List.getElem?_map] at htp
      obtain ⟨c, hc, ec⟩ := Option.map_eq_some_iff.mp htp
      subst ec
      exact ⟨b, c, rfl, htb⟩
    refine ⟨l, f, bs.map V.ref, spKey, gB H1, rfl, rfl, SqL.of hl1, (by rw [List.length_map, sizeL]; omega), fun x hx => ?_, ?_, fun x hx H2 Q2 s2 k2 => ?_, fun ys p H2 s2 np hso hst => ?_⟩
    · obtain ⟨t, c, e, _⟩ := each x hx
      exact ⟨t, e⟩
    · refine LV.fv_of (k := 0) (N := ["cell"]) (ps := ["cell"]) (fr := []) (ws := []) nsBB (fun pm ctv us hl => match us, hl with | [_], _ => rfl) (fun vs H Q E h => ?_) hf1 hc1 ⟨rfl, fun y c e => (by cases e), fun a b c e => (by cases e), fun i y e => (by cases e)⟩ fun A outer s H3 vs Q E hr3 e3 z hsp => ?_
      · obtain ⟨t, c, rfl, _⟩ := h; rfl
      · obtain ⟨t, c, rfl, ht, kk⟩ := hsp
        have ed : LV.drp H3 (LV.cellsL []) = H3 := funext fun b => LV.drp_out (fun hb => by cases hb)
        refine ⟨_, pe_tup (pa_cons (pe_ix ix_tup (pv 0) pe_int (fun _ _ => rfl)) (pa_cons (pe_ix ix_tup (pv 0) pe_int (fun _ _ => rfl)) pa_nil)), ?_⟩
        have ht3 := z.keep ht (fun _ _ q => by cases q)
        refine ⟨_, rfl, _, _, _, _, rfl, rfl, SqT.of ht3, atI_nat (j := 1) rfl, _, rfl, _, _, _, _, rfl, rfl, SqT.of ht3, atI_nat (j := 0) rfl, (by show 2 ≤ sizeLine; decide), fun p hp => ?_⟩
        refine kk _ p (LV.same_bak (same_new (Same.refl _) hp)) ?_
        rw [LV.bak_out (fun hb => by cases hb)]
        exact upd_same
    · obtain ⟨t, c, rfl, ht⟩ := each x hx
      refine ⟨t, c, rfl, s2 _ _ ht, fun H' p s' hp => k2 _ _ s' ⟨p, rfl, ?_⟩⟩
      rw [gB_at ht]
      exact hp
    · have yin : ∀ y ∈ ys, ∃ t c, y = V.ref t ∧ H1 t = some (.tup (cV c)) := fun y hy => each y (hst.perm.mem_iff.mp hy)
      have pz : ∀ l : List V, (∀ y ∈ l, ∃ t c, y = V.ref t ∧ H1 t = some (.tup (cV c))) → ∃ bs2 : List Addr, l = bs2.map V.ref ∧ TupsAt H1 ((l.map fun y => swapC (gB H1 y)).map cV) bs2 := fun l => by
        induction l with
        | nil => intro _; exact ⟨[], rfl, .nil⟩
        | cons y l ih =>
          intro hh
          obtain ⟨t, c, e, ht⟩ := hh y List.mem_cons_self
          obtain ⟨bs2, b1, b2⟩ := ih fun u hu => hh u (List.mem_cons_of_mem _ hu)
          refine ⟨t :: bs2, by rw [List.map_cons, e, b1], ?_⟩
          rw [List.map_cons, List.map_cons]
          refine .cons ?_ b2
          rw [e, gB_at ht]
          exact ht
      obtain ⟨bs2, rfl, tz⟩ := pz ys yin
      have ec : (bs.map V.ref).map (fun y => swapC (gB H1 y)) = cs := by
        apply List.ext_getElem?
        intro i
        rw [List.getElem?_map, List.getElem?_map]
        cases hi : bs[i]? with
        | none =>
          have := List.getElem?_eq_none_iff.mp hi
          rw [List.getElem?_eq_none (by omega)]
          rfl
        | some b =>
          obtain ⟨tp, htp, htb⟩ := L2.DX.pget hbs1 hi
          rw [List.getElem?_map] at htp
          obtain ⟨c, hc, ecc⟩ := Option.map_eq_some_iff.mp htp
          subst ecc
          rw [hc]
          show some (swapC (gB H1 (.ref b))) = _
          rw [gB_at htb]
          rfl
      have pm : ((bs2.map V.ref).map fun y => swapC (gB H1 y)).Perm cs := by
        have := hst.perm.map (fun y => swapC (gB H1 y))
        rw [ec] at this
        exact this
      refine k _ p bs2 _ (extN_new (e1.trans (ExtN.of s2)) np) (tabs_new (t1.ext s2) np) pm ?_ upd_same ?_
      · refine List.pairwise_map.mpr (List.Pairwise.imp (fun h => ?_) hso)
        exact h
      · exact tz.same fun b t e => by
          have e2 := s2 _ _ e
          rw [upd_ne (ne_of_none e2 np)]
          exact e2
end
end S
set_option Elab.async false
set_option linter.all false
set_option maxRecDepth 100000
set_option maxHeartbeats 4000000
/-! # stand_by, least_other -/
namespace S
open PySem PySem.Spec PyProof.Rows L2 G LamX NdefX SrtO
def getAll (f : Cell → Option Int) : List Cell → Option (List Int)
  | [] => some []
  | c :: r => match f c, getAll f r with
    | some v, some l => some (v :: l)
    | _, _ => none
theorem getAll_at {f : Cell → Option Int} : ∀ {cs : List Cell} {l : List Int}, getAll f cs = some l → l.length = cs.length ∧ ∀ (i : Nat) (c : Cell), cs[i]? = some c → ∃ v, l[i]? = some v ∧ f c = some v
  | [], l, h => by
    cases h
    exact ⟨rfl, fun i c e => by simp at e⟩
  | d :: r, l, h => by
    unfold getAll at h
    cases hd : f d with
    | none => rw [hd] at h; cases h
    | some v =>
      rw [hd] at h
      cases hr : getAll f r with
      | none => rw [hr] at h; cases h
      | some m =>
        rw [hr] at h
        cases h
        obtain ⟨h1, h2⟩ := getAll_at hr
        refine ⟨by rw [List.length_cons, List.length_cons, h1], fun i c e => ?_⟩
        cases i with
        | zero => cases e; exact ⟨v, rfl, hd⟩
        | succ i => exact h2 i c e
def heardC (rs : List RoomD) (c : Cell) : List Cell := (rAt rs c.1).hears.map fun h => (h, c.2 - 1)
def stOf (rs : List RoomD) (f : Cell → Option Int) (c : Cell) : Option Int := (getAll f (heardC rs c)).bind (toldF rs c.1)
def putF1 (f : Cell → Option Int) (c : Cell) (v : Int) : Cell → Option Int := fun d => if d = c then some v else f d
def runRow (rs : List RoomD) : (Cell → Option Int) → List Cell → Option (Cell → Option Int)
  | f, [] => some f
  | f, c :: r => (stOf rs f c).bind fun v => runRow rs (putF1 f c v) r
theorem runRow_take {rs : List RoomD} : ∀ {row : List Cell} {f g : Cell → Option Int}, runRow rs f row = some g → ∀ i, i ≤ row.length → ∃ fi, runRow rs f (row.take i) = some fi ∧ runRow rs fi (row.drop i) = some g
  | row, f, g, h, 0, _ => ⟨f, rfl, h⟩
  | [], f, g, h, i + 1, hi => absurd hi (by simp)
  | c :: r, f, g, h, i + 1, hi => by
    unfold runRow at h
    obtain ⟨v, hv, h⟩ := Option.bind_eq_some_iff.mp h
    obtain ⟨fi, h1, h2⟩ := runRow_take h i (by simpa using hi)
    exact ⟨fi, by show (stOf rs f c).bind _ = _; rw [hv]; exact h1, h2⟩
theorem runRow_snoc {rs : List RoomD} : ∀ {row : List Cell} {f fi : Cell → Option Int} {c : Cell} {v : Int}, runRow rs f row = some fi → stOf rs fi c = some v → runRow rs f (row ++ [c]) = some (putF1 fi c v)
  | [], f, fi, c, v, h, hv => by
    cases h
    show (stOf rs f c).bind _ = _
    rw [hv]
    rfl
  | d :: r, f, fi, c, v, h, hv => by
    unfold runRow at h
    obtain ⟨u, hu, h⟩ := Option.bind_eq_some_iff.mp h
    show (stOf rs f d).bind _ = _
    rw [hu]
    exact runRow_snoc h hv
/-- the dict holds the function -/
def HoldsF (kvs : List (List L2.Key × V)) (f : Cell → Option Int) : Prop := ∀ c, valV kvs (cK c) = (f c).map V.int
theorem HoldsF.put {kvs : List (List L2.Key × V)} {f : Cell → Option Int} (h : HoldsF kvs f) (c : Cell) (v : Int) : HoldsF (putK kvs (cK c) (.int v)) (putF1 f c v) := fun d => by
  rw [valV_put]
  unfold putF1
  by_cases e : d = c
  · rw [if_pos (by rw [e]), if_pos e]
    rfl
  · rw [if_neg (fun z => e (cK_inj z)), if_neg e]
    exact h d
section
variable {P : Program} {w : World} {K : PySem.W.Frag} {mg : Str → Option Value} {base : Heap}
def spSB (P : Program) (w : World) (K : PySem.W.Frag) : Sp := fun vs H Q _ => ∃ (x t rl sd : Addr) (rs : List RoomD) (c : Cell) (row : List Cell) (bs : List Addr) (kvs : List (List L2.Key × V)) (f g : Cell → Option Int) (v : Int), vs = [.ref x, .ref t, .ref rl, .ref sd] ∧ WebAt K H x rs ∧ OkWeb rs ∧ H t = some (.tup (cV c)) ∧ H rl = some (.lst (bs.map V.ref)) ∧ TupsAt H (row.map cV) bs ∧ (∀ c ∈ row, InR rs c.1) ∧
  H sd = some (.dT kvs) ∧ (kvs.map fun z => DT2.hashT P w z.1).Nodup ∧ kvs.length + row.length ≤ 1000000 ∧ HoldsF kvs f ∧ runRow rs f row = some g ∧ g c = some v ∧ ∀ H', Same H H' → Q (.int v) H'
theorem ok_stand_by (T : Tx K mg) : CL P w K mg base CX0 3 "stand_by" ["web", "cell", "row", "stands"] (spSB P w K) := by
  have GH := ok_heard_cells (P := P) (w := w) (base := base) T
  have GT := ok_told_by (P := P) (w := w) (base := base) T
  have nd := sc_stand_by.nd
  refine CL.of0 T.d_stand_by T.g_stand_by sc_stand_by b_stand_by (fun vs H Q E h => ?_) (fun f cdv A outer s H vs Q E hr h => ?_)
  · obtain ⟨x, t, rl, sd, rs, c, row, bs, kvs, f, g, v, rfl, _⟩ := h; rfl
  · obtain ⟨x, t, rl, sd, rs, c, row, bs, kvs, f, g, v, rfl, hW, hok, ht, hrl, hbs, hin, hsd, hnd, hlen, hf, hrun, hg, k⟩ := h
    refine ⟨_, (pss_cons (ps_set (i := 4) nd rfl (Or.inr rfl) (pe_callTy (DT2.call_dictT (hu2_of hr)) (by rfl) T.f_dict (by decide +kernel) (pa_cons (pv 3) pa_nil)))
      (pss_cons (ps_for PassesOwn.never rfl (pi_list (pv 2)) (pg_name (i := 5) nd rfl (Or.inl rfl)) (pss_one (ps_dput (hu_of hr) (pv 4) (pv 5) (pe_cl GT hr (by decide) pass0 (pa_cons (pv 0) (pa_cons (pe_ix ix_tup (pv 5) pe_int (fun _ _ => rfl)) (pa_cons (pe_callTy call_tuple_of (by rfl) T.f_tuple (by decide +kernel) (pa_cons (pe_lc (own := [("other", 6)]) (g := gName 6) (tt := tYes) rfl nd (pi_list (pe_cl GH hr (by decide) pass0 (pa_cons (pv 0) (pa_cons (pv 5) pa_nil)))) (blkOk_by (N := N_stand_by) (sc := defScope s_stand_by) (by decide +kernel))
              (fun _ _ _ _ _ => pg_name (i := 6) nd rfl (Or.inl rfl)) (fun _ _ _ _ _ => pts_nil) (fun _ _ _ _ _ => pe_dget (hu_of hr) (pv 4) (pv 6) (fun _ _ => rfl))) pa_nil)) (pa_cons (pe_ix ix_tup (pv 5) pe_int (fun _ _ => rfl)) pa_nil))))) rfl)))
      (pss_one (ps_ret (pe_dget (hu_of hr) (pv 4) (pv 1) (fun _ _ => rfl)))))), ?_⟩
    refine ⟨_, rfl, sd, kvs, rfl, hsd, hnd, fun D hD => ?_⟩
    have blen : bs.length = row.length := by
      have := Paired.length hbs
      rw [List.length_map] at this
      exact this.symm
    refine ⟨_, rfl, rl, rfl, ⟨_, SqL.of (by rw [upd_ne (ne_of_none hrl hD)]; exact hrl)⟩, ?_⟩
    refine for_list (xs := bs.map V.ref) (fun i σ H' => Same H H' ∧ ∃ (kv : List (List L2.Key × V)) (fi : Cell → Option Int) (u : Option V), H' D = some (.dT kv) ∧ kv.length ≤ kvs.length + i ∧ HoldsF kv fi ∧ runRow rs f (row.take i) = some fi ∧ σ = [some (.ref x), some (.ref t), some (.ref rl), some (.ref sd), some (.ref D), u, none])
      ⟨same_new (Same.refl _) hD, kvs, f, _, upd_same, Nat.le_refl _, hf, rfl, rfl⟩ (fun i σ H' _ h => SqL.of (h.1 _ _ hrl)) (fun i y σ H' hy h => ?_) (fun σ H' h => ?_)
    · obtain ⟨s1, kv, fi, u, hD1, hkl, hfi, hri, rfl⟩ := h
      obtain ⟨b, hb, rfl⟩ : ∃ b, bs[i]? = some b ∧ y = .ref b := by
        rw [List.getElem?_map] at hy
        cases e : bs[i]? with
        | none => rw [e] at hy; cases hy
        | some b => rw [e] at hy; exact ⟨b, rfl, (Option.some.inj hy).symm⟩
      obtain ⟨tp, htp, htb⟩ := L2.DX.pget hbs hb
      rw [List.getElem?_map] at htp
      obtain ⟨d, hd, ed⟩ := Option.map_eq_some_iff.mp htp
      subst ed
      have hil : i < row.length := (List.getElem?_eq_some_iff.mp hd).1
      have htb1 := s1 _ _ htb
      have hdin := hin d (List.mem_of_getElem? hd)
      obtain ⟨fi', h1, h2⟩ := runRow_take hrun i (Nat.le_of_lt hil)
      rw [hri] at h1
      cases h1
      have edr : row.drop i = d :: row.drop (i + 1) := by
        have := (List.getElem?_eq_some_iff.mp hd).2
        rw [List.drop_eq_getElem_cons hil, this]
      rw [edr] at h2
      unfold runRow at h2
      obtain ⟨vd, hvd, _⟩ := Option.bind_eq_some_iff.mp h2
      obtain ⟨st, hst, htold⟩ := Option.bind_eq_some_iff.mp hvd
      obtain ⟨stl, sta⟩ := getAll_at hst
      refine ⟨_, rfl, _, rfl, _, _, _, _, rfl, rfl, SqT.of htb1, atI_nat (j := 0) rfl, ?_⟩
      refine ⟨_, rfl, _, rfl, x, b, rs, d, rfl, hW.same s1, hok, htb1, hdin, fun H2 p2 hs2 s2 np2 hp2 ht2 => ⟨p2, rfl, ⟨_, SqL.of hp2⟩, fun D2 hD2 => ?_⟩⟩
      have hsl : hs2.length = (rAt rs d.1).hears.length := by
        have := Paired.length ht2
        rw [List.length_map] at this
        exact this.symm
      have hcl : (heardC rs d).length = (rAt rs d.1).hears.length := List.length_map ..
      have h3 : (rAt rs d.1).hears.length ≤ 3 := (hok.2.2 _ (rAt_mem hdin.1 hdin.2)).1
      have hD3 := s2 _ _ hD1
      refine lc_map (walk_list (xs := hs2.map V.ref)) (fun i => V.int (st.getD i 0)) (by rw [List.length_map]; omega) hD2 (fun H3 s3 => SqL.of (s3 _ _ hp2)) (fun a z H3 H4 acc Nx ha s3 hacc hlen2 hz kk => ?_) (fun H3 s3 h3' => ?_)
      · obtain ⟨rfl, hx⟩ := hz
        obtain ⟨b5, hb5, rfl⟩ : ∃ b5, hs2[a]? = some b5 ∧ z = .ref b5 := by
          rw [List.getElem?_map] at hx
          cases e : hs2[a]? with
          | none => rw [e] at hx; cases hx
          | some b => rw [e] at hx; exact ⟨b, rfl, (Option.some.inj hx).symm⟩
        obtain ⟨tp, htp, htb5⟩ := L2.DX.pget ht2 hb5
        rw [List.getElem?_map] at htp
        obtain ⟨h, hh, eh⟩ := Option.map_eq_some_iff.mp htp
        subst eh
        obtain ⟨sv, hsv, hfv⟩ := sta a (h, d.2 - 1) (by unfold heardC; rw [List.getElem?_map, hh]; rfl)
        refine ⟨rfl, yes_ (iteT ⟨_, rfl, _, rfl, D, .int sv, rfl, ?_, acc, hacc, hlen2, ?_⟩)⟩
        · have := DGet.t (k := cK (h, d.2 - 1)) (s3 _ _ hD3) (s3 _ _ htb5)
          rw [hfi, hfv] at this
          exact this
        · have := kk _ s3 hacc
          rw [List.getD_eq_getElem?_getD, hsv] at this
          exact this
      have eL : (List.range (hs2.map V.ref).length).map (fun i => V.int (st.getD i 0)) = nsv st := by
        have e := range_map_getD st id (hs2.map V.ref) (by rw [List.length_map, hsl, stl, hcl])
        rw [List.map_id] at e
        exact e
      rw [eL] at h3'
      refine ⟨_, _, rfl, .inl ⟨SqL.of h3', fun tp2 htp2 => ?_⟩⟩
      have s13 := (s1.trans s2).trans s3
      have s4 := same_new (Same.refl H3) (o := .tup (nsv st)) htp2
      have htb4 := s4 _ _ (s3 _ _ (s2 _ _ htb1))
      refine ⟨_, rfl, _, _, _, _, rfl, rfl, SqT.of htb4, atI_nat (j := 1) rfl, ?_⟩
      refine ⟨x, tp2, rs, d.1, d.2, vd, st, rfl, hW.same (s13.trans s4), hok, hdin, upd_same, htold, fun H5 s5 => ?_⟩
      have hD5 := s5 _ _ (s4 _ _ (s3 _ _ hD3))
      have s15 := (s13.trans s4).trans s5
      refine ⟨_, rfl, _, rfl, D, _, rfl, DPut.t (k := cK d) hD5 (s5 _ _ htb4) (by rw [sizeL]; omega), ?_⟩
      refine ⟨fun b' o e => ?_, _, putF1 fi d vd, _, upd_same, ?_, hfi.put d vd, ?_, rfl⟩
      · rw [upd_ne (ne_of_none e hD)]
        exact s15 _ _ e
      · have := length_putK kv (cK d) (.int vd)
        omega
      · rw [List.take_add_one, hd]
        exact runRow_snoc hri hvd
    · obtain ⟨s1, kv, fi, u, hD1, hkl, hfi, hri, rfl⟩ := h
      rw [List.length_map, blen, List.take_length, hrun] at hri
      cases hri
      refine ⟨_, rfl, _, rfl, D, .int v, rfl, ?_, k _ s1⟩
      have := DGet.t (k := cK c) hD1 (s1 _ _ ht)
      rw [hfi, hg] at this
      exact this
/-- the least other stand -/
def leastO (G : Int → Int) (s0 : Int) (n : Nat) : Option (Int × Int) := ((List.range n).find? fun o : Nat => decide ((o : Int) ≠ s0) && decide (G o ≠ G s0)).map fun o => ((o : Int), G o)
def spLO (P : Program) (w : World) (K : PySem.W.Frag) : Sp := fun vs H Q _ => ∃ (x t rl sd t1 : Addr) (rs : List RoomD) (c k1 : Cell) (row : List Cell) (bs : List Addr) (kvs : List (List L2.Key × V)) (f : Cell → Option Int) (s0 : Int) (G : Int → Int), vs = [.ref x, .ref t, .ref rl, .ref sd, .ref t1] ∧ WebAt K H x rs ∧ OkWeb rs ∧ H t = some (.tup (cV c)) ∧ H t1 = some (.tup (cV k1)) ∧ InR rs k1.1 ∧ H rl = some (.lst (bs.map V.ref)) ∧ TupsAt H (row.map cV) bs ∧ (∀ c ∈ row, InR rs c.1) ∧
  H sd = some (.dT kvs) ∧ (kvs.map fun z => DT2.hashT P w z.1).Nodup ∧ kvs.length + row.length ≤ 1000000 ∧ HoldsF kvs f ∧ f k1 = some s0 ∧ 0 ≤ s0 ∧ s0 < (rAt rs k1.1).size ∧ (∀ o : Int, 0 ≤ o → o < (rAt rs k1.1).size → ∃ g, runRow rs (putF1 f k1 o) row = some g ∧ g c = some (G o)) ∧
  (match leastO G s0 (rAt rs k1.1).size.toNat with
  | none => ∀ H', Same H H' → Q .non H'
  | some ot => ∀ H' p, Same H H' → H' p = some (.tup [.int ot.1, .int ot.2]) → Q (.ref p) H')
theorem putF1_self {f : Cell → Option Int} {c : Cell} {v : Int} (h : f c = some v) : putF1 f c v = f := funext fun d => by
  unfold putF1
  by_cases e : d = c
  · rw [if_pos e, e, h]
  · rw [if_neg e]
theorem putK_keys {kvs : List (List L2.Key × V)} {k : List L2.Key} {v u : V} (h : valV kvs k = some u) : (putK kvs k v).map (·.1) = kvs.map (·.1) := by
  unfold putK
  have : (kvs.any fun kv => decide (kv.1 = k)) = true := by rw [valV_any, h]; rfl
  rw [if_pos this, List.map_map]
  refine List.map_congr_left fun a _ => ?_
  show (if a.1 = k then (a.1, v) else a).1 = a.1
  split <;> rfl
theorem ok_least_other (T : Tx K mg) : CL P w K mg base CX0 4 "least_other" ["web", "cell", "row", "stands", "known_one"] (spLO P w K) := by
  have GR := ok_Web_rooms (P := P) (w := w) (base := base) T
  have GS := ok_stand_by (P := P) (w := w) (base := base) T
  have nd := sc_least_other.nd
  refine CL.of0 T.d_least_other T.g_least_other sc_least_other b_least_other (fun vs H Q E h => ?_) (fun f cdv A outer s H vs Q E hr h => ?_)
  · obtain ⟨x, t, rl, sd, t1, rs, c, k1, row, bs, kvs, f, s0, G, rfl, _⟩ := h; rfl
  · obtain ⟨x, t, rl, sd, t1, rs, c, k1, row, bs, kvs, f, s0, G, rfl, hW, hok, ht, ht1, hk1, hrl, hbs, hin, hsd, hnd, hlen, hf, hfk, hs0, hs1, hG, k⟩ := h
    refine ⟨_, (pss_cons (ps_set (i := 5) nd rfl (Or.inl rfl) (pe_cl GS hr (by decide) pass0 (pa_cons (pv 0) (pa_cons (pv 1) (pa_cons (pv 2) (pa_cons (pv 3) pa_nil))))))
      (pss_cons (ps_for PassesOwn.never rfl (pi_range1 rfl T.f_range (pa_cons (pe_fld (pe_ix ix_tup (pe_ml0 GR hr (by decide) pass0 (pv 0)) (pe_ix ix_tup (pv 4) pe_int (fun _ _ => rfl)) (fun _ _ => rfl)) rfl) pa_nil)) (pg_name (i := 6) nd rfl (Or.inl rfl)) (pss_one (ps_if (pt_cmpR op_ne (pv 6) (pe_dget (hu_of hr) (pv 3) (pv 4) (fun _ _ => rfl)) (nomark _)) (pss_cons (ps_set (i := 7) nd rfl (Or.inl rfl) (pe_callTy (DT2.call_dictT (hu2_of hr)) (by rfl) T.f_dict (by decide +kernel) (pa_cons (pv 3) pa_nil)))
      (pss_cons (ps_dput (hu_of hr) (pv 7) (pv 4) (pv 6) rfl)
      (pss_cons (ps_set (i := 8) nd rfl (Or.inl rfl) (pe_cl GS hr (by decide) pass0 (pa_cons (pv 0) (pa_cons (pv 1) (pa_cons (pv 2) (pa_cons (pv 7) pa_nil))))))
      (pss_one (ps_if (pt_cmpR op_ne (pv 8) (pv 5) (nomark _)) (pss_one (ps_ret (pe_tup (pa_cons (pv 6) (pa_cons (pv 8) pa_nil))))) pss_nil))))) pss_nil)))
      (pss_one (ps_ret pe_non)))), ?_⟩
    obtain ⟨dx, tw, hx, hR⟩ := id hW
    obtain ⟨b0, b1⟩ := id hk1
    obtain ⟨xs', y', q1', q2', dy', th', tr', h3', h4', h5'⟩ := get2 hR b0 b1
    have hsz := (hok.2.2 _ (rAt_mem b0 b1)).2.2.2.1
    obtain ⟨g0, hg0, hgc0⟩ := hG s0 hs0 hs1
    rw [putF1_self hfk] at hg0
    refine ⟨_, rfl, _, rfl, _, rfl, _, rfl, x, t, rl, sd, rs, c, row, bs, kvs, f, g0, G s0, rfl, hW, hok, ht, hrl, hbs, hin, hsd, hnd, hlen, hf, hg0, hgc0, fun H1 s1 => ?_⟩
    refine ⟨_, rfl, _, _, _, rfl, s1 _ _ hx, wf_none, _, _, _, rfl, s1 _ _ hx, _, rfl, _, _, _, _, rfl, rfl, SqT.of (s1 _ _ ht1), atI_nat (j := 0) rfl, _, _, _, _, rfl, rfl, SqT.of (s1 _ _ q1'), q2', _, _, _, _, _, rfl, s1 _ _ h3', T.c_Room, T.n_Room_size, rf_size, _, rfl, by omega, by omega, ?_⟩
    refine for_range (lo := 0) (fun i σ H' => Same H H' ∧ (∀ o : Nat, o < i → ¬ (decide ((o : Int) ≠ s0) && decide (G o ≠ G s0)) = true) ∧ ∃ u6 u7 u8, σ = [some (.ref x), some (.ref t), some (.ref rl), some (.ref sd), some (.ref t1), some (.int (G s0)), u6, u7, u8])
      ⟨s1, fun o ho => absurd ho (Nat.not_lt_zero _), _, _, _, rfl⟩ (fun i σ H2 hi h => ?_) (fun σ H2 h => ?_)
    · obtain ⟨s2, hno, u6, u7, u8, rfl⟩ := h
      have hit : i < (rAt rs k1.1).size.toNat := hi
      have e0 : (0 : Int) + (i : Int) = (i : Int) := by omega
      have stay : ¬ (decide ((i : Int) ≠ s0) && decide (G i ≠ G s0)) = true → ∀ o : Nat, o < i + 1 → ¬ (decide ((o : Int) ≠ s0) && decide (G o ≠ G s0)) = true := fun h o ho => by
        by_cases e : o = i
        · subst e; exact h
        · exact hno o (by omega)
      refine ⟨_, rfl, _, rfl, _, rfl, sd, .int s0, rfl, ?_, rfl, _, rfl, ?_⟩
      · have := DGet.t (k := cK k1) (s2 _ _ hsd) (s2 _ _ ht1)
        rw [hf, hfk] at this
        exact this
      rw [dV, e0]
      by_cases h0 : (i : Int) = s0
      · refine iteNDT h0 ?_
        exact ⟨s2, stay (by simp [h0]), _, _, _, rfl⟩
      · refine iteNDF h0 ?_
        refine ⟨_, rfl, sd, kvs, rfl, s2 _ _ hsd, hnd, fun D hD => ?_⟩
        have hD0 := none_same s2 hD
        have ht3 : (upd H2 D (.dT kvs)) t1 = some (.tup (cV k1)) := by
          have e := s2 _ _ ht1
          rw [upd_ne (ne_of_none e hD)]
          exact e
        refine ⟨_, rfl, _, rfl, _, rfl, D, _, rfl, DPut.t (k := cK k1) upd_same ht3 (by rw [sizeL]; omega), ?_⟩
        rw [upd2]
        obtain ⟨gi, hgi, hgci⟩ := hG i (by omega) (by omega)
        have sD := same_new s2 (o := .dT (putK kvs (cK k1) (.int (i : Int)))) hD0
        have sD' : Same H (upd H2 D (.dT (putK kvs (cK k1) (.int (i : Int))))) := fun b o e => by
          rw [upd_ne (ne_of_none e hD0)]
          exact s2 _ _ e
        have hval : valV kvs (cK k1) = some (.int s0) := by rw [hf, hfk]; rfl
        have hkk := putK_keys (v := .int (i : Int)) hval
        refine ⟨_, rfl, _, rfl, _, rfl, _, rfl, x, t, rl, D, rs, c, row, bs, _, putF1 f k1 i, gi, G i, rfl, hW.same sD', hok, sD' _ _ ht, sD' _ _ hrl, hbs.same fun b t e => sD' _ _ e, hin, upd_same, ?_, ?_, ?_, hgi, hgci, fun H3 s3 => ?_⟩
        · have e1 : ∀ l : List (List L2.Key × V), (l.map fun z => DT2.hashT P w z.1) = (l.map (·.1)).map (DT2.hashT P w) := fun l => by rw [List.map_map]; rfl
          rw [e1, hkk, ← e1]
          exact hnd
        · have e2 := congrArg List.length hkk
          rw [List.length_map, List.length_map] at e2
          rw [e2]
          exact hlen
        · exact hf.put k1 i
        · have s4 := sD'.trans s3
          refine ⟨_, rfl, _, rfl, rfl, _, rfl, ?_⟩
          rw [dV]
          by_cases h1 : G i = G s0
          · refine iteNDT h1 ?_
            exact ⟨s4, stay (by simp [h1]), _, _, _, rfl⟩
          · refine iteNDF h1 ?_
            refine ⟨_, rfl, _, rfl, (by show 2 ≤ sizeLine; decide), fun p hp => ?_⟩
            have efind : leastO G s0 (rAt rs k1.1).size.toNat = some ((i : Int), G i) := by
              unfold leastO
              have : (List.range (rAt rs k1.1).size.toNat).find? (fun o : Nat => decide ((o : Int) ≠ s0) && decide (G o ≠ G s0)) = some i := by
                rw [List.find?_range_eq_some]
                refine ⟨by simp [h0, h1], List.mem_range.mpr hit, fun o ho => ?_⟩
                have := hno o ho
                rw [Bool.not_eq_true] at this
                simp only [this, Bool.not_false]
              rw [this]
              rfl
            rw [efind] at k
            have sp := same_new s4 (o := .tup [.int (i : Int), .int (G i)]) (none_same s4 hp)
            refine k _ p (fun b o e => ?_) ?_
            · rw [upd_ne (ne_of_none (s4 _ _ e) hp)]
              exact s4 _ _ e
            · rw [upd_same]
    · obtain ⟨s2, hno, u6, u7, u8, rfl⟩ := h
      have efind : leastO G s0 (rAt rs k1.1).size.toNat = none := by
        unfold leastO
        have : (List.range (rAt rs k1.1).size.toNat).find? (fun o : Nat => decide ((o : Int) ≠ s0) && decide (G o ≠ G s0)) = none := by
          rw [List.find?_eq_none]
          intro o ho
          exact hno o (List.mem_range.mp ho)
        rw [this]
        rfl
      rw [efind] at k
      exact k _ s2
end
end S
set_option Elab.async false
set_option linter.all false
set_option maxRecDepth 100000
set_option maxHeartbeats 4000000
/-! # swayers -/
namespace S
open PySem PySem.Spec PyProof.Rows L2 G LamX NdefX SrtO
theorem sorted_uniqC (κ : Cell → Cell) (inj : ∀ x y, κ x = κ y → x = y) : ∀ {a b : List Cell}, a.Perm b → a.Pairwise (fun x y => lexB (κ y) (κ x) = false) → b.Pairwise (fun x y => lexB (κ y) (κ x) = false) → a = b
  | [], _, p, _, _ => p.nil_eq
  | x :: r, b, p, ha, hb => by
    cases b with
    | nil => exact absurd p.length_eq (by simp)
    | cons y m =>
      have h1 : x = y ∨ lexB (κ y) (κ x) = false := by
        rcases List.mem_cons.mp (p.mem_iff.mpr (List.mem_cons_self (a := y) (l := m))) with e | h
        · exact .inl e.symm
        · exact .inr ((List.pairwise_cons.mp ha).1 y h)
      have h2 : x = y ∨ lexB (κ x) (κ y) = false := by
        rcases List.mem_cons.mp (p.mem_iff.mp (List.mem_cons_self (a := x) (l := r))) with e | h
        · exact .inl e
        · exact .inr ((List.pairwise_cons.mp hb).1 x h)
      have e : x = y := by
        rcases h1 with e | h1
        · exact e
        · rcases h2 with e | h2
          · exact e
          · have a1 := lexB_no.mp h1
            have a2 := lexB_no.mp h2
            exact inj _ _ (Prod.ext (by omega) (by omega))
      subst e
      rw [sorted_uniqC κ inj p.cons_inv (List.pairwise_cons.mp ha).2 (List.pairwise_cons.mp hb).2]
theorem swap_inj (x y : Cell) (h : swapC x = swapC y) : x = y := Prod.ext (congrArg Prod.snd h) (congrArg Prod.fst h)
theorem kb_sway {K : PySem.W.Frag} {f : Addr} {fd : FuncData} (F : FunD K "swayers" "swayers" (defArgs s_swayers) (defBody s_swayers) (defScope s_swayers) (d_swayers.dvs K) (d_swayers.kws K) f fd) :
    ∃ mv, KBn K fd ["web", "room", "beat", "pokes"] 3 ["pokes"] (fun us ws => (fun us mv ws => us ++ (mv ++ ws)) us mv ws) (fun vs zs => (fun vs (mz : List V) zs => vs ++ (mz ++ zs)) vs (([] : List (Str × V)).map (·.2)) zs) := by
  refine FunD.kbinds0 (F := F) 3 ["pokes"] [] (fun us mv ws => us ++ (mv ++ ws)) (fun e => nomatch e) (fun q hq => nomatch hq) (fun h1 h2 h3 => h1.append (h2.append h3)) (fun D doc pm an cdv ct us mv ws h1 h2 h3 => ?_)
  match us, mv, ws, h1, h2, h3 with
  | [a, b, c], [], [d], _, _, _ => exact rfl
theorem kd_sway {K : PySem.W.Frag} {f : Addr} {fd : FuncData} (F : FunD K "swayers" "swayers" (defArgs s_swayers) (defBody s_swayers) (defScope s_swayers) (d_swayers.dvs K) (d_swayers.kws K) f fd) :
    ∃ ds, Vals [V.non] ds ∧ Binds K fd ["web", "room", "beat", "pokes"] ds := by
  refine FunD.binds0 (F := F) 3 (fun e => nomatch e) rfl (fun D doc pm an cdv ct us ks h1 h2 => ?_)
  match us, ks, h1, h2 with
  | [a, b, c], [d], _, _ => exact ⟨_, _, _, _, _, _, rfl, rfl, rfl⟩
abbrev fkS (rs : List RoomD) (es : List Ent) (c : Cell) : List L2.Key × V := (cK c, V.int (stF rs es c))
theorem valV_S (rs : List RoomD) (es : List Ent) (c : Cell) : ∀ F : List Cell, valV (F.map (fkS rs es)) (cK c) = (if c ∈ F then some (stF rs es c) else none).map V.int
  | [] => by simp [valV_nil]
  | d :: F => by
    rw [List.map_cons]
    by_cases h : d = c
    · subst h
      rw [valV_pos rfl]
      simp
    · rw [valV_neg (fun z => h (cK_inj z)), valV_S rs es c F]
      have h' : ¬ c = d := fun z => h z.symm
      simp [h']
def f0F (rs : List RoomD) (es : List Ent) (ks : List Cell) : Cell → Option Int := fun c => if c ∈ ks then some (stF rs es c) else none
/-- what swayers tells -/
def swayF (rs : List RoomD) (es : List Ent) (ks : List Cell) (G : Cell → Int → Int) : List (List Int) := ks.filterMap fun k => (leastO (G k) (stF rs es k) (rAt rs k.1).size.toNat).map fun ot => [k.1, k.2, ot.1, ot.2]
structure SwayIn (P : Program) (w : World) (rs : List RoomD) (room beat : Int) (es : List Ent) (U R : List Cell) (lot : List Int) (G : Cell → Int → Int) : Prop where
  ok : OkWeb rs
  inr : InR rs room
  b0 : 0 ≤ beat
  b1 : beat ≤ 10 ^ 60
  el : es.length ≤ 1000
  lot : LotIs rs room lot
  cn : cntC rs (knP es) (room, beat) beat.toNat ≤ 60
  uo : UOk rs (knP es) (room, beat) U
  us : U.Pairwise (fun x y => lexB y x = false)
  rp : R.Perm (U.filter fun c => !knP es c)
  rs' : R.Pairwise (fun x y => lexB (swapC y) (swapC x) = false)
  hn : ((U.filter (knP es)).map fun c => DT2.hashT P w (cK c)).Nodup
  st : ∀ c ∈ U.filter (knP es), 0 ≤ stF rs es c ∧ stF rs es c < (rAt rs c.1).size
  gg : ∀ k ∈ U.filter (knP es), ∀ o : Int, 0 ≤ o → o < (rAt rs k.1).size → ∃ g, runRow rs (putF1 (f0F rs es (U.filter (knP es))) k o) R = some g ∧ g (room, beat) = some (G k o)
section
variable {P : Program} {w : World} {K : PySem.W.Frag} {mg : Str → Option Value} {base : Heap}
def spSway (P : Program) (w : World) (K : PySem.W.Frag) : Sp := fun vs H Q _ => ∃ (x : Addr) (rs : List RoomD) (room beat : Int) (v : V) (es : List Ent) (U R : List Cell) (lot : List Int) (G : Cell → Int → Int), vs = [.ref x, .int room, .int beat, v] ∧ WebAt K H x rs ∧ PkAt H v es ∧ Tabs (TBS K) H ∧ SwayIn P w rs room beat es U R lot G ∧
  ∀ (H' : Hp) (p : Addr) (bs : List Addr), ExtN H H' → Tabs (TBS K) H' → H' p = some (.lst (bs.map V.ref)) → TupsAt H' ((swayF rs es (U.filter (knP es)) G).map nsv) bs → Q (.ref p) H'
/-- swayers, by a keyword or without -/
structure PS (P : Program) (w : World) (K : PySem.W.Frag) (mg : Str → Option Value) (base : Heap) (k : Nat) (x : Str) (sp : Sp) : Prop where
  ex : ∃ f fd, FnOk P w K mg base CX0 k f fd ["web", "room", "beat", "pokes"] sp ∧ mg x = some (.ref f) ∧ PySem.W.keepIn K (.ref f) = true ∧ (∃ mv, KBn K fd ["web", "room", "beat", "pokes"] 3 ["pokes"] (fun us ws => (fun us mv ws => us ++ (mv ++ ws)) us mv ws) (fun vs zs => (fun vs (mz : List V) zs => vs ++ (mz ++ zs)) vs (([] : List (Str × V)).map (·.2)) zs)) ∧
    ∃ ds, Vals [V.non] ds ∧ Binds K fd ["web", "room", "beat", "pokes"] ds
theorem ok_swayers (T : Tx K mg) (L : LT K mg base) : PS P w K mg base 8 "swayers" (spSway P w K) := by
  have GC := ok_look_cell (P := P) (w := w) (base := base) T
  have GT := ok_look_tables (P := P) (w := w) (base := base) T
  have GR := ok_run_many (P := P) (w := w) T L
  have GN := ok_needed (P := P) (w := w) T L
  have GK : CL P w K mg base CX0 1 "is_known" ["cell", "pokes"] spIsKnown := ok_is_known T
  have GS := ok_known_stand (P := P) (w := w) (base := base) T
  have GB := ok_by_beats (P := P) (w := w) T L
  have GL := ok_least_other (P := P) (w := w) (base := base) T
  have nd := sc_swayers.nd
  obtain ⟨fd, F⟩ := T.d_swayers
  obtain ⟨tm, mm⟩ := T.i_MOST_RUN_sways
  refine ⟨_, fd, fn_body0 F sc_swayers (fun vs H Q E h => ?_) (fun f cdv A outer s H vs Q E hr h => ?_), T.g_swayers, F.kp, kb_sway F, kd_sway F⟩
  · obtain ⟨x, rs, room, beat, v, es, U, R, lot, G, rfl, _⟩ := h; rfl
  · obtain ⟨x, rs, room, beat, v, es, U, R, lot, G, rfl, hW, hpk, hT, S, k⟩ := h
    refine ⟨_, (pss_cons (ps_expr (pe_cl GC hr (by decide) pass0 (pa_cons (pv 0) (pa_cons (pv 1) (pa_cons (pv 2) pa_nil)))))
      (pss_cons (ps_expr (pe_cl GT hr (by decide) pass0 (pa_cons (pv 0) (pa_cons (pv 1) pa_nil))))
      (pss_cons (ps_set (i := 4) nd rfl (Or.inl rfl) (pe_pk GR hr (by decide) (pa_cons (pv 0) (pa_cons (pv 1) (pa_cons (pv 2) pa_nil))) (pk_cons (pv 3) pk_nil)))
      (pss_cons (ps_if (pt_cmpR op_gt (pv 4) (pe_glob (v := .int 60) rfl mm ⟨_, rfl⟩) (nomark _)) pss_never pss_nil)
      (pss_cons (ps_set (i := 5) nd rfl (Or.inl rfl) (pe_pk GN hr (by decide) (pa_cons (pv 0) (pa_cons (pv 1) (pa_cons (pv 2) pa_nil))) (pk_cons (pv 3) pk_nil)))
      (pss_cons (ps_set (i := 6) nd rfl (Or.inr rfl) (DT2.pe_dcT (own := [("one", 9)]) (g := gName 9) (hu2_of hr) rfl nd (pi_list (pv 5)) (blkOk_by (N := N_swayers) (sc := defScope s_swayers) (by decide +kernel))
          (fun _ _ _ _ _ => pg_name (i := 9) nd rfl (Or.inl rfl)) (fun _ _ _ _ _ => pts_one (pt_val (pe_cl GK hr (by decide) pass0 (pa_cons (pv 9) (pa_cons (pv 3) pa_nil))))) (fun _ _ _ _ _ => pv 9) (fun _ _ _ _ _ => pe_cl GS hr (by decide) pass0 (pa_cons (pv 0) (pa_cons (pv 9) (pa_cons (pv 3) pa_nil))))))
      (pss_cons (ps_set (i := 7) nd rfl (Or.inl rfl) (pe_cl GB hr (by decide) pass0 (pa_cons (pe_lc (own := [("one", 9)]) (g := gName 9) rfl nd (pi_list (pv 5)) (blkOk_by (N := N_swayers) (sc := defScope s_swayers) (by decide +kernel))
          (fun _ _ _ _ _ => pg_name (i := 9) nd rfl (Or.inl rfl)) (fun _ _ _ _ _ => pts_one (pt_cmp (pc_dnotin (hu_of hr) (pv 9) (pv 6)))) (fun _ _ _ _ _ => pv 9)) pa_nil)))
      (pss_cons (ps_set (i := 8) nd rfl (Or.inl rfl) (pe_lst pa_nil))
      (pss_cons (ps_for PassesOwn.never rfl (pi_list (pe_callB (DT2.cr_sortedDT rfl) (by rfl) T.f_sorted (by decide +kernel) (pa_cons (pv 6) pa_nil))) (pg_name (i := 9) nd rfl (Or.inl rfl)) (pss_cons (ps_set (i := 10) nd rfl (Or.inl rfl) (pe_cl GL hr (by decide) pass0 (pa_cons (pv 0) (pa_cons (pe_tup (pa_cons (pv 1) (pa_cons (pv 2) pa_nil))) (pa_cons (pv 7) (pa_cons (pv 6) (pa_cons (pv 9) pa_nil)))))))
      (pss_one (ps_if (pt_cmpR op_notN (pv 10) pe_non (nomark _)) (pss_one (ps_expr (pe_bm PySem.F.plainAttrs_list PySem.F.slot_list_append PySem.F.type_list_append mt_append (pv 8) (pa_cons (pe_op op_catT (pv 9) (pv 10)) pa_nil)))) pss_nil))))
      (pss_one (ps_ret (pv 8)))))))))))), ?_⟩
    obtain ⟨ks, hks⟩ : ∃ ks, ks = U.filter (knP es) := ⟨_, rfl⟩
    have Shn := S.hn
    have Sst := S.st
    have Sgg := S.gg
    rw [← hks] at Shn Sst Sgg k
    have Srp := S.rp
    obtain ⟨i0, i1⟩ := S.inr
    have ule := S.uo.le
    have kle : ks.length ≤ U.length := by rw [hks]; exact List.length_filter_le ..
    have knd : ks.Nodup := by rw [hks]; exact S.uo.nd.filter _
    have kin : ∀ c ∈ ks, c ∈ U := fun c h => by rw [hks] at h; exact (List.mem_filter.mp h).1
    have kss : ks.Pairwise (fun x y => lexB y x = false) := by rw [hks]; exact S.us.filter _
    refine ⟨_, rfl, _, rfl, _, rfl, x, rs, room, beat, rfl, hW, i0, i1, S.b0, S.b1, ?_⟩
    refine ⟨_, rfl, _, rfl, x, rs, room, lot, rfl, hW, S.ok, S.inr, S.lot, fun H1 s1 => ?_⟩
    refine ⟨_, rfl, _, rfl, _, rfl, _, rfl, rfl, rfl, x, rs, room, beat, v, es, rfl, hW.same s1, S.ok, S.inr, S.b0, S.b1, hpk.same (fun b kvs e => s1 _ _ e), S.el, hT.ext s1, fun H2 e2 t2 => ?_⟩
    have e02 := (ExtN.of s1).trans e2
    refine ⟨_, rfl, _, _, rfl, rfl, _, rfl, iteDF (by have := S.cn; omega) ?_⟩
    refine ⟨_, rfl, _, rfl, _, rfl, _, rfl, rfl, rfl, x, rs, room, beat, v, es, U, rfl, hW.ext e02, S.ok, S.inr, S.b0, S.b1, hpk.same (fun b kvs e => extN_get e02 e), S.el, t2, (by have := S.cn; omega), S.uo, fun H3 p3 bs zs e3 t3 hpm hpw hp3 ht3 => ?_⟩
    obtain rfl : zs = U := sorted_uniqC id (fun _ _ h => h) hpm hpw S.us
    have e03 := e02.trans e3
    have blen : bs.length = zs.length := by
      have := Paired.length ht3
      rw [List.length_map] at this
      exact this.symm
    have at3 : ∀ (i : Nat) (y : V), (bs.map V.ref)[i]? = some y → ∃ b c, bs[i]? = some b ∧ zs[i]? = some c ∧ y = .ref b ∧ H3 b = some (.tup (cV c)) := fun i y hy => by
      rw [List.getElem?_map] at hy
      cases e : bs[i]? with
      | none => rw [e] at hy; cases hy
      | some b =>
        rw [e] at hy
        obtain ⟨tp, htp, htb⟩ := L2.DX.pget ht3 e
        rw [List.getElem?_map] at htp
        obtain ⟨c, hc, ec⟩ := Option.map_eq_some_iff.mp htp
        subst ec
        exact ⟨b, c, rfl, hc, (Option.some.inj hy).symm, htb⟩
    -- stands
    refine ⟨_, rfl, p3, rfl, ⟨_, SqL.of hp3⟩, fun D hD => ?_⟩
    refine dcT_it (walk_list (xs := bs.map V.ref)) (fun i Hx => Same H3 Hx ∧ Hx D = some (.dT (((zs.take i).filter (knP es)).map (fkS rs es)))) ⟨same_new (Same.refl _) hD, by rw [upd_same]; rfl⟩ (fun i H' _ h => SqL.of (h.1 _ _ hp3)) (fun i y H4 H5 hi h hy => ?_) (fun H4 h => ?_)
    · obtain ⟨rfl, hx⟩ := hy
      obtain ⟨s4, hD4⟩ := h
      obtain ⟨b, c, hb, hc, rfl, htb⟩ := at3 i y hx
      have htb4 := s4 _ _ htb
      have e04 := e03.trans (ExtN.of s4)
      have hpk4 : PkAt H5 v es := hpk.same (fun b kvs e => extN_get e04 e)
      refine ⟨rfl, _, rfl, _, rfl, b, v, c, es, rfl, htb4, hpk4, _, rfl, ?_⟩
      have etk : zs.take (i + 1) = zs.take i ++ [c] := by rw [List.take_add_one, hc]; rfl
      cases hkc : knP es c with
      | true =>
        refine iteT ⟨_, rfl, _, rfl, _, rfl, _, rfl, x, b, rs, c, v, es, rfl, hW.ext e04, htb4, S.uo.inr c (List.mem_of_getElem? hc), hpk4, ?_⟩
        have hci : c ∉ (zs.take i).filter (knP es) := fun hm => by
          obtain ⟨j2, hj2, ej⟩ := List.mem_iff_getElem.mp (List.mem_filter.mp hm).1
          rw [List.length_take] at hj2
          have hi2 : i < zs.length := (List.getElem?_eq_some_iff.mp hc).1
          have e1 : zs[j2]'(by omega) = c := by rw [← ej, List.getElem_take]
          have e2 : zs[i] = c := (List.getElem?_eq_some_iff.mp hc).2
          have := (List.getElem_inj S.uo.nd).mp (e1.trans e2.symm)
          omega
        refine ⟨_, cK c, b, rfl, htb4, hD4, ?_, ?_⟩
        · rw [List.length_map, sizeL]
          have h1 := List.length_filter_le (knP es) (zs.take i)
          have h2 := List.length_take_le' i zs
          omega
        · rw [putK_new _ (by rw [valV_S, if_neg hci]; rfl)]
          refine ⟨fun b' o e => ?_, ?_⟩
          · rw [upd_ne (ne_of_none e hD)]
            exact s4 _ _ e
          · rw [upd_same, etk, List.filter_append, List.map_append]
            have : List.filter (knP es) [c] = [c] := by simp [hkc]
            rw [this]
            rfl
      | false =>
        refine iteF ⟨s4, ?_⟩
        rw [etk, List.filter_append]
        have : List.filter (knP es) [c] = [] := by simp [hkc]
        rw [this, List.append_nil]
        exact hD4
    obtain ⟨s4, hD4⟩ := h
    rw [List.length_map, blen, List.take_length, ← hks] at hD4
    have e04 := e03.trans (ExtN.of s4)
    have t4 := t3.ext s4
    have hp4 := s4 _ _ hp3
    -- row
    refine ⟨_, rfl, p3, rfl, ⟨_, SqL.of hp4⟩, fun D2 hD2 => ?_⟩
    refine lc_tups (walk_list (xs := bs.map V.ref)) (fun i => (zs[i]?).bind fun c => if (!knP es c) = true then some (cV c) else none) (by rw [List.length_map]; omega) hD2 (fun H5 s5 => SqL.of (s5 _ _ hp4)) (fun i y H5 H6 acc Nx hi s5 hacc hlen2 hy k1 k0 => ?_) (fun H5 rb s5 h5 ht5 => ?_)
    · obtain ⟨rfl, hx⟩ := hy
      obtain ⟨b, c, hb, hc, rfl, htb⟩ := at3 i y hx
      rw [hc] at k1 k0
      have htb5 := s5 _ _ (s4 _ _ htb)
      refine ⟨rfl, _, rfl, _, rfl, D, _, rfl, DGet.t (k := cK c) (s5 _ _ hD4) htb5, _, rfl, ?_⟩
      rw [valV_S]
      have hmem : c ∈ ks ↔ knP es c = true := by
        rw [hks, List.mem_filter]
        exact ⟨fun h => h.2, fun h => ⟨List.mem_of_getElem? hc, h⟩⟩
      cases hkc : knP es c with
      | true =>
        rw [if_pos (hmem.mpr hkc)]
        exact k0 _ (by simp [hkc]) (Same.refl _)
      | false =>
        rw [if_neg (fun z => by rw [hmem.mp z] at hkc; cases hkc)]
        exact ⟨_, rfl, acc, hacc, hlen2, k1 b _ _ (by simp [hkc]) htb5 (Same.refl _)⟩
    have eR : List.filterMap (fun i => (zs[i]?).bind fun c => if (!knP es c) = true then some (cV c) else none) (List.range (bs.map V.ref).length) = (zs.filter fun c => !knP es c).map cV := by
      rw [List.length_map, blen, filterMap_range, filterMap_if]
    rw [eR] at ht5
    have t5 := t4.ext s5
    have e05 := e04.trans (ExtN.of s5)
    have rle : (zs.filter fun c => !knP es c).length ≤ zs.length := List.length_filter_le ..
    refine ⟨D2, _, rb, rfl, h5, ht5, by omega, t5, fun H6 p6 bs6 zs6 e6 t6 hpm6 hpw6 hp6 ht6 => ?_⟩
    obtain rfl : zs6 = R := sorted_uniqC swapC swap_inj (hpm6.trans Srp.symm) hpw6 S.rs'
    have e06 := e05.trans e6
    have hD6 := extN_get e6 (s5 _ _ hD4)
    -- found
    refine ⟨Nat.zero_le _, fun Fa hF => ?_⟩
    have e07 : ExtN H (upd H6 Fa (.lst [])) := extN_new e06 hF
    have t7 : Tabs (TBS K) (upd H6 Fa (.lst [])) := tabs_new t6 hF
    have hD7 : (upd H6 Fa (.lst [])) D = some (.dT (ks.map (fkS rs es))) := by rw [upd_ne (ne_of_none hD6 hF)]; exact hD6
    have hp7 : (upd H6 Fa (.lst [])) p6 = some (.lst (bs6.map V.ref)) := by rw [upd_ne (ne_of_none hp6 hF)]; exact hp6
    have ht7 : TupsAt (upd H6 Fa (.lst [])) (zs6.map cV) bs6 := ht6.same fun b t e => by rw [upd_ne (ne_of_none e hF)]; exact e
    have hFa7 : (upd H6 Fa (.lst [])) Fa = some (.lst []) := upd_same
    have nF : ∀ b o, H b = some o → (∀ ps, o ≠ .tbl ps) → b ≠ Fa := fun b o e n => ne_of_none (e06 b o e n) hF
    have p6F : p6 ≠ Fa := ne_of_none hp6 hF
    generalize upd H6 Fa (.lst []) = H7 at e07 t7 hD7 hp7 ht7 hFa7 ⊢
    -- sorted(stands)
    refine ⟨_, rfl, D, _, ks, rfl, hD7, (by rw [List.map_map]; rfl), fun zk bk pk pmk pwk prk npk => ?_⟩
    obtain rfl : zk = ks := sorted_uniqC id (fun _ _ h => h) pmk pwk kss
    have klen : bk.length = zk.length := (Paired.length prk).symm
    have hsrt : ∀ H' : Hp, (∀ (b : Addr) (o : HO), b ≠ Fa → (upd H7 pk (.lst (bk.map V.ref))) b = some o → H' b = some o) → H' pk = some (.lst (bk.map V.ref)) := fun H' n => n _ _ (ne_of_none hFa7 npk).symm upd_same
    have s8 := same_new (Same.refl H7) (o := .lst (bk.map V.ref)) npk
    have e08 := e07.trans (ExtN.of s8)
    have t8 := t7.ext s8
    have hF8 := s8 _ _ hFa7
    refine ⟨pk, rfl, ⟨_, SqL.of upd_same⟩, ?_⟩
    generalize upd H7 pk (.lst (bk.map V.ref)) = H8 at hsrt s8 e08 t8 hF8 ⊢
    have DF : D ≠ Fa := ne_of hD7 hFa7 (fun z => nomatch z)
    refine for_list (xs := bk.map V.ref) (fun i σ H' => (∀ b o, b ≠ Fa → H8 b = some o → H' b = some o) ∧ ExtN H H' ∧ Tabs (TBS K) H' ∧ ∃ (acc : List Addr) (u9 u10 : Option V), H' Fa = some (.lst (acc.map V.ref)) ∧ TupsAt H' ((swayF rs es (zk.take i) G).map nsv) acc ∧ acc.length ≤ i ∧
        σ = [some (.ref x), some (.int room), some (.int beat), some v, some (.int (cntC rs (knP es) (room, beat) beat.toNat)), some (.ref p3), some (.ref D), some (.ref p6), some (.ref Fa), u9, u10])
      ⟨fun _ _ _ e => e, e08, t8, [], _, _, hF8, .nil, Nat.zero_le _, rfl⟩ (fun i σ H' _ h => SqL.of (hsrt _ h.1)) (fun i y σ H9 hy h => ?_) (fun σ H9 h => ?_)
    · obtain ⟨n9, e09, t9, acc, u9, u10, hF9, hacc, hal, rfl⟩ := h
      obtain ⟨b, hb, rfl⟩ : ∃ b, bk[i]? = some b ∧ y = .ref b := by
        rw [List.getElem?_map] at hy
        cases e : bk[i]? with
        | none => rw [e] at hy; cases hy
        | some b => rw [e] at hy; exact ⟨b, rfl, (Option.some.inj hy).symm⟩
      obtain ⟨c, hc, htb⟩ := L2.DX.pget prk hb
      have hcm : c ∈ zk := List.mem_of_getElem? hc
      have bF : b ≠ Fa := ne_of htb hFa7 (fun z => nomatch z)
      have htb9 : H9 b = some (.tup (cV c)) := n9 _ _ bF (s8 _ _ htb)
      have hD9 := n9 _ _ DF (s8 _ _ hD7)
      have hp9 := n9 _ _ p6F (s8 _ _ hp7)
      have ht9 : TupsAt H9 (zs6.map cV) bs6 := ht7.same fun b t e => n9 _ _ (ne_of e hFa7 (fun z => nomatch z)) (s8 _ _ e)
      have etk : zk.take (i + 1) = zk.take i ++ [c] := by rw [List.take_add_one, hc]; rfl
      obtain ⟨g0, g1⟩ := Sst c hcm
      have rlen : zs6.length ≤ 100000 := by
        rw [Srp.length_eq]
        omega
      refine ⟨_, rfl, _, rfl, _, rfl, (by show 2 ≤ sizeLine; decide), fun tc htc => ⟨_, rfl, _, rfl, _, rfl, ?_⟩⟩
      have sA := same_new (Same.refl H9) (o := .tup [.int room, .int beat]) htc
      have eA := e09.trans (ExtN.of sA)
      refine ⟨x, tc, p6, D, b, rs, (room, beat), c, zs6, bs6, _, f0F rs es zk, stF rs es c, G c, rfl, hW.ext eA, S.ok, upd_same, sA _ _ htb9, S.uo.inr c (kin c hcm), sA _ _ hp9, ht9.same fun b t e => sA _ _ e, fun d hd => S.uo.inr d (List.mem_filter.mp (Srp.mem_iff.mp hd)).1, sA _ _ hD9, ?_, ?_, fun d => valV_S rs es d zk, ?_, g0, g1, Sgg c hcm, ?_⟩
      · rw [List.map_map]
        exact Shn
      · rw [List.length_map]
        omega
      · unfold f0F
        rw [if_pos hcm]
      · have stay : leastO (G c) (stF rs es c) (rAt rs c.1).size.toNat = none → swayF rs es (zk.take (i + 1)) G = swayF rs es (zk.take i) G := fun h => by
          rw [etk]
          unfold swayF
          rw [List.filterMap_append]
          simp [h]
        have more : ∀ ot, leastO (G c) (stF rs es c) (rAt rs c.1).size.toNat = some ot → swayF rs es (zk.take (i + 1)) G = swayF rs es (zk.take i) G ++ [[c.1, c.2, ot.1, ot.2]] := fun ot h => by
          rw [etk]
          unfold swayF
          rw [List.filterMap_append]
          simp [h]
        cases hlo : leastO (G c) (stF rs es c) (rAt rs c.1).size.toNat with
        | none =>
          intro H10 s10
          have sB := sA.trans s10
          refine ⟨_, rfl, rfl, _, rfl, iteF ?_⟩
          refine ⟨fun b' o hb' e => sB _ _ (n9 _ _ hb' e), e09.trans (ExtN.of sB), t9.ext sB, acc, _, _, sB _ _ hF9, ?_, Nat.le_succ_of_le hal, rfl⟩
          rw [stay hlo]
          exact hacc.same fun b t e => sB _ _ e
        | some ot =>
          intro H10 p10 s10 hp10
          have sB := sA.trans s10
          refine ⟨_, rfl, rfl, _, rfl, iteT ?_⟩
          have hFB := sB _ _ hF9
          refine ⟨_, rfl, .inl ⟨rfl, _, SqL.of hFB⟩, _, rfl, _, rfl, b, p10, _, _, rfl, rfl, SqT.of (sB _ _ htb9), SqT.of hp10, (fun z => nomatch z), (by show 4 ≤ sizeLine; decide), (fun z => nomatch z), fun _ q hq => ?_⟩
          have sC := sB.trans (same_new (Same.refl H10) (o := .tup ([V.int c.1, V.int c.2] ++ [V.int ot.1, V.int ot.2])) hq)
          have hFC := sC _ _ hF9
          have ilen : i < zk.length := (List.getElem?_eq_some_iff.mp hc).1
          refine ⟨Fa, _, _, rfl, rfl, hFC, (by rw [List.length_map, sizeL]; omega), ?_⟩
          refine ⟨fun b' o hb' e => by rw [upd_ne hb']; exact sC _ _ (n9 _ _ hb' e), fun b' o e n => ?_, tabs_lst (t9.ext sC) hFC, acc ++ [q], _, _, ?_, ?_, ?_, rfl⟩
          · rw [upd_ne (nF b' o e n)]
            exact sC _ _ (e09 b' o e n)
          · rw [upd_same, List.map_append]
            rfl
          · rw [more ot hlo, List.map_append]
            refine Paired.snoc (TupsAt.same hacc fun b' t e => ?_) ?_
            · have eC := sC _ _ e
              rw [upd_ne (ne_of eC hFC (fun z => nomatch z))]
              exact eC
            · have qF : q ≠ Fa := (ne_of_none (s10 _ _ (sA _ _ hF9)) hq).symm
              rw [upd_ne qF, upd_same]
              rfl
          · rw [List.length_append]
            simp
            omega
    · obtain ⟨n9, e09, t9, acc, u9, u10, hF9, hacc, hal, rfl⟩ := h
      rw [List.length_map, klen, List.take_length] at hacc
      exact ⟨_, rfl, k _ Fa acc e09 t9 hF9 hacc⟩
end
end S
set_option Elab.async false
set_option linter.all false
set_option maxRecDepth 100000
set_option maxHeartbeats 4000000
/-! # the plain world: stands by rules, pokes, first stands -/
namespace S
open PySem PySem.Spec PyProof.Rows L2 G SrtO
theorem lkP_nil (c : Cell) : lkP [] c = none := rfl
theorem lkP_cons (e : Ent) (es : List Ent) (c : Cell) : lkP (e :: es) c = if e.1 = c then some e.2 else lkP es c := by
  unfold lkP
  by_cases h : e.1 = c
  · rw [List.find?_cons_of_pos (by simpa using h), if_pos h]
    rfl
  · rw [List.find?_cons_of_neg (by simpa using h), if_neg h]
theorem lkP_mem {c : Cell} {v : Int} : ∀ {es : List Ent}, lkP es c = some v → (c, v) ∈ es
  | [], h => by cases h
  | e :: es, h => by
    rw [lkP_cons] at h
    by_cases z : e.1 = c
    · rw [if_pos z] at h
      cases h
      subst z
      exact List.mem_cons_self ..
    · rw [if_neg z] at h
      exact List.mem_cons_of_mem _ (lkP_mem h)
theorem lkP_none {c : Cell} : ∀ {es : List Ent}, lkP es c = none ↔ c ∉ es.map (·.1)
  | [] => by simp [lkP_nil]
  | e :: es => by
    rw [lkP_cons, List.map_cons, List.mem_cons]
    by_cases z : e.1 = c
    · rw [if_pos z]
      simp [z]
    · rw [if_neg z, lkP_none (es := es)]
      have : ¬ c = e.1 := fun y => z y.symm
      simp [this]
theorem lkP_isSome {c : Cell} {es : List Ent} : (lkP es c).isSome = true ↔ c ∈ es.map (·.1) := by
  cases h : lkP es c with
  | none =>
    have := lkP_none.mp h
    simp [this]
  | some v =>
    have := lkP_mem h
    simp only [Option.isSome_some, true_iff]
    exact List.mem_map.mpr ⟨_, this, rfl⟩
theorem lkP_app (a b : List Ent) (c : Cell) : lkP (a ++ b) c = (lkP a c).or (lkP b c) := by
  induction a with
  | nil => rfl
  | cons e a ih =>
    rw [List.cons_append, lkP_cons, lkP_cons, ih]
    by_cases z : e.1 = c
    · rw [if_pos z, if_pos z]; rfl
    · rw [if_neg z, if_neg z]
theorem lkP_nd {c : Cell} {v : Int} : ∀ {es : List Ent}, (es.map (·.1)).Nodup → (c, v) ∈ es → lkP es c = some v
  | e :: es, hn, h => by
    rw [lkP_cons]
    rw [List.map_cons, List.nodup_cons] at hn
    rcases List.mem_cons.mp h with rfl | h
    · rw [if_pos rfl]
    · have : e.1 ≠ c := fun z => hn.1 (z ▸ List.mem_map_of_mem (f := (·.1)) h)
      rw [if_neg this]
      exact lkP_nd hn.2 h
/-! ### what a rule tells -/
theorem place_bd {rs : List RoomD} (g : Int → Int) : ∀ (l : List Int) (p f : Int), (∀ h ∈ l, 0 ≤ g h ∧ g h < (rAt rs h).size) → 0 ≤ p → p < f →
    0 ≤ (l.zip (l.map g)).foldl (fun p hs => p * (rAt rs hs.1).size + hs.2) p ∧ (l.zip (l.map g)).foldl (fun p hs => p * (rAt rs hs.1).size + hs.2) p < l.foldl (fun f h => f * (rAt rs h).size) f
  | [], p, f, _, h0, h1 => ⟨h0, h1⟩
  | h :: l, p, f, hl, h0, h1 => by
    obtain ⟨g0, g1⟩ := hl h (List.mem_cons_self ..)
    have a0 : 0 ≤ p * (rAt rs h).size := Int.mul_nonneg h0 (by omega)
    have a1 : (p + 1) * (rAt rs h).size ≤ f * (rAt rs h).size := Int.mul_le_mul_of_nonneg_right (by omega) (by omega)
    rw [Int.add_mul, Int.one_mul] at a1
    exact place_bd g l (p * (rAt rs h).size + g h) (f * (rAt rs h).size) (fun x hx => hl x (List.mem_cons_of_mem _ hx)) (by omega) (by omega)
theorem ok_room {rs : List RoomD} (hw : OkWeb rs) {r : Int} (hr : InR rs r) : OkRoom rs (rAt rs r) := hw.2.2 _ (rAt_mem hr.1 hr.2)
theorem hears_in {rs : List RoomD} (hw : OkWeb rs) {r h : Int} (hr : InR rs r) (hh : h ∈ (rAt rs r).hears) : InR rs h := (ok_room hw hr).2.1 h hh
theorem told_ok {rs : List RoomD} (hw : OkWeb rs) {r : Int} (hr : InR rs r) (g : Int → Int) (hg : ∀ h ∈ (rAt rs r).hears, 0 ≤ g h ∧ g h < (rAt rs h).size) : ∃ v, toldF rs r ((rAt rs r).hears.map g) = some v ∧ 0 ≤ v ∧ v < (rAt rs r).size := by
  obtain ⟨_, _, _, _, _, k6, _, k8⟩ := ok_room hw hr
  obtain ⟨p0, p1⟩ := place_bd (rs := rs) g (rAt rs r).hears 0 1 hg (by decide) (by decide)
  have p1' : placeF rs (rAt rs r).hears ((rAt rs r).hears.map g) < rowsF rs (rAt rs r).hears := p1
  have p0' : 0 ≤ placeF rs (rAt rs r).hears ((rAt rs r).hears.map g) := p0
  rw [k6] at p1'
  have hl : (placeF rs (rAt rs r).hears ((rAt rs r).hears.map g)).toNat < (rAt rs r).rule.length := by omega
  have hm := k8 _ (List.getElem_mem hl)
  refine ⟨_, atI_int p0' (List.getElem?_eq_getElem hl), hm.1, by omega⟩
/-! ### the stands of the plain world -/
def stP (rs : List RoomD) (es : List Ent) : Nat → Int → Int
  | 0, r => stF rs es (r, 0)
  | n + 1, r => match lkP es (r, ((n + 1 : Nat) : Int)) with
    | some v => v
    | none => (toldF rs r ((rAt rs r).hears.map (stP rs es n))).getD 0
def wv (rs : List RoomD) (es : List Ent) (c : Cell) : Int := stP rs es c.2.toNat c.1
def PinsOk (rs : List RoomD) (es : List Ent) : Prop := ∀ e ∈ es, 0 ≤ e.2 ∧ e.2 < (rAt rs e.1.1).size
theorem stF_bd {rs : List RoomD} (hw : OkWeb rs) {es : List Ent} (hp : PinsOk rs es) {c : Cell} (hc : InR rs c.1) : 0 ≤ stF rs es c ∧ stF rs es c < (rAt rs c.1).size := by
  unfold stF
  cases h : lkP es c with
  | none =>
    obtain ⟨_, _, _, _, ⟨a, b⟩, _⟩ := ok_room hw hc
    exact ⟨a, by show (rAt rs c.1).first < _; omega⟩
  | some v => exact hp _ (lkP_mem h)
theorem stP_bd {rs : List RoomD} (hw : OkWeb rs) {es : List Ent} (hp : PinsOk rs es) : ∀ (n : Nat) (r : Int), InR rs r → 0 ≤ stP rs es n r ∧ stP rs es n r < (rAt rs r).size
  | 0, r, hr => stF_bd hw hp (c := (r, 0)) hr
  | n + 1, r, hr => by
    unfold stP
    cases h : lkP es (r, ((n + 1 : Nat) : Int)) with
    | some v => exact hp _ (lkP_mem h)
    | none =>
      obtain ⟨v, e, a, b⟩ := told_ok hw hr (stP rs es n) fun x hx => stP_bd hw hp n x (hears_in hw hr hx)
      dsimp only
      rw [e]
      exact ⟨a, b⟩
theorem wv_bd {rs : List RoomD} (hw : OkWeb rs) {es : List Ent} (hp : PinsOk rs es) {c : Cell} (hc : InR rs c.1) : 0 ≤ wv rs es c ∧ wv rs es c < (rAt rs c.1).size := stP_bd hw hp _ _ hc
theorem knP_iff {es : List Ent} {c : Cell} : knP es c = true ↔ c.2 = 0 ∨ (lkP es c).isSome = true := by
  unfold knP
  rw [Bool.or_eq_true, decide_eq_true_iff]
theorem knP_no {es : List Ent} {c : Cell} : knP es c = false ↔ c.2 ≠ 0 ∧ lkP es c = none := by
  unfold knP
  rw [Bool.or_eq_false_iff, decide_eq_false_iff_not, Option.isSome_eq_false_iff, Option.isNone_iff_eq_none]
theorem wv_kn {rs : List RoomD} {es : List Ent} {c : Cell} (h0 : 0 ≤ c.2) (h : knP es c = true) : wv rs es c = stF rs es c := by
  obtain ⟨r, b⟩ := c
  obtain ⟨n, rfl⟩ := Int.eq_ofNat_of_zero_le h0
  unfold wv
  show stP rs es (n : Int).toNat r = _
  rw [Int.toNat_natCast]
  cases n with
  | zero => rfl
  | succ n =>
    rcases knP_iff.mp h with h | h
    · have h : ((n + 1 : Nat) : Int) = 0 := h
      omega
    · unfold stP stF
      cases e : lkP es (r, ((n + 1 : Nat) : Int)) with
      | none => rw [e] at h; cases h
      | some v => rfl
theorem wv_step {rs : List RoomD} (hw : OkWeb rs) {es : List Ent} (hp : PinsOk rs es) {c : Cell} (hc : InR rs c.1) (h0 : 0 ≤ c.2) (h : knP es c = false) : toldF rs c.1 ((heardC rs c).map (wv rs es)) = some (wv rs es c) := by
  obtain ⟨r, b⟩ := c
  obtain ⟨n, rfl⟩ := Int.eq_ofNat_of_zero_le h0
  obtain ⟨h1, h2⟩ := knP_no.mp h
  cases n with
  | zero => exact absurd rfl h1
  | succ n =>
    have e : (heardC rs (r, ((n + 1 : Nat) : Int))).map (wv rs es) = (rAt rs r).hears.map (stP rs es n) := by
      unfold heardC
      rw [List.map_map]
      refine List.map_congr_left fun x _ => ?_
      show stP rs es (((n + 1 : Nat) : Int) - 1).toNat x = _
      rw [show (((n + 1 : Nat) : Int) - 1).toNat = n by omega]
    rw [e]
    obtain ⟨v, e2, _, _⟩ := told_ok hw hc (stP rs es n) fun x hx => stP_bd hw hp n x (hears_in hw hc hx)
    show toldF rs r _ = some (stP rs es (((n + 1 : Nat) : Int)).toNat r)
    rw [Int.toNat_natCast]
    unfold stP
    rw [h2]
    dsimp only
    rw [show toldF rs r ((rAt rs r).hears.map (stP rs es n)) = some v from e2]
    rfl
/-- a stand depends on what it needs alone -/
theorem stP_dep {rs : List RoomD} {es es' : List Ent} (U : Cell → Prop) (cl : ∀ c : Cell, U c → knP es c = false → ∀ h ∈ (rAt rs c.1).hears, U (h, c.2 - 1)) (ag : ∀ c, U c → lkP es c = lkP es' c) : ∀ (n : Nat) (r : Int), U (r, (n : Int)) → stP rs es n r = stP rs es' n r
  | 0, r, h => by
    show stF rs es (r, 0) = stF rs es' (r, 0)
    unfold stF
    rw [show lkP es (r, 0) = lkP es' (r, 0) from ag _ h]
  | n + 1, r, h => by
    unfold stP
    rw [← ag _ h]
    cases e : lkP es (r, ((n + 1 : Nat) : Int)) with
    | some v => rfl
    | none =>
      have kn : knP es (r, ((n + 1 : Nat) : Int)) = false := knP_no.mpr ⟨by show ((n + 1 : Nat) : Int) ≠ 0; omega, e⟩
      dsimp only
      rw [show (rAt rs r).hears.map (stP rs es n) = (rAt rs r).hears.map (stP rs es' n) from List.map_congr_left fun x hx => stP_dep U cl ag n x (by
        have := cl _ h kn x hx
        have e2 : ((n + 1 : Nat) : Int) - 1 = (n : Int) := by omega
        rw [show (((r, ((n + 1 : Nat) : Int)) : Cell)).2 - 1 = (n : Int) from e2] at this
        exact this)]
theorem wv_dep {rs : List RoomD} {es es' : List Ent} (U : Cell → Prop) (cl : ∀ c : Cell, U c → knP es c = false → ∀ h ∈ (rAt rs c.1).hears, U (h, c.2 - 1)) (ag : ∀ c, U c → lkP es c = lkP es' c) {c : Cell} (h0 : 0 ≤ c.2) (hc : U c) : wv rs es c = wv rs es' c := by
  obtain ⟨r, b⟩ := c
  obtain ⟨n, rfl⟩ := Int.eq_ofNat_of_zero_le h0
  unfold wv
  show stP rs es (n : Int).toNat r = stP rs es' (n : Int).toNat r
  rw [Int.toNat_natCast]
  exact stP_dep U cl ag n r hc
/-! ### what is needed, as a list -/
theorem need_bd {rs : List RoomD} (hw : OkWeb rs) {kn : Cell → Bool} {c0 : Cell} (hi : InR rs c0.1) (h0 : 0 ≤ c0.2) (hk : ∀ c : Cell, c.2 = 0 → kn c = true) {c : Cell} (h : Need rs kn [c0] c) : InR rs c.1 ∧ 0 ≤ c.2 ∧ c.2 ≤ c0.2 := by
  induction h with
  | base h =>
    rw [List.mem_singleton.mp h]
    exact ⟨hi, h0, Int.le_refl _⟩
  | @step c h n k m ih =>
    obtain ⟨a, b, d⟩ := ih
    refine ⟨hears_in hw a m, ?_, ?_⟩
    · show 0 ≤ c.2 - 1
      have : c.2 ≠ 0 := fun z => by rw [hk c z] at k; cases k
      omega
    · show c.2 - 1 ≤ c0.2
      omega
def boxL (n m : Nat) : List Cell := (List.range n).flatMap fun (r : Nat) => (List.range m).map fun (b : Nat) => (((r : Int), (b : Int)) : Cell)
theorem boxL_mem {n m : Nat} {c : Cell} : c ∈ boxL n m ↔ 0 ≤ c.1 ∧ c.1 < n ∧ 0 ≤ c.2 ∧ c.2 < m := by
  unfold boxL
  simp only [List.mem_flatMap, List.mem_map, List.mem_range]
  constructor
  · rintro ⟨r, hr, b, hb, rfl⟩
    refine ⟨?_, ?_, ?_, ?_⟩ <;> (dsimp only; omega)
  · rintro ⟨h1, h2, h3, h4⟩
    refine ⟨c.1.toNat, by omega, c.2.toNat, by omega, Prod.ext ?_ ?_⟩
    · show ((c.1.toNat : Nat) : Int) = c.1
      omega
    · show ((c.2.toNat : Nat) : Int) = c.2
      omega
theorem boxL_succ (n m : Nat) : boxL (n + 1) m = boxL n m ++ (List.range m).map fun (b : Nat) => (((n : Int), (b : Int)) : Cell) := by
  unfold boxL
  rw [List.range_succ, List.flatMap_append]
  simp
theorem boxL_len (n m : Nat) : (boxL n m).length = n * m := by
  induction n with
  | zero => simp [boxL]
  | succ n ih =>
    rw [boxL_succ, List.length_append, ih, List.length_map, List.length_range, Nat.succ_mul]
theorem boxL_nd (n m : Nat) : (boxL n m).Nodup := by
  induction n with
  | zero => exact List.nodup_nil
  | succ n ih =>
    rw [boxL_succ]
    refine List.nodup_append.mpr ⟨ih, ?_, fun a ha b hb z => ?_⟩
    · refine List.pairwise_map.mpr (List.nodup_range.imp fun h z => h ?_)
      have := congrArg Prod.snd z
      dsimp only at this
      omega
    · subst z
      obtain ⟨x, _, rfl⟩ := List.mem_map.mp hb
      have := (boxL_mem.mp ha).2.1
      dsimp only at this
      omega
theorem lexNo_trans {a b c : Int × Int} (h1 : lexB b a = false) (h2 : lexB c b = false) : lexB c a = false := by
  obtain ⟨a1, a2⟩ := a
  obtain ⟨b1, b2⟩ := b
  obtain ⟨c1, c2⟩ := c
  unfold lexB at *
  dsimp only at *
  split at h1 <;> split at h2 <;> split <;> simp only [decide_eq_false_iff_not] at * <;> omega
theorem lexNo_total (a b : Int × Int) : lexB b a = false ∨ lexB a b = false := by
  obtain ⟨a1, a2⟩ := a
  obtain ⟨b1, b2⟩ := b
  unfold lexB
  dsimp only
  split <;> split <;> simp only [decide_eq_false_iff_not] <;> omega
theorem sort_ex (κ : Cell → Cell) (l : List Cell) : ∃ r : List Cell, r.Perm l ∧ r.Pairwise fun x y => lexB (κ y) (κ x) = false := by
  refine ⟨l.mergeSort fun x y => !lexB (κ y) (κ x), List.mergeSort_perm .., ?_⟩
  have := List.pairwise_mergeSort (le := fun x y => !lexB (κ y) (κ x)) (fun a b c h1 h2 => by
    rw [Bool.not_eq_true'] at *
    exact lexNo_trans h1 h2) (fun a b => by
    rw [Bool.or_eq_true, Bool.not_eq_true', Bool.not_eq_true']
    exact lexNo_total _ _) l
  exact this.imp fun h => by rw [Bool.not_eq_true'] at h; exact h
theorem uok_ex {rs : List RoomD} (hw : OkWeb rs) {kn : Cell → Bool} {c0 : Cell} (hi : InR rs c0.1) (h0 : 0 ≤ c0.2) (h1 : c0.2 ≤ 1000) (hk : ∀ c : Cell, c.2 = 0 → kn c = true) : ∃ U, UOk rs kn c0 U ∧ U.Pairwise (fun x y => lexB y x = false) := by
  classical
  obtain ⟨U, pm, ps⟩ := sort_ex id ((boxL rs.length (c0.2.toNat + 1)).filter fun c => decide (Need rs kn [c0] c))
  have hm : ∀ c, c ∈ U ↔ Need rs kn [c0] c := fun c => by
    rw [pm.mem_iff, List.mem_filter, decide_eq_true_iff]
    refine ⟨fun h => h.2, fun h => ⟨boxL_mem.mpr ?_, h⟩⟩
    obtain ⟨⟨a, b⟩, d, e⟩ := need_bd hw hi h0 hk h
    exact ⟨a, by omega, d, by omega⟩
  refine ⟨U, ⟨?_, ?_, fun c hc => ?_, (hm _).mpr (.base (List.mem_singleton.mpr rfl)), fun c hc k h hh => (hm _).mpr (.step ((hm _).mp hc) k hh), fun c hc => (hm _).mp hc⟩, ps⟩
  · exact pm.nodup_iff.mpr ((boxL_nd _ _).filter _)
  · rw [pm.length_eq]
    refine Nat.le_trans (List.length_filter_le _ _) ?_
    rw [boxL_len]
    have : rs.length * (c0.2.toNat + 1) ≤ 12 * 1001 := Nat.mul_le_mul hw.2.1 (by omega)
    omega
  · exact (need_bd hw hi h0 hk ((hm _).mp hc)).1
theorem cntC_le {rs : List RoomD} {kn : Cell → Bool} {c : Cell} (hc : InR rs c.1) : ∀ n : Nat, 0 ≤ cntC rs kn c n ∧ cntC rs kn c n ≤ rs.length * n
  | 0 => ⟨Int.le_refl _, by show (0 : Int) ≤ _ * ((0 : Nat) : Int); simp⟩
  | n + 1 => by
    obtain ⟨a, b⟩ := cntC_le (kn := kn) hc n
    have si := layC_si (rs := rs) (kn := kn) (c := c) hc n
    have hl : ((layC rs kn c n).filter fun r => !kn (r, c.2 - n)).length ≤ rs.length := Nat.le_trans (List.length_filter_le _ _) (room_len (nodup_ints si.1) si.2)
    show 0 ≤ cntC rs kn c n + _ ∧ cntC rs kn c n + _ ≤ _
    have e : (rs.length : Int) * ((n + 1 : Nat) : Int) = rs.length * (n : Int) + rs.length := by
      rw [show ((n + 1 : Nat) : Int) = (n : Int) + 1 by omega, Int.mul_add, Int.mul_one]
    rw [e]
    omega
end S
set_option Elab.async false
set_option linter.all false
set_option maxRecDepth 100000
set_option maxHeartbeats 4000000
/-! # House: its data, what it asks of itself -/
namespace S
open PySem PySem.Spec PyProof.Rows L2 G LamX NdefX
/-- where a house's parts lie -/
structure HA where
  x : Addr
  dx : Addr
  wb : Addr
  p : Addr
  r : Addr
  a : Addr
  h : Addr
  l : Addr
  k : Addr
  ro : Addr
  ft : Addr
abbrev hf (A : HA) (b : Bool) : List (Str × V) := [("of_web", .ref A.wb), ("pins", .ref A.p), ("run", .ref A.r), ("asked", .ref A.a), ("heard", .ref A.h), ("looked", .ref A.l), ("kept", .ref A.k), ("roads", .ref A.ro), ("far_tops", .ref A.ft), ("is_busy", .bl b)]
theorem hf_web {A : HA} {b : Bool} : (hf A b).lookup ("of_web" : Str) = some (.ref A.wb) := by kernel_rfl
theorem hf_pins {A : HA} {b : Bool} : (hf A b).lookup ("pins" : Str) = some (.ref A.p) := by kernel_rfl
theorem hf_run {A : HA} {b : Bool} : (hf A b).lookup ("run" : Str) = some (.ref A.r) := by kernel_rfl
theorem hf_asked {A : HA} {b : Bool} : (hf A b).lookup ("asked" : Str) = some (.ref A.a) := by kernel_rfl
theorem hf_heard {A : HA} {b : Bool} : (hf A b).lookup ("heard" : Str) = some (.ref A.h) := by kernel_rfl
theorem hf_looked {A : HA} {b : Bool} : (hf A b).lookup ("looked" : Str) = some (.ref A.l) := by kernel_rfl
theorem hf_kept {A : HA} {b : Bool} : (hf A b).lookup ("kept" : Str) = some (.ref A.k) := by kernel_rfl
theorem hf_roads {A : HA} {b : Bool} : (hf A b).lookup ("roads" : Str) = some (.ref A.ro) := by kernel_rfl
theorem hf_tops {A : HA} {b : Bool} : (hf A b).lookup ("far_tops" : Str) = some (.ref A.ft) := by kernel_rfl
theorem hf_busy {A : HA} {b : Bool} : (hf A b).lookup ("is_busy" : Str) = some (.bl b) := by kernel_rfl
theorem hf_put {A : HA} {b c : Bool} : putF "is_busy" (.bl c) (hf A b) = hf A c := by kernel_rfl
theorem hf_all {A : HA} {b : Bool} : putF "is_busy" (.bl b) (putF "far_tops" (.ref A.ft) (putF "roads" (.ref A.ro) (putF "kept" (.ref A.k) (putF "looked" (.ref A.l) (putF "heard" (.ref A.h) (putF "asked" (.ref A.a) (putF "run" (.ref A.r) (putF "pins" (.ref A.p) (putF "of_web" (.ref A.wb) []))))))))) = hf A b := by kernel_rfl
theorem hf_m {A : HA} {b : Bool} {m : Str} (h : ((["of_web", "pins", "run", "asked", "heard", "looked", "kept", "roads", "far_tops", "is_busy"] : List Str).contains m) = false := by decide +kernel) : (hf A b).lookup m = none := by
  have h : ∀ s ∈ (["of_web", "pins", "run", "asked", "heard", "looked", "kept", "roads", "far_tops", "is_busy"] : List Str), (m == s) = false := fun s hs => by
    cases e : m == s with
    | false => rfl
    | true =>
      rw [beq_iff_eq.mp e, List.contains_iff_mem.mpr hs] at h
      cases h
  have g : ∀ l : List (Str × V), (∀ q ∈ l, (m == q.1) = false) → l.lookup m = none := fun l => by
    induction l with
    | nil => exact fun _ => rfl
    | cons q r ih =>
      intro hq
      obtain ⟨s, v⟩ := q
      show (match m == s with | true => some v | false => r.lookup m) = none
      rw [hq (s, v) (List.mem_cons_self ..)]
      exact ih fun z hz => hq z (List.mem_cons_of_mem _ hz)
  refine g _ fun q hq => h q.1 ?_
  exact List.mem_map.mpr ⟨q, hq, rfl⟩
/-- a house without fars: what it knows -/
structure HouseD where
  pins : List Ent
  run : List Ent
  asked : List Cell
  heard : List Cell
  looked : List Cell
  kept : List Cell
abbrev entN (c : Cell) : List L2.Key × V := (cK c, V.non)
theorem valV_N (c : Cell) : ∀ l : List Cell, valV (l.map entN) (cK c) = if c ∈ l then some .non else none
  | [] => by simp [valV_nil]
  | d :: l => by
    rw [List.map_cons]
    by_cases h : d = c
    · subst h
      rw [valV_pos rfl]
      simp
    · rw [valV_neg (fun z => h (cK_inj z)), valV_N c l]
      have h' : ¬ c = d := fun z => h z.symm
      simp [h']
def HA.own (A : HA) : List Addr := [A.x, A.p, A.r, A.a, A.h, A.l, A.k]
structure HC (K : PySem.W.Frag) (H : Hp) (A : HA) (rs : List RoomD) (d : HouseD) (b : Bool) : Prop where
  ob : H A.x = some (.ins (cHouse K) A.dx (hf A b))
  wb : WebAt K H A.wb rs
  pn : H A.p = some (.dT (d.pins.map entI))
  rn : H A.r = some (.dT (d.run.map entI))
  ak : H A.a = some (.dT (d.asked.map entN))
  hd : H A.h = some (.dT (d.heard.map entN))
  lk : H A.l = some (.dT (d.looked.map entN))
  kp : H A.k = some (.dT (d.kept.map entN))
  ro : H A.ro = some (.lst [])
  ft : H A.ft = some (.lst (List.replicate rs.length .non))
  nd : [A.p, A.r, A.a, A.h, A.l, A.k].Nodup
section
variable {K : PySem.W.Frag} {H H' : Hp} {A : HA} {rs : List RoomD} {d : HouseD} {b : Bool}
theorem HC.ext (h : HC K H A rs d b) (e : ExtN H H') : HC K H' A rs d b :=
  ⟨extN_get e h.ob, h.wb.ext e, extN_get e h.pn, extN_get e h.rn, extN_get e h.ak, extN_get e h.hd, extN_get e h.lk, extN_get e h.kp, extN_get e h.ro, extN_get e h.ft, h.nd⟩
theorem HC.same (h : HC K H A rs d b) (s : Same H H') : HC K H' A rs d b := h.ext (ExtN.of s)
end
/-- what needs no run: poked, a first one, run -/
def kH (d : HouseD) (c : Cell) : Bool := (lkP d.run c).isSome || knP d.pins c
/-- the stand at hand, or known -/
def stH (rs : List RoomD) (d : HouseD) (c : Cell) : Int := (lkP d.run c).getD (stF rs d.pins c)
def seenH (d : HouseD) (c : Cell) : Bool := decide (c ∈ d.looked) || ((lkP d.run c).isSome || decide (c ∈ d.heard))
theorem tops_at {n : Nat} {i : Int} (h0 : 0 ≤ i) (h1 : i ≤ (n : Int) - 1) : atI (List.replicate n V.non) i = some .non := atI_int h0 (by rw [List.getElem?_replicate]; exact if_pos (by omega))
theorem some_in (o : Option Int) (c : Prop) [Decidable c] : (if c then some V.non else none : Option V).isSome = decide c := by
  by_cases h : c <;> simp [h]
section
variable {P : Program} {w : World} {K : PySem.W.Frag} {mg : Str → Option Value} {base : Heap}
theorem ok_H_look_free (T : Tx K mg) : ML P w K mg base CX0 1 (cHouse K) "look_free" ["self"] (fun vs H Q _ => ∃ (A : HA) (rs : List RoomD) (d : HouseD), vs = [.ref A.x] ∧ HC K H A rs d false ∧ Q .non H) := by
  refine ML.of0 T.d_House_look_free T.c_House T.t_House_look_free sc_House_look_free b_House_look_free (fun vs H Q E h => ?_) (fun f cdv A outer s H vs Q E hr h => ?_)
  · obtain ⟨A, rs, d, rfl, _⟩ := h; rfl
  · obtain ⟨A, rs, d, rfl, hH, k⟩ := h
    refine ⟨_, pss_one (ps_if (pt_val (pe_fld (pv 0) rfl)) pss_never pss_nil), ?_⟩
    exact ⟨_, rfl, _, _, _, _, _, rfl, hH.ob, T.c_House, T.n_House_is_busy, hf_busy, _, rfl, iteF k⟩
/-- told of a cell -/
def spC (K : PySem.W.Frag) (f : List RoomD → HouseD → Cell → V) : Sp := fun vs H Q _ => ∃ (A : HA) (t : Addr) (rs : List RoomD) (d : HouseD) (b : Bool) (c : Cell), vs = [.ref A.x, .ref t] ∧ HC K H A rs d b ∧ H t = some (.tup (cV c)) ∧ InR rs c.1 ∧ Q (f rs d c) H
theorem ok_H_is_forgotten (T : Tx K mg) : ML P w K mg base CX0 1 (cHouse K) "is_forgotten" ["self", "cell"] (spC K fun _ _ _ => .bl false) := by
  refine ML.of0 T.d_House_is_forgotten T.c_House T.t_House_is_forgotten sc_House_is_forgotten b_House_is_forgotten (fun vs H Q E h => ?_) (fun f cdv A outer s H vs Q E hr h => ?_)
  · obtain ⟨A, t, rs, d, b, c, rfl, _⟩ := h; rfl
  · obtain ⟨A, t, rs, d, b, c, rfl, hH, ht, _, k⟩ := h
    refine ⟨_, pss_one (ps_ret (pe_and (pe_cmp (pc_din (hu_of hr) (pv 1) (pe_fld (pv 0) rfl))) (pe_one (pe_cmpR op_isN (pe_dget (hu_of hr) (pe_fld (pv 0) rfl) (pv 1) (fun _ _ => rfl)) pe_non (nomark _))))), ?_⟩
    refine ⟨_, rfl, _, rfl, _, _, _, _, _, rfl, hH.ob, T.c_House, T.n_House_run, hf_run, A.r, _, rfl, DGet.t (k := cK c) hH.rn ht, _, rfl, ?_⟩
    rw [valV_ent, Option.isSome_map]
    cases e : lkP d.run c with
    | none => exact iteF k
    | some v =>
      refine iteT ⟨_, rfl, _, _, _, _, _, rfl, hH.ob, T.c_House, T.n_House_run, hf_run, _, rfl, A.r, .int v, rfl, ?_, rfl, ?_⟩
      · have := DGet.t (k := cK c) hH.rn ht
        rw [valV_ent, e] at this
        exact this
      · exact k
theorem ok_H_look_forgotten (T : Tx K mg) : ML P w K mg base CX0 2 (cHouse K) "look_forgotten" ["self", "cell"] (spC K fun _ _ _ => .non) := by
  have G1 := ok_H_is_forgotten (P := P) (w := w) (base := base) T
  refine ML.of0 T.d_House_look_forgotten T.c_House T.t_House_look_forgotten sc_House_look_forgotten b_House_look_forgotten (fun vs H Q E h => ?_) (fun f cdv A outer s H vs Q E hr h => ?_)
  · obtain ⟨A, t, rs, d, b, c, rfl, _⟩ := h; rfl
  · obtain ⟨A, t, rs, d, b, c, rfl, hH, ht, hi, k⟩ := h
    refine ⟨_, pss_one (ps_if (pt_val (pe_ml G1 hr (by decide) pass0 (pv 0) (pa_cons (pv 1) pa_nil))) pss_never pss_nil), ?_⟩
    exact ⟨_, rfl, _, _, _, rfl, hH.ob, hf_m, _, rfl, A, t, rs, d, b, c, rfl, hH, ht, hi, _, rfl, iteF k⟩
theorem ok_H_is_far (T : Tx K mg) : ML P w K mg base CX0 1 (cHouse K) "is_far" ["self", "cell"] (spC K fun _ _ _ => .bl false) := by
  have nd := sc_House_is_far.nd
  refine ML.of0 T.d_House_is_far T.c_House T.t_House_is_far sc_House_is_far b_House_is_far (fun vs H Q E h => ?_) (fun f cdv A outer s H vs Q E hr h => ?_)
  · obtain ⟨A, t, rs, d, b, c, rfl, _⟩ := h; rfl
  · obtain ⟨A, t, rs, d, b, c, rfl, hH, ht, hi, k⟩ := h
    refine ⟨_, (pss_cons (ps_set (i := 2) nd rfl (Or.inl rfl) (pe_ix ix_list (pe_fld (pv 0) rfl) (pe_ix ix_tup (pv 1) pe_int (fun _ _ => rfl)) (fun _ _ => rfl)))
      (pss_one (ps_ret (pe_and (pe_cmpR op_notN (pv 2) pe_non (nomark _)) (pe_one (pe_cmpR op_le (pe_ix ix_tup (pv 1) pe_int (fun _ _ => rfl)) (pv 2) (nomark _))))))), ?_⟩
    refine ⟨_, rfl, _, _, _, _, _, rfl, hH.ob, T.c_House, T.n_House_far_tops, hf_tops, _, rfl, t, _, _, .int c.1, rfl, rfl, SqT.of ht, rfl, A.ft, _, _, .non, rfl, rfl, SqL.of hH.ft, tops_at hi.1 hi.2, ?_⟩
    exact ⟨_, rfl, rfl, _, rfl, iteF k⟩
theorem ok_H_is_given (T : Tx K mg) : ML P w K mg base CX0 2 (cHouse K) "is_given" ["self", "cell"] (spC K fun _ d c => .bl (knP d.pins c)) := by
  have G1 : CL P w K mg base CX0 1 "is_known" ["cell", "pokes"] spIsKnown := ok_is_known T
  have G2 := ok_H_is_far (P := P) (w := w) (base := base) T
  refine ML.of0 T.d_House_is_given T.c_House T.t_House_is_given sc_House_is_given b_House_is_given (fun vs H Q E h => ?_) (fun f cdv A outer s H vs Q E hr h => ?_)
  · obtain ⟨A, t, rs, d, b, c, rfl, _⟩ := h; rfl
  · obtain ⟨A, t, rs, d, b, c, rfl, hH, ht, hi, k⟩ := h
    refine ⟨_, pss_one (ps_ret (pe_or (pe_cl G1 hr (by decide) pass0 (pa_cons (pv 1) (pa_cons (pe_fld (pv 0) rfl) pa_nil))) (pe_one (pe_ml G2 hr (by decide) pass0 (pv 0) (pa_cons (pv 1) pa_nil))))), ?_⟩
    refine ⟨_, rfl, _, rfl, _, _, _, _, _, rfl, hH.ob, T.c_House, T.n_House_pins, hf_pins, t, .ref A.p, c, d.pins, rfl, ht, .inr ⟨A.p, rfl, hH.pn⟩, _, rfl, ?_⟩
    dsimp only at k
    cases e : knP d.pins c with
    | true =>
      rw [e] at k
      exact iteT k
    | false =>
      rw [e] at k
      exact iteF ⟨_, rfl, _, _, _, rfl, hH.ob, hf_m, _, rfl, A, t, rs, d, b, c, rfl, hH, ht, hi, k⟩
theorem ok_H_needs_none (T : Tx K mg) : ML P w K mg base CX0 3 (cHouse K) "needs_none" ["self", "cell"] (spC K fun _ d c => .bl (kH d c)) := by
  have G2 := ok_H_is_given (P := P) (w := w) (base := base) T
  refine ML.of0 T.d_House_needs_none T.c_House T.t_House_needs_none sc_House_needs_none b_House_needs_none (fun vs H Q E h => ?_) (fun f cdv A outer s H vs Q E hr h => ?_)
  · obtain ⟨A, t, rs, d, b, c, rfl, _⟩ := h; rfl
  · obtain ⟨A, t, rs, d, b, c, rfl, hH, ht, hi, k⟩ := h
    refine ⟨_, pss_one (ps_ret (pe_or (pe_cmp (pc_din (hu_of hr) (pv 1) (pe_fld (pv 0) rfl))) (pe_one (pe_ml G2 hr (by decide) pass0 (pv 0) (pa_cons (pv 1) pa_nil))))), ?_⟩
    refine ⟨_, rfl, _, rfl, _, _, _, _, _, rfl, hH.ob, T.c_House, T.n_House_run, hf_run, A.r, _, rfl, DGet.t (k := cK c) hH.rn ht, _, rfl, ?_⟩
    rw [valV_ent, Option.isSome_map]
    dsimp only at k
    unfold kH at k
    cases e : (lkP d.run c).isSome with
    | true =>
      rw [e] at k
      exact iteT k
    | false =>
      rw [e] at k
      exact iteF ⟨_, rfl, _, _, _, rfl, hH.ob, hf_m, _, rfl, A, t, rs, d, b, c, rfl, hH, ht, hi, k⟩
theorem ok_H_is_seen (T : Tx K mg) : ML P w K mg base CX0 2 (cHouse K) "is_seen" ["self", "cell"] (spC K fun _ d c => .bl (seenH d c)) := by
  have G2 := ok_H_is_far (P := P) (w := w) (base := base) T
  refine ML.of0 T.d_House_is_seen T.c_House T.t_House_is_seen sc_House_is_seen b_House_is_seen (fun vs H Q E h => ?_) (fun f cdv A outer s H vs Q E hr h => ?_)
  · obtain ⟨A, t, rs, d, b, c, rfl, _⟩ := h; rfl
  · obtain ⟨A, t, rs, d, b, c, rfl, hH, ht, hi, k⟩ := h
    refine ⟨_, pss_one (ps_ret (pe_or (pe_cmp (pc_din (hu_of hr) (pv 1) (pe_fld (pv 0) rfl))) (pe_or (pe_cmp (pc_din (hu_of hr) (pv 1) (pe_fld (pv 0) rfl))) (pe_or (pe_cmp (pc_din (hu_of hr) (pv 1) (pe_fld (pv 0) rfl))) (pe_one (pe_ml G2 hr (by decide) pass0 (pv 0) (pa_cons (pv 1) pa_nil))))))), ?_⟩
    dsimp only at k
    unfold seenH at k
    refine ⟨_, rfl, _, rfl, _, _, _, _, _, rfl, hH.ob, T.c_House, T.n_House_looked, hf_looked, A.l, _, rfl, DGet.t (k := cK c) hH.lk ht, _, rfl, ?_⟩
    rw [valV_N, some_in none]
    cases e : decide (c ∈ d.looked) with
    | true =>
      rw [e] at k
      exact iteT k
    | false =>
      rw [e] at k
      refine iteF ⟨_, rfl, _, rfl, _, _, _, _, _, rfl, hH.ob, T.c_House, T.n_House_run, hf_run, A.r, _, rfl, DGet.t (k := cK c) hH.rn ht, _, rfl, ?_⟩
      rw [valV_ent, Option.isSome_map]
      cases e2 : (lkP d.run c).isSome with
      | true =>
        rw [e2] at k
        exact iteT k
      | false =>
        rw [e2] at k
        refine iteF ⟨_, rfl, _, rfl, _, _, _, _, _, rfl, hH.ob, T.c_House, T.n_House_heard, hf_heard, A.h, _, rfl, DGet.t (k := cK c) hH.hd ht, _, rfl, ?_⟩
        rw [valV_N, some_in none]
        cases e3 : decide (c ∈ d.heard) with
        | true =>
          rw [e3] at k
          exact iteT k
        | false =>
          rw [e3] at k
          exact iteF ⟨_, rfl, _, _, _, rfl, hH.ob, hf_m, _, rfl, A, t, rs, d, b, c, rfl, hH, ht, hi, k⟩
/-- a stand at hand, or known -/
def spAt (K : PySem.W.Frag) : Sp := fun vs H Q _ => ∃ (A : HA) (t : Addr) (rs : List RoomD) (d : HouseD) (b : Bool) (c : Cell), vs = [.ref A.x, .ref t] ∧ HC K H A rs d b ∧ H t = some (.tup (cV c)) ∧ InR rs c.1 ∧ kH d c = true ∧ Q (.int (stH rs d c)) H
theorem ok_H_at_cell (T : Tx K mg) : ML P w K mg base CX0 3 (cHouse K) "at_cell" ["self", "cell"] (spAt K) := by
  have G1 : CL P w K mg base CX0 1 "is_known" ["cell", "pokes"] spIsKnown := ok_is_known T
  have G2 := ok_known_stand (P := P) (w := w) (base := base) T
  refine ML.of0 T.d_House_at_cell T.c_House T.t_House_at_cell sc_House_at_cell b_House_at_cell (fun vs H Q E h => ?_) (fun f cdv A outer s H vs Q E hr h => ?_)
  · obtain ⟨A, t, rs, d, b, c, rfl, _⟩ := h; rfl
  · obtain ⟨A, t, rs, d, b, c, rfl, hH, ht, hi, hk, k⟩ := h
    refine ⟨_, (pss_cons (ps_if (pt_cmp (pc_din (hu_of hr) (pv 1) (pe_fld (pv 0) rfl))) (pss_one (ps_ret (pe_dget (hu_of hr) (pe_fld (pv 0) rfl) (pv 1) (fun _ _ => rfl)))) pss_nil)
      (pss_cons (ps_if (pt_not (pt_val (pe_cl G1 hr (by decide) pass0 (pa_cons (pv 1) (pa_cons (pe_fld (pv 0) rfl) pa_nil))))) pss_never pss_nil)
      (pss_one (ps_ret (pe_cl G2 hr (by decide) pass0 (pa_cons (pe_fld (pv 0) rfl) (pa_cons (pv 1) (pa_cons (pe_fld (pv 0) rfl) pa_nil)))))))), ?_⟩
    refine ⟨_, rfl, _, rfl, _, _, _, _, _, rfl, hH.ob, T.c_House, T.n_House_run, hf_run, A.r, _, rfl, DGet.t (k := cK c) hH.rn ht, _, rfl, ?_⟩
    rw [valV_ent, Option.isSome_map]
    unfold kH at hk
    unfold stH at k
    cases e : lkP d.run c with
    | some v =>
      rw [e] at k
      refine iteT ⟨_, rfl, _, _, _, _, _, rfl, hH.ob, T.c_House, T.n_House_run, hf_run, _, rfl, A.r, .int v, rfl, ?_, k⟩
      have := DGet.t (k := cK c) hH.rn ht
      rw [valV_ent, e] at this
      exact this
    | none =>
      rw [e] at hk k
      have hk : knP d.pins c = true := hk
      refine iteF ?_
      refine ⟨_, rfl, _, rfl, _, _, _, _, _, rfl, hH.ob, T.c_House, T.n_House_pins, hf_pins, t, .ref A.p, c, d.pins, rfl, ht, .inr ⟨A.p, rfl, hH.pn⟩, _, rfl, ?_⟩
      rw [hk]
      refine iteF ?_
      exact ⟨_, rfl, _, _, _, _, _, rfl, hH.ob, T.c_House, T.n_House_of_web, hf_web, _, rfl, _, rfl, _, _, _, _, _, rfl, hH.ob, T.c_House, T.n_House_pins, hf_pins, A.wb, t, rs, c, .ref A.p, d.pins, rfl, hH.wb, ht, hi, .inr ⟨A.p, rfl, hH.pn⟩, k⟩
end
end S
set_option Elab.async false
set_option linter.all false
set_option maxRecDepth 100000
set_option maxHeartbeats 4000000
/-! # House.walked -/
namespace S
open PySem PySem.Spec PyProof.Rows L2 G LamX NdefX
abbrev scHL : Scope := { kind := .function, names := [("one", .local), ("self", .free)], isGenerator := false, isCoroutine := false }
theorem ndHW : ndefB (defScope s_House_walked) scHL ["self"] = true := by decide +kernel
theorem ndHL : ndefB (defScope s_House_look) scHL ["self"] = true := by decide +kernel
theorem nsHL : NScope ["one", "self"] ["one"] ["self"] scHL := nscope_by (by decide +kernel)
theorem ML.ofC {P : Program} {w : World} {K : PySem.W.Frag} {mg : Str → Option Value} {base : Heap} {m qual : Str} {st : Stmt} {d : He.Defn} {C : Addr} {N ps : List Str} {k : Nat} {sp : Sp} (F : ∃ fd, FunD K m qual (defArgs st) (defBody st) (defScope st) [] [] (He.fAd K d) fd) (c : Cls K C) (hm : Meth K C m (He.fAd K d)) (S : FnScope N ps (defScope st))
    (b : ∀ fd, FunD K m qual (defArgs st) (defBody st) (defScope st) [] [] (He.fAd K d) fd → Binds K fd ps []) (len : ∀ vs H Q E, sp vs H Q E → vs.length = ps.length) (hb : BodyC P w K mg base k N qual st d sp) : ML P w K mg base CX0 (k + 1) C m ps sp := by
  obtain ⟨fd, F⟩ := F
  exact ⟨_, fd, c, hm, fn_bodyC F S len hb, b fd F⟩
/-- the lambda of House: needs_none -/
theorem fv_hs {P : Program} {w : World} {K : PySem.W.Frag} {mg : Str → Option Value} {base : Heap} {H0 H1 H2 : Hp} {f : Addr} {F : LV.LF} {A : HA} {rs : List RoomD} {d : HouseD} (T : Tx K mg) (hH : HC K H0 A rs d false) (h01 : ExtN H0 H1) (hn : ∀ b ∈ LV.cellsL F.cl, H1 b = none) (he : ∀ b, b ∉ LV.cellsL F.cl → H2 b = H1 b)
    (hsc : F.scope = scHL) (hb : ∀ (pm ctv : Value) (us : List Value), us.length = 1 → bindArgs (F.fd pm ctv) ⟨us, []⟩ = pure ([("one" : Str)].zip us))
    (hbody : ∃ (p1 p2 p3 p4 : Pos) (pl : Env → Sem Bool), F.body = .Call (.Attribute (.Name "self" p1) "needs_none" p2) [.Name "one" p3] [] p4 ∧ ∀ env : Env, eval (.Call (.Attribute (.Name "self" p1) "needs_none" p2) [.Name "one" p3] [] p4) env = (do
      let ov ← eval (.Name "self" p1) env
      standAt p2.atName
      let (f, first) ← holding [ov] (getMethod ov "needs_none" (pl env))
      callWith p4 f first (backTo p4 (starEach [.Name "one" p3] env)) (backToKw p4 (keywordEach [] env))))
    (hf : H2 f = some (LV.LamO f F)) (hc : H2 F.c = some (CodeO F.c F.qual)) (C : LV.TrackAt F.cl ["self"] [.ref A.x] H2) :
    LV.FV P w K mg base C8.CX0 4 H2 f (spKn rs (kH d)) := by
  have GN := ok_H_needs_none (P := P) (w := w) (base := base) T
  obtain ⟨qual, params, body, scope, cl, c'⟩ := F
  obtain rfl : scope = scHL := hsc
  obtain ⟨p1, p2, p3, p4, pl, rfl, hev⟩ := hbody
  refine LV.fv_of (k := 3) (N := ["one", "self"]) (ps := ["one"]) (fr := ["self"]) (ws := [.ref A.x]) nsHL hb (fun vs H Q E h => ?_) hf hc C fun A' outer s H3 vs Q E hr e3 z hsp => ?_
  · obtain ⟨r, c, rfl, _⟩ := h; rfl
  · obtain ⟨t, c, rfl, ht, hir, kk⟩ := hsp
    refine ⟨_, pe_ml (E := C8.E0) (pl := pl _) GN hr (Nat.le_refl _) pass0 (pv 1) (pa_cons (pv 0) pa_nil) rfl rfl (hev _), ?_⟩
    have e4 : ExtN H0 (LV.drp H3 (LV.cellsL cl)) := fun b o e n => by
      have e5 := h01 b o e n
      have nb : b ∉ LV.cellsL cl := fun hb => by rw [hn b hb] at e5; cases e5
      rw [LV.drp_out nb]
      exact e3 b o (by rw [he b nb]; exact e5) n
    have hH4 := hH.ext e4
    refine ⟨_, rfl, _, _, _, rfl, hH4.ob, hf_m, _, rfl, A, t, rs, d, false, c, rfl, hH4, z.keep ht (fun _ _ q => by cases q), hir, ?_⟩
    exact kk _ (LV.same_bak (Same.refl _))
theorem kH_flat (rs : List RoomD) (d : HouseD) (m : List Int) (hp : ∀ e ∈ d.pins, e.1.2 ∈ m) (hr : ∀ e ∈ d.run, e.1.2 ∈ m) : ∀ r b b' : Int, InR rs r → 0 < b → b ≤ b' → (∀ s ∈ m, ¬ (b ≤ s ∧ s ≤ b')) → kH d (r, b) = kH d (r, b') := by
  intro r b b' _ h0 hb hs
  have nl : ∀ (es : List Ent), (∀ e ∈ es, e.1.2 ∈ m) → ∀ c, b ≤ c → c ≤ b' → lkP es (r, c) = none := fun es he c h1 h2 => by
    unfold lkP
    cases e : es.find? fun e => decide (e.1 = (r, c)) with
    | none => rfl
    | some a =>
      have h3 := List.find?_some e
      have h4 := List.mem_of_find?_eq_some e
      have h5 : a.1 = (r, c) := of_decide_eq_true h3
      have := hs a.1.2 (he a h4)
      rw [h5] at this
      exact absurd ⟨h1, h2⟩ this
  have no : ∀ c, b ≤ c → c ≤ b' → kH d (r, c) = false := fun c h1 h2 => by
    unfold kH knP
    rw [nl d.run hr c h1 h2, nl d.pins hp c h1 h2]
    have e1 : decide (c = 0) = false := decide_eq_false (by omega)
    show (false || (decide (c = 0) || false)) = false
    rw [e1]
    rfl
  rw [no b (Int.le_refl _) hb, no b' hb (Int.le_refl _)]
section
variable {P : Program} {w : World} {K : PySem.W.Frag} {mg : Str → Option Value} {base : Heap}
def spHWalked (K : PySem.W.Frag) : Sp := fun vs H Q _ => ∃ (A : HA) (t : Addr) (rs : List RoomD) (d : HouseD) (c : Cell) (m : List Int), vs = [.ref A.x, .ref t] ∧ HC K H A rs d false ∧ OkWeb rs ∧ H t = some (.tup (cV c)) ∧ InR rs c.1 ∧ 0 ≤ c.2 ∧ d.pins.length ≤ 1000 ∧ d.run.length ≤ 1000 ∧ m.length < 64 ∧ (∀ e ∈ d.pins, e.1.2 ∈ m) ∧ (∀ e ∈ d.run, e.1.2 ∈ m) ∧ Tabs (TBS K) H ∧
  ∀ H' p, ExtN H H' → Tabs (TBS K) H' → H' p = some (.tup [.int (cntC rs (kH d) c c.2.toNat), .non]) → Q (.ref p) H'
theorem ok_H_walked (T : Tx K mg) (L : LT K mg base) : ML P w K mg base CX0 8 (cHouse K) "walked" ["self", "cell"] (spHWalked K) := by
  have GB := ok_poked_beats (P := P) (w := w) (base := base) T
  have GW := ok_walked_down (P := P) (w := w) T L 4 (by decide)
  have GF := ok_H_is_forgotten (P := P) (w := w) (base := base) T
  have nd := sc_House_walked.nd
  have hmem : (aHW, lamQ "House.walked") ∈ lamDefs := List.mem_cons_of_mem _ (List.mem_cons_of_mem _ (List.mem_cons_of_mem _ (List.mem_cons_of_mem _ (List.mem_cons_self ..))))
  have TB := L.tb _ hmem
  refine ML.ofC (d := aHW) T.d_House_walked T.c_House T.t_House_walked sc_House_walked b_House_walked (fun vs H Q E h => ?_) (fun A' outer s H vs Q E hr h => ?_)
  · obtain ⟨A, t, rs, d, c, m, rfl, _⟩ := h; rfl
  · obtain ⟨A, t, rs, d, c, m, rfl, hH, hok, ht, hi, hb0, hpl, hrl, hm, hmp, hmr, hT, k⟩ := h
    refine ⟨_, (pss_cons (ps_set (i := 2) nd rfl (Or.inl rfl) (pe_op op_cat (pe_cl GB hr (by decide) pass0 (pa_cons (pe_fld (pv 0) rfl) pa_nil)) (pe_lock (pe_lc (own := [("room", 8), ("beat", 9)]) (g := gTup K 2 (gCons (gName 8) (gCons (gName 9) gNil))) (tt := tYes) rfl nd (pi_keys (pe_fld (pv 0) rfl)) (blkOk_by (N := N_House_walked) (sc := defScope s_House_walked) (by decide +kernel))
          (fun _ _ _ _ _ => pg_tup (by rfl) (pgs_cons (pg_name (i := 8) nd rfl (Or.inl rfl)) (pgs_cons (pg_name (i := 9) nd rfl (Or.inl rfl)) pgs_nil))) (fun _ _ _ _ _ => pts_nil) (fun _ _ _ _ _ => pv 9)))))
      (pss_cons (ps_expr (pe_bm PySem.F.plainAttrs_list PySem.F.slot_list_extend PySem.F.type_list_extend mt_extend (pv 2) (pa_cons (pe_lc (own := [("top", 10)]) (g := gName 10) rfl nd (pi_list (pe_fld (pv 0) rfl)) (blkOk_by (N := N_House_walked) (sc := defScope s_House_walked) (by decide +kernel))
          (fun _ _ _ _ _ => pg_name (i := 10) nd rfl (Or.inl rfl)) (fun _ _ _ _ _ => pts_one (pt_cmpR op_notN (pv 10) pe_non (nomark _))) (fun _ _ _ _ _ => pv 10)) pa_nil)))
      (pss_cons (ps_asg (LV.pe_clU (E := C8.E0) GW hr (by decide) (js := [0]) (fr := ["self"]) (fun ok => Caps.made (scope := scHL) ok (ndef_free ndHW) (ndef_fr ndHW) rfl) (by decide +kernel) (clo_sub nsHL.free) (fun _ _ => rfl)
          (pa_cons (pe_fld (pv 0) rfl) (pa_cons (pv 1) (pa_cons pe_int (pa_cons (pe_callB (cr_sortedSet rfl) (by rfl) T.f_sorted (by decide +kernel) (pa_cons (pe_callTy (LS.cr_setL rfl) (by rfl) T.f_set (by decide +kernel) (pa_cons (pv 2) pa_nil)) pa_nil)) (pa_cons (LV.pe_lamv TB rfl (tt_mem hmem) (L.hu hmem) rfl (ndef_free ndHW)) pa_nil)))))) (pg_tup (by rfl) (pgs_cons (pg_name (i := 3) nd rfl (Or.inl rfl)) (pgs_cons (pg_name (i := 4) nd rfl (Or.inl rfl)) (pgs_cons (pg_name (i := 5) nd rfl (Or.inl rfl)) pgs_nil)))))
      (pss_cons (ps_setLc (i := 6) (own := [("one", 7)]) (g := gName 7) rfl nd rfl rfl (sw_true rfl rfl rfl (by decide +kernel)) (pi_list (pv 5)) (blkOk_by (N := N_House_walked) (sc := defScope s_House_walked) (by decide +kernel))
          (fun _ _ _ _ _ => pg_name (i := 7) nd rfl (Or.inl rfl)) (fun _ _ _ _ _ => pts_one (pt_val (pe_ml GF hr (by decide) pass0 (pv 0) (pa_cons (pv 7) pa_nil)))) (fun _ _ _ _ _ => pv 7))
      (pss_one (ps_ret (pe_tup (pa_cons (pv 4) (pa_cons (pe_ifExp (pt_cmpR (op_neD hr.units) (pv 6) (pe_lst pa_nil) (nomark _)) (pe_ix ix_list (pv 6) pe_int (fun _ _ => rfl)) pe_non) pa_nil))))))))), ?_⟩
    -- beats of pokes
    refine ⟨_, rfl, _, _, _, _, _, rfl, hH.ob, T.c_House, T.n_House_pins, hf_pins, .ref A.p, d.pins, rfl, .inr ⟨A.p, rfl, hH.pn⟩, hpl, fun H1 q s1 nq hq => ?_⟩
    have hH1 := hH.same s1
    -- beats of run cells
    refine ⟨A.r, _, hH1.rn, trivial, fun od => ?_⟩
    have xr : A.x ≠ A.r := ne_of hH1.ob hH1.rn (fun z => nomatch z)
    refine ⟨_, rfl, _, _, _, _, _, rfl, (by rw [upd_ne xr]; exact hH1.ob), T.c_House, T.n_House_run, hf_run, A.r, od, rfl, .inr ⟨_, upd_same, fun D hD => ?_⟩⟩
    refine lc_map walk_keysT (fun i => V.int ((d.run.map fun e => e.1.2).getD i 0)) (by rw [List.length_map]; omega) hD (fun H' s' => s' _ _ upd_same) (fun i x H2 H3 acc Nx hi2 s2 hacc hlen y kk => ?_) (fun H2 s2 h2 => ?_)
    · obtain ⟨rfl, ky, vv, q2, hq2, rfl, hqt⟩ := y
      rw [List.getElem?_map] at hq2
      obtain ⟨e, he, ee⟩ := Option.map_eq_some_iff.mp hq2
      cases ee
      refine ⟨_, _, rfl, SqT.of hqt, rfl, _, _, rfl, _, _, rfl, rfl, rfl, yes_ (iteT ⟨_, rfl, acc, hacc, hlen, ?_⟩)⟩
      have := kk _ s2 hacc
      rw [List.getD_eq_getElem?_getD, List.getElem?_map, he] at this
      exact this
    have hDr : D ≠ A.r := fun z => by rw [z, upd_same] at hD; cases hD
    have hD1 : H1 D = none := none_upd hD
    rw [range_map_getD d.run (fun e => e.1.2) _ (List.length_map ..)] at h2
    refine ⟨s2 _ _ upd_same, ?_⟩
    have s3 : Same H1 (upd H2 A.r (.dT (d.run.map entI))) := fun b o e => by
      by_cases hb : b = A.r
      · subst hb
        rw [upd_same]
        rw [hH1.rn] at e
        exact e
      · rw [upd_ne hb]
        exact s2 _ _ (by rw [upd_ne hb]; exact e)
    have hD3 : (upd H2 A.r (.dT (d.run.map entI))) D = some (.lst (nsv (d.run.map fun e => e.1.2))) := by rw [upd_ne hDr]; exact h2
    generalize upd H2 A.r (.dT (d.run.map entI)) = H3 at s3 hD3 ⊢
    clear s2 h2
    refine ⟨q, D, _, _, rfl, rfl, s3 _ _ hq, hD3, (by rw [nsv_len, nsv_len, List.length_map, List.length_map, sizeL]; omega), fun B hB => ?_⟩
    have s4 : Same H (upd H3 B (.lst (nsv (d.pins.map fun e => e.1.2) ++ nsv (d.run.map fun e => e.1.2)))) := same_new (s1.trans s3) (none_same (s1.trans s3) hB)
    have hB0 : H B = none := none_same (s1.trans s3) hB
    have hB4 : (upd H3 B (.lst (nsv (d.pins.map fun e => e.1.2) ++ nsv (d.run.map fun e => e.1.2)))) B = some (.lst (nsv ((d.pins.map fun e => e.1.2) ++ (d.run.map fun e => e.1.2)))) := by rw [upd_same, nsv_app]
    generalize upd H3 B (.lst (nsv (d.pins.map fun e => e.1.2) ++ nsv (d.run.map fun e => e.1.2))) = H4 at s4 hB4 ⊢
    have hH4 := hH.same s4
    obtain ⟨ns, hns⟩ : ∃ ns, ns = (d.pins.map fun e => e.1.2) ++ (d.run.map fun e => e.1.2) := ⟨_, rfl⟩
    rw [← hns] at hB4
    have nsl : ns.length ≤ 2000 := by rw [hns, List.length_append, List.length_map, List.length_map]; omega
    have nsm : ∀ j ∈ ns, j ∈ m := fun j hj => by
      rw [hns] at hj
      rcases List.mem_append.mp hj with hj | hj
      · obtain ⟨e, he, rfl⟩ := List.mem_map.mp hj
        exact hmp e he
      · obtain ⟨e, he, rfl⟩ := List.mem_map.mp hj
        exact hmr e he
    -- tops
    refine ⟨_, rfl, .inl ⟨rfl, _, SqL.of hB4⟩, _, rfl, _, _, _, _, _, rfl, hH4.ob, T.c_House, T.n_House_far_tops, hf_tops, _, rfl, ⟨_, SqL.of hH4.ft⟩, fun D2 hD2 => ?_⟩
    have rsl : rs.length ≤ 12 := hok.2.1
    refine lc_filt (walk_list (xs := List.replicate rs.length V.non)) (fun _ => none) (by rw [List.length_replicate]; omega) hD2 (fun H' s' => SqL.of (s' _ _ hH4.ft)) (fun i y H5 H6 acc Nx hi2 s5 hacc hlen hy k1 k0 => ?_) (fun H5 s5 h5 => ?_)
    · obtain ⟨rfl, hyx⟩ := hy
      rw [List.getElem?_replicate] at hyx
      have hyx : V.non = y := by
        by_cases q5 : i < rs.length
        · rw [if_pos q5] at hyx; exact Option.some.inj hyx
        · rw [if_neg q5] at hyx; cases hyx
      subst hyx
      exact ⟨rfl, _, rfl, rfl, _, rfl, iteF (k0 _ rfl (Same.refl _))⟩
    have eN : ∀ n : Nat, (List.range n).filterMap (fun _ => (none : Option V)) = [] := fun n => List.filterMap_eq_nil_iff.mpr fun _ _ => rfl
    rw [eN] at h5
    have hB5 := s5 _ _ hB4
    refine ⟨B, D2, _, _, rfl, rfl, hB5, h5, (by rw [nsv_len, sizeL]; show ns.length + 0 ≤ _; omega), ?_⟩
    rw [List.append_nil]
    have s6 : Same H (upd H5 B (.lst (nsv ns))) := same_new (s4.trans s5) hB0
    have hB6 : (upd H5 B (.lst (nsv ns))) B = some (.lst (nsv ns)) := upd_same
    generalize upd H5 B (.lst (nsv ns)) = H6 at s6 hB6 ⊢
    have hH6 := hH.same s6
    -- the walk
    refine ⟨_, rfl, _, _, _, _, _, rfl, hH6.ob, T.c_House, T.n_House_of_web, hf_web, _, rfl, _, rfl, B, ns, rfl, SqL.of hB6, by omega, fun S cc hS hc1 hc2 => ?_⟩
    refine ⟨S, _, cc, rfl, upd_same, Nat.lt_of_le_of_lt (hc2 m nsm) hm, fun st Pst pw mem ln hP => ?_⟩
    have hS0 : H6 S = none := hS
    have s7 : Same H (upd (upd H6 S (SetO w S (fun j => decide (j ∈ ns)) cc)) Pst (.lst (st.map V.int))) := same_new (same_new s6 (none_same s6 hS)) (none_same (same_new s6 (none_same s6 hS)) hP)
    have hP7 : (upd (upd H6 S (SetO w S (fun j => decide (j ∈ ns)) cc)) Pst (.lst (st.map V.int))) Pst = some (.lst (nsv st)) := upd_same
    have t7' : Tabs (TBS K) (upd (upd H6 S (SetO w S (fun j => decide (j ∈ ns)) cc)) Pst (.lst (st.map V.int))) := hT.ext s7
    refine ⟨t7', fun f c' H7 e7 n7 t7 f7 hf7 hc7 => ⟨fun jj hjj => ?_, fun H8 hn8 he8 C8 => ?_⟩⟩
    · rcases List.mem_cons.mp hjj with rfl | hjj
      · exact ⟨_, rfl⟩
      · cases hjj
    have s78 : Same H7 H8 := fun b o e => by
      rw [he8 b (fun hb => by rw [hn8 b hb] at e; cases e)]
      exact e
    have e07 : ExtN H H7 := (ExtN.of s7).trans e7
    have e08 := e07.trans (ExtN.of s78)
    have stm : ∀ j, j ∈ ns → j ∈ st := fun j hj => (mem j).mpr (decide_eq_true hj)
    refine ⟨A.wb, t, Pst, f, rs, c, 0, c.2.toNat, st, kH d, rfl, hH.wb.ext e08, hok, extN_get e08 ht, hi, (by omega), s78 _ _ (extN_get e7 hP7), (by rw [ln]; omega), ?_, kH_flat rs d st (fun e he => stm _ (by rw [hns]; exact List.mem_append_left _ (List.mem_map.mpr ⟨e, he, rfl⟩))) (fun e he => stm _ (by rw [hns]; exact List.mem_append_right _ (List.mem_map.mpr ⟨e, he, rfl⟩))), t7.ext s78, fun H9 p9 q9 m9 mets cs9 e9 t9 hq9 hm9 hmt9 hmi9 hml9 hp9 => ?_⟩
    · exact fv_hs T hH e07 hn8 he8 rfl (fun pm ctv us hl => match us, hl with | [_], _ => rfl) ⟨_, _, _, _, _, rfl, fun env => rfl⟩ (s78 _ _ hf7) (s78 _ _ hc7) C8
    · intro Hd _ sd1 _ sd3
      have nf := sd3 e9
      have hpd := nf _ _ (fun _ _ z => by cases z) hp9
      have hmd := nf _ _ (fun _ _ z => by cases z) hm9
      have hmtd : TupsAt Hd (cs9.map cV) mets := hmt9.same fun b t e => nf _ _ (fun _ _ z => by cases z) e
      have eHd : ExtN H Hd := e07.trans (sd1 e9)
      have tHd := tabs_sd t9 nf
      have hHd := hH.ext eHd
      refine ⟨p9, _, rfl, SqT.of hpd, rfl, _, _, rfl, _, _, rfl, _, _, rfl, rfl, ?_⟩
      -- gone
      refine ⟨_, rfl, m9, rfl, ⟨_, SqL.of hmd⟩, fun D3 hD3 => ?_⟩
      refine lc_filt (walk_list (xs := mets.map V.ref)) (fun _ => none) (by rw [List.length_map]; omega) hD3 (fun H' s' => SqL.of (s' _ _ hmd)) (fun i y H10 H11 acc Nx hi2 s10 hacc hlen hy k1 k0 => ?_) (fun H10 s10 h10 => ?_)
      · obtain ⟨rfl, hyx⟩ := hy
        obtain ⟨b, hb, rfl⟩ : ∃ b, mets[i]? = some b ∧ y = .ref b := by
          rw [List.getElem?_map] at hyx
          cases e : mets[i]? with
          | none => rw [e] at hyx; cases hyx
          | some b => rw [e] at hyx; exact ⟨b, rfl, (Option.some.inj hyx).symm⟩
        obtain ⟨tp, htp, htb⟩ := L2.DX.pget hmtd hb
        rw [List.getElem?_map] at htp
        obtain ⟨ce, hce, ec⟩ := Option.map_eq_some_iff.mp htp
        subst ec
        have hH10 := hHd.same s10
        exact ⟨rfl, _, rfl, _, _, _, rfl, hH10.ob, hf_m, _, rfl, A, b, rs, d, false, ce, rfl, hH10, s10 _ _ htb, hmi9 ce (List.mem_of_getElem? hce), _, rfl, iteF (k0 _ rfl (Same.refl _))⟩
      rw [eN] at h10
      refine ⟨_, rfl, _, rfl, Nat.zero_le _, fun z hz => ⟨.list [], .list [], .lst (SqL.of (by rw [upd_ne (ne_of_none h10 hz)]; exact h10)) .nil, .lst (SqL.of upd_same) .nil, PySem.W.ke_shaped_ints [], PySem.W.ke_shaped_ints [], _, rfl, ?_⟩⟩
      rw [eqv_nil]
      refine iteF ⟨(by show 2 ≤ sizeLine; decide), fun p hp => ?_⟩
      have nz : Same Hd (upd (upd H10 z (.lst [])) p (.tup [.int (cntC rs (kH d) c c.2.toNat), .non])) := same_new (same_new s10 (none_same s10 hz)) (none_same (same_new s10 (none_same s10 hz)) hp)
      exact k _ p (eHd.trans (ExtN.of nz)) (tHd.ext nz) upd_same
end
end S
set_option Elab.async false
set_option linter.all false
set_option maxRecDepth 100000
set_option maxHeartbeats 4000000
/-! # writes into a house's parts (printed by genQ3.py) -/
namespace S
open PySem PySem.Spec PyProof.Rows L2 G LamX NdefX
/-- outside of a house's own parts nothing is changed -/
def OutS (A : HA) (H H' : Hp) : Prop := ∀ b o, b ∉ A.own → H b = some o → H' b = some o
theorem OutS.refl (A : HA) (H : Hp) : OutS A H H := fun _ _ _ e => e
theorem OutS.trans {A : HA} {H H1 H2 : Hp} (a : OutS A H H1) (b : OutS A H1 H2) : OutS A H H2 := fun c o n e => b c o n (a c o n e)
theorem OutS.of {A : HA} {H H' : Hp} (s : Same H H') : OutS A H H' := fun b o _ e => s b o e
theorem OutS.up {A : HA} {H : Hp} {a : Addr} {o : HO} (h : a ∈ A.own) : OutS A H (upd H a o) := fun b o' n e => by
  have nb : b ≠ a := fun z => n (by rw [z]; exact h)
  rw [upd_ne nb]
  exact e
theorem WebAt.upT {K : PySem.W.Frag} {H : Hp} {x a : Addr} {rs : List RoomD} {kvs : List (List L2.Key × V)} {o : HO} (h : WebAt K H x rs) (ha : H a = some (.dT kvs)) : WebAt K (upd H a o) x rs := by
  obtain ⟨dx, t, h1, as, h2, h3, h4⟩ := h
  refine ⟨dx, t, by rw [upd_ne (ne_of h1 ha (fun z => nomatch z))]; exact h1, as, by rw [upd_ne (ne_of h2 ha (fun z => nomatch z))]; exact h2, h3, fun i y r h5 h6 => ?_⟩
  obtain ⟨dy, th, tr, g1, g2, g3⟩ := h4 i y r h5 h6
  exact ⟨dy, th, tr, by rw [upd_ne (ne_of g1 ha (fun z => nomatch z))]; exact g1, by rw [upd_ne (ne_of g2 ha (fun z => nomatch z))]; exact g2, by rw [upd_ne (ne_of g3 ha (fun z => nomatch z))]; exact g3⟩
theorem wf_hf {C C' dx dx' t : Addr} {A : HA} {b : Bool} (e : HO.ins C dx (wf t) = HO.ins C' dx' (hf A b)) : False := by
  injection e with _ _ e
  have := congrArg List.length e
  cases this
theorem rf_hf {C C' dx dx' th tr : Addr} {sz fi : Int} {A : HA} {b : Bool} (e : HO.ins C dx (rf th tr sz fi) = HO.ins C' dx' (hf A b)) : False := by
  injection e with _ _ e
  have := congrArg List.length e
  cases this
theorem WebAt.upH {K : PySem.W.Frag} {H : Hp} {x : Addr} {A : HA} {rs : List RoomD} {b : Bool} {o : HO} (h : WebAt K H x rs) (ha : H A.x = some (.ins (cHouse K) A.dx (hf A b))) : WebAt K (upd H A.x o) x rs := by
  obtain ⟨dx, t, h1, as, h2, h3, h4⟩ := h
  refine ⟨dx, t, by rw [upd_ne (ne_of h1 ha wf_hf)]; exact h1, as, by rw [upd_ne (ne_of h2 ha (fun z => nomatch z))]; exact h2, h3, fun i y r h5 h6 => ?_⟩
  obtain ⟨dy, th, tr, g1, g2, g3⟩ := h4 i y r h5 h6
  exact ⟨dy, th, tr, by rw [upd_ne (ne_of g1 ha rf_hf)]; exact g1, by rw [upd_ne (ne_of g2 ha (fun z => nomatch z))]; exact g2, by rw [upd_ne (ne_of g3 ha (fun z => nomatch z))]; exact g3⟩
section
variable {K : PySem.W.Frag} {H H' : Hp} {A : HA} {rs : List RoomD} {d : HouseD} {b : Bool}
theorem HC.nds (h : HC K H A rs d b) : (A.p ≠ A.r ∧ A.p ≠ A.a ∧ A.p ≠ A.h ∧ A.p ≠ A.l ∧ A.p ≠ A.k) ∧ (A.r ≠ A.a ∧ A.r ≠ A.h ∧ A.r ≠ A.l ∧ A.r ≠ A.k) ∧ (A.a ≠ A.h ∧ A.a ≠ A.l ∧ A.a ≠ A.k) ∧ (A.h ≠ A.l ∧ A.h ≠ A.k) ∧ A.l ≠ A.k := by
  have := h.nd
  simp only [List.nodup_cons, List.mem_cons, List.mem_singleton, List.not_mem_nil, or_false, not_or] at this
  obtain ⟨⟨a1, a2, a3, a4, a5⟩, ⟨b1, b2, b3, b4⟩, ⟨c1, c2, c3⟩, ⟨d1, d2⟩, e1, _⟩ := this
  exact ⟨⟨a1, a2, a3, a4, a5⟩, ⟨b1, b2, b3, b4⟩, ⟨c1, c2, c3⟩, ⟨d1, d2⟩, e1⟩
/-- what is no part of its own -/
theorem HC.notin (h : HC K H A rs d b) {q : Addr} {o : HO} (e : H q = some o) (n1 : ∀ C dx fs, o ≠ .ins C dx fs) (n2 : ∀ kvs, o ≠ .dT kvs) : q ∉ A.own := by
  unfold HA.own
  simp only [List.mem_cons, List.mem_singleton, List.not_mem_nil, or_false, not_or]
  exact ⟨ne_of e h.ob (n1 _ _ _), ne_of e h.pn (n2 _), ne_of e h.rn (n2 _), ne_of e h.ak (n2 _), ne_of e h.hd (n2 _), ne_of e h.lk (n2 _), ne_of e h.kp (n2 _)⟩
theorem HC.none_notin (h : HC K H A rs d b) {q : Addr} (e : H q = none) : q ∉ A.own := by
  unfold HA.own
  simp only [List.mem_cons, List.mem_singleton, List.not_mem_nil, or_false, not_or]
  exact ⟨(ne_of_none h.ob e).symm, (ne_of_none h.pn e).symm, (ne_of_none h.rn e).symm, (ne_of_none h.ak e).symm, (ne_of_none h.hd e).symm, (ne_of_none h.lk e).symm, (ne_of_none h.kp e).symm⟩
theorem HC.out_tabs (h : HC K H A rs d b) {T : List (Addr × Str)} (t : Tabs T H) (o : OutS A H H') : Tabs T H' := fun q hq => by
  obtain ⟨ps, h1, h2, h3⟩ := t q hq
  refine ⟨ps, o _ _ (h.notin h1 (fun _ _ _ z => nomatch z) (fun _ z => nomatch z)) h1, h2, fun pos cv hc => ?_⟩
  obtain ⟨c, e1, e2⟩ := h3 pos cv hc
  exact ⟨c, e1, o _ _ (h.notin e2 (fun _ _ _ z => nomatch z) (fun _ z => nomatch z)) e2⟩
theorem HC.own_p (A : HA) : A.x ∈ A.own ∧ A.p ∈ A.own ∧ A.r ∈ A.own ∧ A.a ∈ A.own ∧ A.h ∈ A.own ∧ A.l ∈ A.own ∧ A.k ∈ A.own := by
  unfold HA.own
  simp
theorem HC.put_pins (h : HC K H A rs d b) (l : List Ent) : HC K (upd H A.p (.dT (l.map entI))) A rs { d with pins := l } b :=
  ⟨by rw [upd_ne (ne_of h.ob h.pn (fun z => nomatch z))]; exact h.ob, h.wb.upT h.pn, upd_same, (by rw [upd_ne (h.nds.1.1.symm)]; exact h.rn), (by rw [upd_ne (h.nds.1.2.1.symm)]; exact h.ak), (by rw [upd_ne (h.nds.1.2.2.1.symm)]; exact h.hd), (by rw [upd_ne (h.nds.1.2.2.2.1.symm)]; exact h.lk), (by rw [upd_ne (h.nds.1.2.2.2.2.symm)]; exact h.kp), by rw [upd_ne (ne_of h.ro h.pn (fun z => nomatch z))]; exact h.ro, by rw [upd_ne (ne_of h.ft h.pn (fun z => nomatch z))]; exact h.ft, h.nd⟩
theorem HC.put_run (h : HC K H A rs d b) (l : List Ent) : HC K (upd H A.r (.dT (l.map entI))) A rs { d with run := l } b :=
  ⟨by rw [upd_ne (ne_of h.ob h.rn (fun z => nomatch z))]; exact h.ob, h.wb.upT h.rn, (by rw [upd_ne (h.nds.1.1)]; exact h.pn), upd_same, (by rw [upd_ne (h.nds.2.1.1.symm)]; exact h.ak), (by rw [upd_ne (h.nds.2.1.2.1.symm)]; exact h.hd), (by rw [upd_ne (h.nds.2.1.2.2.1.symm)]; exact h.lk), (by rw [upd_ne (h.nds.2.1.2.2.2.symm)]; exact h.kp), by rw [upd_ne (ne_of h.ro h.rn (fun z => nomatch z))]; exact h.ro, by rw [upd_ne (ne_of h.ft h.rn (fun z => nomatch z))]; exact h.ft, h.nd⟩
theorem HC.put_asked (h : HC K H A rs d b) (l : List Cell) : HC K (upd H A.a (.dT (l.map entN))) A rs { d with asked := l } b :=
  ⟨by rw [upd_ne (ne_of h.ob h.ak (fun z => nomatch z))]; exact h.ob, h.wb.upT h.ak, (by rw [upd_ne (h.nds.1.2.1)]; exact h.pn), (by rw [upd_ne (h.nds.2.1.1)]; exact h.rn), upd_same, (by rw [upd_ne (h.nds.2.2.1.1.symm)]; exact h.hd), (by rw [upd_ne (h.nds.2.2.1.2.1.symm)]; exact h.lk), (by rw [upd_ne (h.nds.2.2.1.2.2.symm)]; exact h.kp), by rw [upd_ne (ne_of h.ro h.ak (fun z => nomatch z))]; exact h.ro, by rw [upd_ne (ne_of h.ft h.ak (fun z => nomatch z))]; exact h.ft, h.nd⟩
theorem HC.put_heard (h : HC K H A rs d b) (l : List Cell) : HC K (upd H A.h (.dT (l.map entN))) A rs { d with heard := l } b :=
  ⟨by rw [upd_ne (ne_of h.ob h.hd (fun z => nomatch z))]; exact h.ob, h.wb.upT h.hd, (by rw [upd_ne (h.nds.1.2.2.1)]; exact h.pn), (by rw [upd_ne (h.nds.2.1.2.1)]; exact h.rn), (by rw [upd_ne (h.nds.2.2.1.1)]; exact h.ak), upd_same, (by rw [upd_ne (h.nds.2.2.2.1.1.symm)]; exact h.lk), (by rw [upd_ne (h.nds.2.2.2.1.2.symm)]; exact h.kp), by rw [upd_ne (ne_of h.ro h.hd (fun z => nomatch z))]; exact h.ro, by rw [upd_ne (ne_of h.ft h.hd (fun z => nomatch z))]; exact h.ft, h.nd⟩
theorem HC.put_looked (h : HC K H A rs d b) (l : List Cell) : HC K (upd H A.l (.dT (l.map entN))) A rs { d with looked := l } b :=
  ⟨by rw [upd_ne (ne_of h.ob h.lk (fun z => nomatch z))]; exact h.ob, h.wb.upT h.lk, (by rw [upd_ne (h.nds.1.2.2.2.1)]; exact h.pn), (by rw [upd_ne (h.nds.2.1.2.2.1)]; exact h.rn), (by rw [upd_ne (h.nds.2.2.1.2.1)]; exact h.ak), (by rw [upd_ne (h.nds.2.2.2.1.1)]; exact h.hd), upd_same, (by rw [upd_ne (h.nds.2.2.2.2.symm)]; exact h.kp), by rw [upd_ne (ne_of h.ro h.lk (fun z => nomatch z))]; exact h.ro, by rw [upd_ne (ne_of h.ft h.lk (fun z => nomatch z))]; exact h.ft, h.nd⟩
theorem HC.put_busy (h : HC K H A rs d b) (c : Bool) : HC K (upd H A.x (.ins (cHouse K) A.dx (hf A c))) A rs d c :=
  ⟨upd_same, h.wb.upH h.ob, (by rw [upd_ne (ne_of h.pn h.ob (fun z => nomatch z))]; exact h.pn), (by rw [upd_ne (ne_of h.rn h.ob (fun z => nomatch z))]; exact h.rn), (by rw [upd_ne (ne_of h.ak h.ob (fun z => nomatch z))]; exact h.ak), (by rw [upd_ne (ne_of h.hd h.ob (fun z => nomatch z))]; exact h.hd), (by rw [upd_ne (ne_of h.lk h.ob (fun z => nomatch z))]; exact h.lk), (by rw [upd_ne (ne_of h.kp h.ob (fun z => nomatch z))]; exact h.kp), by rw [upd_ne (ne_of h.ro h.ob (fun z => nomatch z))]; exact h.ro, by rw [upd_ne (ne_of h.ft h.ob (fun z => nomatch z))]; exact h.ft, h.nd⟩
end
def addC (l : List Cell) (c : Cell) : List Cell := if c ∈ l then l else l ++ [c]
theorem put_same : ∀ (l : List Cell) (c : Cell), c ∈ l → (l.map entN).map (fun kv => if kv.1 = cK c then (kv.1, V.non) else kv) = l.map entN := fun l c _ => by
  rw [List.map_map]
  refine List.map_congr_left fun e _ => ?_
  show (if cK e = cK c then (cK e, V.non) else (cK e, V.non)) = _
  split <;> rfl
theorem putK_N (l : List Cell) (c : Cell) : putK (l.map entN) (cK c) V.non = (addC l c).map entN := by
  unfold addC
  by_cases h : c ∈ l
  · rw [if_pos h]
    unfold putK
    rw [if_pos (by rw [valV_any, valV_N, if_pos h]; rfl)]
    exact put_same l c h
  · rw [if_neg h, putK_new _ (by rw [valV_N, if_neg h]), List.map_append]
    rfl
theorem putAll_N : ∀ (hs l : List Cell), DT2.putAllK (l.map entN) (hs.map entN) = (hs.foldl addC l).map entN
  | [], _ => rfl
  | c :: hs, l => by
    show DT2.putAllK (putK (l.map entN) (cK c) V.non) (hs.map entN) = _
    rw [putK_N, putAll_N hs]
    rfl
theorem putK_I (l : List Ent) (c : Cell) (v : Int) (h : lkP l c = none) : putK (l.map entI) (cK c) (.int v) = (l ++ [(c, v)]).map entI := by
  rw [putK_new _ (by rw [valV_ent, h]; rfl), List.map_append]
  rfl
end S
set_option Elab.async false
set_option linter.all false
set_option maxRecDepth 100000
set_option maxHeartbeats 4000000
/-! # House.run_cell, run_all -/
namespace S
open PySem PySem.Spec PyProof.Rows L2 G LamX NdefX
/-- a house behind a run -/
def ranH (rs : List RoomD) (d : HouseD) (c : Cell) (v : Int) : HouseD := { d with run := d.run ++ [(c, v)], asked := d.asked ++ [c], heard := (heardC rs c).foldl addC d.heard }
/-- what a cell needs to be run now -/
structure RunOk (P : Program) (w : World) (rs : List RoomD) (d : HouseD) (c : Cell) (v : Int) : Prop where
  inr : InR rs c.1
  hk : ∀ e ∈ heardC rs c, InR rs e.1 ∧ kH d e = true
  hv : toldF rs c.1 ((heardC rs c).map (stH rs d)) = some v
  hr : lkP d.run c = none
  ha : c ∉ d.asked
  hn : ((heardC rs c).map fun e => DT2.hashT P w (cK e)).Nodup
  l1 : d.run.length ≤ 100000
  l2 : d.asked.length ≤ 100000
  l3 : d.heard.length ≤ 1000000
theorem heard_nd {P : Program} {w : World} {cs : List Cell} (h : (cs.map fun e => DT2.hashT P w (cK e)).Nodup) : cs.Nodup := List.Pairwise.of_map _ (fun a b n e => n (by rw [e])) h
section
variable {P : Program} {w : World} {K : PySem.W.Frag} {mg : Str → Option Value} {base : Heap}
def spRunCell (P : Program) (w : World) (K : PySem.W.Frag) : Sp := fun vs H Q _ => ∃ (A : HA) (t : Addr) (rs : List RoomD) (d : HouseD) (c : Cell) (v : Int), vs = [.ref A.x, .ref t] ∧ HC K H A rs d false ∧ OkWeb rs ∧ H t = some (.tup (cV c)) ∧ RunOk P w rs d c v ∧
  ∀ H', OutS A H H' → HC K H' A rs (ranH rs d c v) false → Q .non H'
theorem ok_H_run_cell (T : Tx K mg) : ML P w K mg base CX0 4 (cHouse K) "run_cell" ["self", "cell"] (spRunCell P w K) := by
  have GH := ok_heard_cells (P := P) (w := w) (base := base) T
  have GA := ok_H_at_cell (P := P) (w := w) (base := base) T
  have GT := ok_told_by (P := P) (w := w) (base := base) T
  have nd := sc_House_run_cell.nd
  refine ML.of0 T.d_House_run_cell T.c_House T.t_House_run_cell sc_House_run_cell b_House_run_cell (fun vs H Q E h => ?_) (fun f cdv A' outer s H vs Q E hr h => ?_)
  · obtain ⟨A, t, rs, d, c, v, rfl, _⟩ := h; rfl
  · obtain ⟨A, t, rs, d, c, v, rfl, hH, hok, ht, R, k⟩ := h
    refine ⟨_, (pss_cons (ps_set (i := 2) nd rfl (Or.inl rfl) (pe_cl GH hr (by decide) pass0 (pa_cons (pe_fld (pv 0) rfl) (pa_cons (pv 1) pa_nil))))
      (pss_cons (ps_set (i := 3) nd rfl (Or.inl rfl) (pe_callTy call_tuple_of (by rfl) T.f_tuple (by decide +kernel) (pa_cons (pe_lc (own := [("one", 4)]) (g := gName 4) (tt := tYes) rfl nd (pi_list (pv 2)) (blkOk_by (N := N_House_run_cell) (sc := defScope s_House_run_cell) (by decide +kernel))
          (fun _ _ _ _ _ => pg_name (i := 4) nd rfl (Or.inl rfl)) (fun _ _ _ _ _ => pts_nil) (fun _ _ _ _ _ => pe_ml GA hr (by decide) pass0 (pv 0) (pa_cons (pv 4) pa_nil))) pa_nil)))
      (pss_cons (ps_dput (hu_of hr) (pe_fld (pv 0) rfl) (pv 1) pe_non rfl)
      (pss_cons (ps_expr (pe_bm PySem.F.plainAttrs_dict PySem.F.slot_dict_update PySem.F.type_dict_update (DT2.mt_updT (hu2_of hr)) (pe_fld (pv 0) rfl) (pa_cons (DT2.pe_dcT (own := [("one", 4)]) (g := gName 4) (tt := tYes) (hu2_of hr) rfl nd (pi_list (pv 2)) (blkOk_by (N := N_House_run_cell) (sc := defScope s_House_run_cell) (by decide +kernel))
          (fun _ _ _ _ _ => pg_name (i := 4) nd rfl (Or.inl rfl)) (fun _ _ _ _ _ => pts_nil) (fun _ _ _ _ _ => pv 4) (fun _ _ _ _ _ => pe_non)) pa_nil)))
      (pss_cons (ps_fld (pv 0) pe_bl rfl)
      (pss_one (DT2.ps_tryFin (pss_one (ps_dput (hu_of hr) (pe_fld (pv 0) rfl) (pv 1) (pe_cl GT hr (by decide) pass0 (pa_cons (pe_fld (pv 0) rfl) (pa_cons (pe_ix ix_tup (pv 1) pe_int (fun _ _ => rfl)) (pa_cons (pv 3) (pa_cons (pe_ix ix_tup (pv 1) pe_int (fun _ _ => rfl)) pa_nil))))) rfl)) (pss_one (ps_fld (pv 0) pe_bl rfl))))))))), ?_⟩
    obtain ⟨inr, hk, hv, hrn, han, hhn, l1, l2, l3⟩ := R
    have hcl : (heardC rs c).length ≤ 3 := by
      unfold heardC
      rw [List.length_map]
      exact (hok.2.2 _ (rAt_mem inr.1 inr.2)).1
    -- heard
    refine ⟨_, rfl, _, _, _, _, _, rfl, hH.ob, T.c_House, T.n_House_of_web, hf_web, _, rfl, A.wb, t, rs, c, rfl, hH.wb, hok, ht, inr, fun H1 p bs s1 np hp htp => ?_⟩
    have htp : TupsAt H1 ((heardC rs c).map cV) bs := by
      unfold heardC
      rw [List.map_map]
      exact htp
    have hH1 := hH.same s1
    have blen : bs.length = (heardC rs c).length := by
      have := Paired.length htp
      rw [List.length_map] at this
      exact this.symm
    have at1 : ∀ (i : Nat) (y : V), (bs.map V.ref)[i]? = some y → ∃ b e, bs[i]? = some b ∧ (heardC rs c)[i]? = some e ∧ y = .ref b ∧ H1 b = some (.tup (cV e)) := fun i y hy => by
      rw [List.getElem?_map] at hy
      cases e : bs[i]? with
      | none => rw [e] at hy; cases hy
      | some b =>
        rw [e] at hy
        obtain ⟨tp, htp2, htb⟩ := L2.DX.pget htp e
        rw [List.getElem?_map] at htp2
        obtain ⟨ce, hc, ec⟩ := Option.map_eq_some_iff.mp htp2
        subst ec
        exact ⟨b, ce, rfl, hc, (Option.some.inj hy).symm, htb⟩
    -- stands
    refine ⟨_, rfl, p, rfl, ⟨_, SqL.of hp⟩, fun D hD => ?_⟩
    refine lc_map (walk_list (xs := bs.map V.ref)) (fun i => V.int (((heardC rs c).map (stH rs d)).getD i 0)) (by rw [List.length_map]; omega) hD (fun H' s' => SqL.of (s' _ _ hp)) (fun i y H2 H3 acc Nx hi s2 hacc hlen hy kk => ?_) (fun H2 s2 h2 => ?_)
    · obtain ⟨rfl, hx⟩ := hy
      obtain ⟨b, e, hb, he, rfl, htb⟩ := at1 i y hx
      have hH2 := hH1.same s2
      obtain ⟨q1, q2⟩ := hk e (List.mem_of_getElem? he)
      refine ⟨rfl, yes_ (iteT ⟨_, rfl, _, _, _, rfl, hH2.ob, hf_m, _, rfl, A, b, rs, d, false, e, rfl, hH2, s2 _ _ htb, q1, q2, acc, hacc, hlen, ?_⟩)⟩
      have := kk _ s2 hacc
      rw [List.getD_eq_getElem?_getD, List.getElem?_map, he] at this
      exact this
    rw [List.length_map, range_map_getD (heardC rs c) (stH rs d) _ blen] at h2
    refine ⟨_, _, rfl, .inl ⟨SqL.of h2, fun ts hts => ?_⟩⟩
    have s3 : Same H1 (upd H2 ts (.tup (nsv ((heardC rs c).map (stH rs d))))) := same_new s2 (none_same s2 hts)
    have hts3 : (upd H2 ts (.tup (nsv ((heardC rs c).map (stH rs d))))) ts = some (.tup (nsv ((heardC rs c).map (stH rs d)))) := upd_same
    generalize upd H2 ts (.tup (nsv ((heardC rs c).map (stH rs d)))) = H3 at s3 hts3 ⊢
    clear s2 h2
    have hH3 := hH1.same s3
    have ht3 := (s1.trans s3) _ _ ht
    have hp3 := s3 _ _ hp
    have htp3 : TupsAt H3 ((heardC rs c).map cV) bs := TupsAt.same htp fun b t e => s3 _ _ e
    have o3 : OutS A H H3 := OutS.of (s1.trans s3)
    -- asked
    refine ⟨_, rfl, _, _, _, _, _, rfl, hH3.ob, T.c_House, T.n_House_asked, hf_asked, _, rfl, A.a, _, rfl, DPut.t (k := cK c) hH3.ak ht3 (by rw [List.length_map, sizeL]; omega), ?_⟩
    rw [putK_N]
    have eA : addC d.asked c = d.asked ++ [c] := if_neg han
    rw [eA]
    have hH4 := hH3.put_asked (d.asked ++ [c])
    have o4 := o3.trans (OutS.up (H := H3) (o := .dT ((d.asked ++ [c]).map entN)) (HC.own_p A).2.2.2.1)
    have nT : ∀ {q : Addr} {ys : List V}, H3 q = some (.tup ys) → (upd H3 A.a (.dT ((d.asked ++ [c]).map entN))) q = some (.tup ys) := fun e => by rw [upd_ne (ne_of e hH3.ak (fun z => nomatch z))]; exact e
    have ht4 := nT ht3
    have hts4 := nT hts3
    have hp4 : (upd H3 A.a (.dT ((d.asked ++ [c]).map entN))) p = some (.lst (bs.map V.ref)) := by rw [upd_ne (ne_of hp3 hH3.ak (fun z => nomatch z))]; exact hp3
    have htp4 : TupsAt (upd H3 A.a (.dT ((d.asked ++ [c]).map entN))) ((heardC rs c).map cV) bs := TupsAt.same htp3 fun b t e => nT e
    generalize upd H3 A.a (.dT ((d.asked ++ [c]).map entN)) = H4 at hH4 o4 ht4 hts4 hp4 htp4 ⊢
    clear nT o3 ht3 hts3 hp3 htp3 hH3
    -- heard.update
    refine ⟨_, rfl, _, _, _, _, _, rfl, hH4.ob, T.c_House, T.n_House_heard, hf_heard, ?_⟩
    refine ⟨.inr (.inr (.inl ⟨rfl, .inr ⟨_, hH4.hd⟩⟩)), ?_⟩
    refine ⟨_, rfl, p, rfl, ⟨_, SqL.of hp4⟩, fun Dd hDd => ?_⟩
    have hcnd := heard_nd hhn
    refine dcT_it (walk_list (xs := bs.map V.ref)) (fun i Hx => Same H4 Hx ∧ Hx Dd = some (.dT (((heardC rs c).take i).map entN))) ⟨same_new (Same.refl _) hDd, by rw [upd_same]; rfl⟩ (fun i H' _ h => SqL.of (h.1 _ _ hp4)) (fun i y H5 H6 hi2 h hy => ?_) (fun H5 h => ?_)
    · obtain ⟨rfl, hx⟩ := hy
      obtain ⟨s5, hD5⟩ := h
      obtain ⟨b, hb, rfl⟩ : ∃ b, bs[i]? = some b ∧ y = .ref b := by
        rw [List.getElem?_map] at hx
        cases e : bs[i]? with
        | none => rw [e] at hx; cases hx
        | some b => rw [e] at hx; exact ⟨b, rfl, (Option.some.inj hx).symm⟩
      obtain ⟨tp, htp2, htb⟩ := L2.DX.pget htp4 hb
      rw [List.getElem?_map] at htp2
      obtain ⟨ce, hce, ec⟩ := Option.map_eq_some_iff.mp htp2
      subst ec
      have hci : ce ∉ (heardC rs c).take i := fun hm => by
        obtain ⟨j2, hj2, ej⟩ := List.mem_iff_getElem.mp hm
        rw [List.length_take] at hj2
        have hi3 : i < (heardC rs c).length := (List.getElem?_eq_some_iff.mp hce).1
        have e1 : (heardC rs c)[j2]'(by omega) = ce := by rw [← ej, List.getElem_take]
        have e2 : (heardC rs c)[i] = ce := (List.getElem?_eq_some_iff.mp hce).2
        have := (List.getElem_inj hcnd).mp (e1.trans e2.symm)
        omega
      refine ⟨rfl, yes_ (iteT ⟨_, rfl, _, cK ce, b, rfl, s5 _ _ htb, hD5, ?_, ?_⟩)⟩
      · have := List.length_take_le' i (heardC rs c)
        rw [List.length_map, sizeL]
        omega
      · have etk : (heardC rs c).take (i + 1) = (heardC rs c).take i ++ [ce] := by rw [List.take_add_one, hce]; rfl
        refine ⟨same_new s5 hDd, ?_⟩
        rw [upd_same, putK_N, etk]
        unfold addC
        rw [if_neg hci]
    obtain ⟨s5, hD5⟩ := h
    rw [List.length_map, blen, List.take_length] at hD5
    have hH5 := hH4.same s5
    have Dh : A.h ≠ Dd := ne_of_none hH4.hd hDd
    refine ⟨A.h, Dd, _, _, rfl, rfl, hH5.hd, hD5, Dh, .inr (by rw [List.map_map]; exact hhn), (by rw [List.length_map, List.length_map, sizeL]; show d.heard.length + _ ≤ _; omega), ?_⟩
    rw [putAll_N]
    have hH6 := hH5.put_heard ((heardC rs c).foldl addC d.heard)
    have o6 := (o4.trans (OutS.of s5)).trans (OutS.up (H := H5) (o := .dT (((heardC rs c).foldl addC d.heard).map entN)) (HC.own_p A).2.2.2.2.1)
    have nT : ∀ {q : Addr} {ys : List V}, H4 q = some (.tup ys) → (upd H5 A.h (.dT (((heardC rs c).foldl addC d.heard).map entN))) q = some (.tup ys) := fun e => by
      have e5 := s5 _ _ e
      rw [upd_ne (ne_of e5 hH5.hd (fun z => nomatch z))]
      exact e5
    have ht6 := nT ht4
    have hts6 := nT hts4
    change HC K (upd H5 A.h (.dT (((heardC rs c).foldl addC d.heard).map entN))) A rs _ false at hH6
    generalize upd H5 A.h (.dT (((heardC rs c).foldl addC d.heard).map entN)) = H6 at hH6 o6 ht6 hts6 ⊢
    clear nT s5 hD5 hH5 ht4 hts4 hp4 htp4 hH4 o4
    -- busy
    refine ⟨_, rfl, _, _, _, _, rfl, hH6.ob, T.c_House, T.n_House_is_busy, (by show 10 < 1000; decide), ?_⟩
    rw [hf_put]
    have hH7 := hH6.put_busy true
    have o7 := o6.trans (OutS.up (H := H6) (o := .ins (cHouse K) A.dx (hf A true)) (HC.own_p A).1)
    have nT : ∀ {q : Addr} {ys : List V}, H6 q = some (.tup ys) → (upd H6 A.x (.ins (cHouse K) A.dx (hf A true))) q = some (.tup ys) := fun e => by
      rw [upd_ne (ne_of e hH6.ob (fun z => nomatch z))]
      exact e
    have ht7 := nT ht6
    have hts7 := nT hts6
    generalize upd H6 A.x (.ins (cHouse K) A.dx (hf A true)) = H7 at hH7 o7 ht7 hts7 ⊢
    clear nT hH6 o6 ht6 hts6
    refine ⟨_, rfl, _, _, _, _, _, rfl, hH7.ob, T.c_House, T.n_House_of_web, hf_web, _, rfl, t, _, _, .int c.1, rfl, rfl, SqT.of ht7, rfl, _, rfl, _, rfl, t, _, _, .int c.2, rfl, rfl, SqT.of ht7, rfl, A.wb, ts, rs, c.1, c.2, v, _, rfl, hH7.wb, hok, inr, hts7, hv, fun H8 s8 => ?_⟩
    have hH8 := hH7.same s8
    refine ⟨_, rfl, _, _, _, _, _, rfl, hH8.ob, T.c_House, T.n_House_run, hf_run, _, rfl, A.r, _, rfl, DPut.t (k := cK c) hH8.rn (s8 _ _ ht7) (by rw [List.length_map, sizeL]; show d.run.length < _; omega), ?_⟩
    have eR : putK (List.map entI d.run) (cK c) (V.int v) = (d.run ++ [(c, v)]).map entI := putK_I d.run c v hrn
    change (_ : Prop)
    have hH9 := hH8.put_run (d.run ++ [(c, v)])
    have o9 := (o7.trans (OutS.of s8)).trans (OutS.up (H := H8) (o := .dT ((d.run ++ [(c, v)]).map entI)) (HC.own_p A).2.2.1)
    rw [← eR] at hH9 o9
    refine ⟨_, rfl, _, _, _, _, rfl, hH9.ob, T.c_House, T.n_House_is_busy, (by show 10 < 1000; decide), ?_⟩
    rw [hf_put]
    exact k _ (o9.trans (OutS.up (HC.own_p A).1)) (hH9.put_busy false)
end
end S
set_option Elab.async false
set_option linter.all false
set_option maxRecDepth 100000
set_option maxHeartbeats 4000000
/-! # House.run_all, look -/
namespace S
open PySem PySem.Spec PyProof.Rows L2 G LamX NdefX SrtO
/-- outside of a house's own parts nothing is changed but the code's tables -/
def OutN (A : HA) (H H' : Hp) : Prop := ∀ b o, b ∉ A.own → H b = some o → (∀ ps, o ≠ .tbl ps) → H' b = some o
theorem OutN.trans {A : HA} {H H1 H2 : Hp} (a : OutN A H H1) (b : OutN A H1 H2) : OutN A H H2 := fun c o n e z => b c o n (a c o n e z) z
theorem OutN.of {A : HA} {H H' : Hp} (s : OutS A H H') : OutN A H H' := fun b o n e _ => s b o n e
theorem OutN.ext {A : HA} {H H' : Hp} (s : ExtN H H') : OutN A H H' := fun b o _ e z => s b o e z
theorem OutN.same {A : HA} {H H' : Hp} (s : Same H H') : OutN A H H' := fun b o _ e _ => s b o e
def ranL (rs : List RoomD) (d : HouseD) (R : List (Cell × Int)) : HouseD := R.foldl (fun d cv => ranH rs d cv.1 cv.2) d
theorem ranL_snoc (rs : List RoomD) (d : HouseD) (R : List (Cell × Int)) (c : Cell) (v : Int) : ranL rs d (R ++ [(c, v)]) = ranH rs (ranL rs d R) c v := by
  unfold ranL
  rw [List.foldl_append]
  rfl
section
variable {P : Program} {w : World} {K : PySem.W.Frag} {mg : Str → Option Value} {base : Heap}
def spRunAll (P : Program) (w : World) (K : PySem.W.Frag) : Sp := fun vs H Q _ => ∃ (A : HA) (l : Addr) (rs : List RoomD) (d : HouseD) (cs : List Cell) (bs : List Addr) (R : List (Cell × Int)), vs = [.ref A.x, .ref l] ∧ HC K H A rs d false ∧ OkWeb rs ∧ H l = some (.lst (bs.map V.ref)) ∧ TupsAt H (cs.map cV) bs ∧ cs.length ≤ 1000000 ∧ Tabs (TBS K) H ∧
  (R.map (·.1)).Perm cs ∧ (R.map (·.1)).Pairwise (fun x y => lexB (swapC y) (swapC x) = false) ∧ (∀ i c v, R[i]? = some (c, v) → RunOk P w rs (ranL rs d (R.take i)) c v) ∧
  ∀ H', OutN A H H' → Tabs (TBS K) H' → HC K H' A rs (ranL rs d R) false → Q .non H'
theorem ok_H_run_all (T : Tx K mg) (L : LT K mg base) : ML P w K mg base CX0 5 (cHouse K) "run_all" ["self", "cells"] (spRunAll P w K) := by
  have GB := ok_by_beats (P := P) (w := w) T L
  have GR := ok_H_run_cell (P := P) (w := w) (base := base) T
  have nd := sc_House_run_all.nd
  refine ML.of0 T.d_House_run_all T.c_House T.t_House_run_all sc_House_run_all b_House_run_all (fun vs H Q E h => ?_) (fun f cdv A' outer s H vs Q E hr h => ?_)
  · obtain ⟨A, l, rs, d, cs, bs, R, rfl, _⟩ := h; rfl
  · obtain ⟨A, l, rs, d, cs, bs, R, rfl, hH, hok, hl, hbs, hcl, hT, hpm, hpw, hR, k⟩ := h
    refine ⟨_, (pss_one (ps_for PassesOwn.never rfl (pi_list (pe_cl GB hr (by decide) pass0 (pa_cons (pv 1) pa_nil))) (pg_name (i := 2) nd rfl (Or.inl rfl)) (pss_one (ps_expr (pe_ml GR hr (by decide) pass0 (pv 0) (pa_cons (pv 2) pa_nil)))))), ?_⟩
    refine ⟨_, rfl, l, cs, bs, rfl, hl, hbs, hcl, hT, fun Hb p bs2 zs eb tb pm pw hp ht => ?_⟩
    obtain rfl : zs = R.map (·.1) := sorted_uniqC swapC swap_inj (pm.trans hpm.symm) pw hpw
    have hHb := hH.ext eb
    have pn : p ∉ A.own := hHb.notin hp (fun _ _ _ z => nomatch z) (fun _ z => nomatch z)
    have blen : bs2.length = R.length := by
      have := Paired.length ht
      rw [List.length_map, List.length_map] at this
      exact this.symm
    refine ⟨p, rfl, ⟨_, SqL.of hp⟩, ?_⟩
    refine for_list (xs := bs2.map V.ref) (fun i σ H' => OutS A Hb H' ∧ HC K H' A rs (ranL rs d (R.take i)) false ∧ ∃ u, σ = [some (.ref A.x), some (.ref l), u]) ⟨OutS.refl _ _, hHb, _, rfl⟩ (fun i σ H' _ h => SqL.of (h.1 _ _ pn hp)) (fun i y σ H1 hy h => ?_) (fun σ H1 h => ?_)
    · obtain ⟨o1, hH1, u, rfl⟩ := h
      obtain ⟨b, hb, rfl⟩ : ∃ b, bs2[i]? = some b ∧ y = .ref b := by
        rw [List.getElem?_map] at hy
        cases e : bs2[i]? with
        | none => rw [e] at hy; cases hy
        | some b => rw [e] at hy; exact ⟨b, rfl, (Option.some.inj hy).symm⟩
      obtain ⟨tp, htp, htb⟩ := L2.DX.pget ht hb
      rw [List.getElem?_map, List.getElem?_map] at htp
      obtain ⟨ce, hce, ec⟩ := Option.map_eq_some_iff.mp htp
      obtain ⟨⟨ce', v⟩, hcv, rfl⟩ := Option.map_eq_some_iff.mp hce
      subst ec
      have etk : R.take (i + 1) = R.take i ++ [(ce', v)] := by rw [List.take_add_one, hcv]; rfl
      have htb1 := o1 _ _ (hHb.notin htb (fun _ _ _ z => nomatch z) (fun _ z => nomatch z)) htb
      refine ⟨_, rfl, _, _, _, rfl, hH1.ob, hf_m, _, rfl, A, b, rs, _, ce', v, rfl, hH1, hok, htb1, hR i ce' v hcv, fun H2 o2 hH2 => ?_⟩
      refine ⟨o1.trans o2, ?_, _, rfl⟩
      rw [etk, ranL_snoc]
      exact hH2
    · obtain ⟨o1, hH1, u, rfl⟩ := h
      rw [List.length_map, blen, List.take_length] at hH1
      exact k _ ((OutN.ext eb).trans (OutN.of o1)) (hHb.out_tabs tb o1) hH1
def spLook (P : Program) (w : World) (K : PySem.W.Frag) : Sp := fun vs H Q _ => ∃ (A : HA) (rs : List RoomD) (d : HouseD) (room beat : Int) (m : List Int) (U : List Cell) (R : List (Cell × Int)), vs = [.ref A.x, .int room, .int beat] ∧ HC K H A rs d false ∧ OkWeb rs ∧ InR rs room ∧ 0 ≤ beat ∧ beat ≤ 10 ^ 60 ∧ d.pins.length ≤ 1000 ∧ d.run.length ≤ 1000 ∧ m.length < 64 ∧ (∀ e ∈ d.pins, e.1.2 ∈ m) ∧ (∀ e ∈ d.run, e.1.2 ∈ m) ∧ Tabs (TBS K) H ∧
  cntC rs (kH d) (room, beat) beat.toNat ≤ 2000 ∧ UOk rs (kH d) (room, beat) U ∧ (R.map (·.1)).Perm (U.filter fun c => !kH d c) ∧ (R.map (·.1)).Pairwise (fun x y => lexB (swapC y) (swapC x) = false) ∧ (∀ i c v, R[i]? = some (c, v) → RunOk P w rs (ranL rs d (R.take i)) c v) ∧
  kH (ranL rs d R) (room, beat) = true ∧ (ranL rs d R).looked.length ≤ 1000000 ∧
  ∀ H', OutN A H H' → Tabs (TBS K) H' → HC K H' A rs { ranL rs d R with looked := addC (ranL rs d R).looked (room, beat) } false → Q (.int (stH rs (ranL rs d R) (room, beat))) H'
theorem ok_H_look (T : Tx K mg) (L : LT K mg base) : ML P w K mg base CX0 9 (cHouse K) "look" ["self", "room", "beat"] (spLook P w K) := by
  have GF := ok_H_look_free (P := P) (w := w) (base := base) T
  have GC := ok_look_cell (P := P) (w := w) (base := base) T
  have GW := ok_H_walked (P := P) (w := w) T L
  have GN := ok_cells_needed (P := P) (w := w) (base := base) T 4 (by decide)
  have GK := ok_H_needs_none (P := P) (w := w) (base := base) T
  have GR := ok_H_run_all (P := P) (w := w) T L
  have GA := ok_H_at_cell (P := P) (w := w) (base := base) T
  have nd := sc_House_look.nd
  have hmem : (aHL, lamQ "House.look") ∈ lamDefs := List.mem_cons_of_mem _ (List.mem_cons_of_mem _ (List.mem_cons_of_mem _ (List.mem_cons_of_mem _ (List.mem_cons_of_mem _ (List.mem_cons_self ..)))))
  have TB := L.tb _ hmem
  obtain ⟨tm, mm⟩ := T.i_MOST_RUN_needs
  refine ML.ofC (d := aHL) T.d_House_look T.c_House T.t_House_look sc_House_look b_House_look (fun vs H Q E h => ?_) (fun A' outer s H vs Q E hr h => ?_)
  · obtain ⟨A, rs, d, room, beat, m, U, R, rfl, _⟩ := h; rfl
  · obtain ⟨A, rs, d, room, beat, m, U, R, rfl, hH, hok, hin, hb0, hb1, hpl, hrl, hm, hmp, hmr, hT, hcn, hU, hpm, hpw, hR, hkc, hll, k⟩ := h
    refine ⟨_, (pss_cons (ps_expr (pe_ml0 GF hr (by decide) pass0 (pv 0)))
      (pss_cons (ps_expr (pe_cl GC hr (by decide) pass0 (pa_cons (pe_fld (pv 0) rfl) (pa_cons (pv 1) (pa_cons (pv 2) pa_nil)))))
      (pss_cons (ps_set (i := 3) nd rfl (Or.inl rfl) (pe_tup (pa_cons (pv 1) (pa_cons (pv 2) pa_nil))))
      (pss_cons (ps_asg (pe_ml GW hr (by decide) pass0 (pv 0) (pa_cons (pv 3) pa_nil)) (pg_tup (by rfl) (pgs_cons (pg_name (i := 4) nd rfl (Or.inl rfl)) (pgs_cons (pg_name (i := 5) nd rfl (Or.inl rfl)) pgs_nil))))
      (pss_cons (ps_if (pt_cmpR op_gt (pv 4) (pe_glob (v := .int 2000) rfl mm ⟨_, rfl⟩) (nomark _)) pss_never pss_nil)
      (pss_cons (ps_if (pt_cmpR op_notN (pv 5) pe_non (nomark _)) pss_never pss_nil)
      (pss_cons (ps_set (i := 6) nd rfl (Or.inl rfl) (LV.pe_clU (E := C8.E0) GN hr (by decide) (js := [0]) (fr := ["self"]) (fun ok => Caps.made (scope := scHL) ok (ndef_free ndHL) (ndef_fr ndHL) rfl) (by decide +kernel) (clo_sub nsHL.free) (fun _ _ => rfl)
          (pa_cons (pe_fld (pv 0) rfl) (pa_cons (pe_lst (pa_cons (pv 3) pa_nil)) (pa_cons (LV.pe_lamv TB rfl (tt_mem hmem) (L.hu hmem) rfl (ndef_free ndHL)) pa_nil)))))
      (pss_cons (ps_expr (pe_ml GR hr (by decide) pass0 (pv 0) (pa_cons (pe_lc (own := [("one", 7)]) (g := gName 7) rfl nd (pi_list (pv 6)) (blkOk_by (N := N_House_look) (sc := defScope s_House_look) (by decide +kernel))
          (fun _ _ _ _ _ => pg_name (i := 7) nd rfl (Or.inl rfl)) (fun _ _ _ _ _ => pts_one (pt_not (pt_val (pe_ml GK hr (by decide) pass0 (pv 0) (pa_cons (pv 7) pa_nil))))) (fun _ _ _ _ _ => pv 7)) pa_nil)))
      (pss_cons (ps_dput (hu_of hr) (pe_fld (pv 0) rfl) (pv 3) pe_non rfl)
      (pss_one (ps_ret (pe_ml GA hr (by decide) pass0 (pv 0) (pa_cons (pv 3) pa_nil))))))))))))), ?_⟩
    obtain ⟨i0, i1⟩ := id hin
    refine ⟨_, rfl, _, _, _, rfl, hH.ob, hf_m, A, rs, d, rfl, hH, ?_⟩
    refine ⟨_, rfl, _, _, _, _, _, rfl, hH.ob, T.c_House, T.n_House_of_web, hf_web, _, rfl, _, rfl, A.wb, rs, room, beat, rfl, hH.wb, i0, i1, hb0, hb1, ?_⟩
    refine ⟨_, rfl, _, rfl, (by show 2 ≤ sizeLine; decide), fun t ht => ?_⟩
    have s1 : Same H (upd H t (.tup [.int room, .int beat])) := same_new (Same.refl _) ht
    have ht1 : (upd H t (.tup [.int room, .int beat])) t = some (.tup (cV (room, beat))) := upd_same
    generalize upd H t (.tup [.int room, .int beat]) = H1 at s1 ht1 ⊢
    have hH1 := hH.same s1
    refine ⟨_, rfl, _, _, _, rfl, hH1.ob, hf_m, _, rfl, A, t, rs, d, (room, beat), m, rfl, hH1, hok, ht1, hin, hb0, hpl, hrl, hm, hmp, hmr, hT.ext s1, fun H2 p2 e2 t2 hp2 => ?_⟩
    refine ⟨p2, _, rfl, SqT.of hp2, rfl, _, _, rfl, _, _, rfl, rfl, ?_⟩
    refine ⟨_, rfl, _, _, rfl, rfl, _, rfl, iteDF (by show ¬ 2000 < cntC rs (kH d) (room, beat) beat.toNat; omega) ?_⟩
    refine ⟨_, rfl, rfl, _, rfl, iteF ?_⟩
    have e02 := (ExtN.of s1).trans e2
    have hH2 := hH.ext e02
    have ht2 := extN_get e2 ht1
    -- needed
    refine ⟨_, rfl, _, _, _, _, _, rfl, hH2.ob, T.c_House, T.n_House_of_web, hf_web, _, rfl, (by show 1 ≤ sizeLine; decide), fun l hl => ?_⟩
    have e03 : ExtN H (upd H2 l (.lst [.ref t])) := extN_new e02 hl
    have t3 : Tabs (TBS K) (upd H2 l (.lst [.ref t])) := tabs_new t2 hl
    have ht3 : (upd H2 l (.lst [.ref t])) t = some (.tup (cV (room, beat))) := by rw [upd_ne (ne_of_none ht2 hl)]; exact ht2
    have hl3 : (upd H2 l (.lst [.ref t])) l = some (.lst ([t].map V.ref)) := upd_same
    generalize upd H2 l (.lst [.ref t]) = H3 at e03 t3 ht3 hl3 ⊢
    refine ⟨t3, fun f c' H7 e7 n7 t7 f7 hf7 hc7 => ⟨fun jj hjj => ?_, fun H8 hn8 he8 C8 => ?_⟩⟩
    · rcases List.mem_cons.mp hjj with rfl | hjj
      · exact ⟨_, rfl⟩
      · cases hjj
    have s78 : Same H7 H8 := fun b o e => by
      rw [he8 b (fun hb => by rw [hn8 b hb] at e; cases e)]
      exact e
    have e07 : ExtN H H7 := e03.trans e7
    have e08 := e07.trans (ExtN.of s78)
    refine ⟨A.wb, l, f, rs, kH d, [(room, beat)], U, [t], rfl, hH.wb.ext e08, hok, s78 _ _ (extN_get e7 hl3), .cons (s78 _ _ (extN_get e7 ht3)) .nil, List.pairwise_singleton .., ?_, hU.nd, hU.le, hU.inr, fun c hc => by rw [List.mem_singleton.mp hc]; exact hU.m0, hU.cl, hU.nr, fun H9 p9 bs zs s9 np9 hzm hzw hp9 ht9 => ?_⟩
    · exact fv_hs T hH e07 hn8 he8 rfl (fun pm ctv us hl => match us, hl with | [_], _ => rfl) ⟨_, _, _, _, _, rfl, fun env => rfl⟩ (s78 _ _ hf7) (s78 _ _ hc7) C8
    · intro Hd sd1 sd2 _ sd3
      have nf := sd3 (ExtN.of s9)
      have eHd : ExtN H Hd := e07.trans (sd2 (ExtN.of s9))
      have tHd := tabs_sd ((t7.ext s78).ext s9) nf
      have hpd := nf _ _ (fun _ _ z => by cases z) hp9
      have htd : TupsAt Hd (zs.map cV) bs := ht9.same fun b t e => nf _ _ (fun _ _ z => by cases z) e
      have ht4 := nf _ _ (fun _ _ z => by cases z) (s9 _ _ (s78 _ _ (extN_get e7 ht3)))
      have hHd := hH.ext eHd
      have blen : bs.length = zs.length := by
        have := Paired.length htd
        rw [List.length_map] at this
        exact this.symm
      have zlen : zs.length ≤ 100000 := by rw [hzm.length_eq]; exact hU.le
      -- run
      refine ⟨_, rfl, _, _, _, rfl, hHd.ob, hf_m, _, rfl, p9, rfl, ⟨_, SqL.of hpd⟩, fun D hD => ?_⟩
      refine lc_tups (walk_list (xs := bs.map V.ref)) (fun i => (zs[i]?).bind fun c => if (!kH d c) = true then some (cV c) else none) (by rw [List.length_map]; omega) hD (fun H5 s5 => SqL.of (s5 _ _ hpd)) (fun i y H5 H6 acc Nx hi s5 hacc hlen2 hy k1 k0 => ?_) (fun H5 rb s5 h5 ht5 => ?_)
      · obtain ⟨rfl, hx⟩ := hy
        obtain ⟨b, hb, rfl⟩ : ∃ b, bs[i]? = some b ∧ y = .ref b := by
          rw [List.getElem?_map] at hx
          cases e : bs[i]? with
          | none => rw [e] at hx; cases hx
          | some b => rw [e] at hx; exact ⟨b, rfl, (Option.some.inj hx).symm⟩
        obtain ⟨tp, htp, htb⟩ := L2.DX.pget htd hb
        rw [List.getElem?_map] at htp
        obtain ⟨ce, hce, ec⟩ := Option.map_eq_some_iff.mp htp
        subst ec
        rw [hce] at k1 k0
        have hH5 := hHd.same s5
        have htb5 := s5 _ _ htb
        refine ⟨rfl, _, rfl, _, _, _, rfl, hH5.ob, hf_m, _, rfl, A, b, rs, d, false, ce, rfl, hH5, htb5, hU.inr ce (hzm.mem_iff.mp (List.mem_of_getElem? hce)), _, rfl, ?_⟩
        cases hkc2 : kH d ce with
        | true => exact iteF (k0 _ (by simp [hkc2]) (Same.refl _))
        | false => exact iteT ⟨_, rfl, acc, hacc, hlen2, k1 b _ _ (by simp [hkc2]) htb5 (Same.refl _)⟩
      have eR : List.filterMap (fun i => (zs[i]?).bind fun c => if (!kH d c) = true then some (cV c) else none) (List.range (bs.map V.ref).length) = (zs.filter fun c => !kH d c).map cV := by
        rw [List.length_map, blen, filterMap_range, filterMap_if]
      rw [eR] at ht5
      have hH5 := hHd.same s5
      have t5 := tHd.ext s5
      have rle : (zs.filter fun c => !kH d c).length ≤ zs.length := List.length_filter_le ..
      refine ⟨A, D, rs, d, _, rb, R, rfl, hH5, hok, h5, ht5, by omega, t5, hpm.trans (hzm.filter _).symm, hpw, hR, fun H6 o6 t6 hH6 => ?_⟩
      have ht6 := o6 _ _ (hH5.notin (s5 _ _ ht4) (fun _ _ _ z => nomatch z) (fun _ z => nomatch z)) (s5 _ _ ht4) (fun _ z => nomatch z)
      -- looked
      refine ⟨_, rfl, _, _, _, _, _, rfl, hH6.ob, T.c_House, T.n_House_looked, hf_looked, _, rfl, A.l, _, rfl, DPut.t (k := cK (room, beat)) hH6.lk ht6 (by rw [List.length_map, sizeL]; omega), ?_⟩
      rw [putK_N]
      have hH7 := hH6.put_looked (addC (ranL rs d R).looked (room, beat))
      have ht7 : (upd H6 A.l (.dT ((addC (ranL rs d R).looked (room, beat)).map entN))) t = some (.tup (cV (room, beat))) := by rw [upd_ne (ne_of ht6 hH6.lk (fun z => nomatch z))]; exact ht6
      have oS : OutS A H6 (upd H6 A.l (.dT ((addC (ranL rs d R).looked (room, beat)).map entN))) := OutS.up (HC.own_p A).2.2.2.2.2.1
      refine ⟨_, rfl, _, _, _, rfl, hH7.ob, hf_m, _, rfl, A, t, rs, _, false, (room, beat), rfl, hH7, ht7, hin, hkc, ?_⟩
      exact k _ ((OutN.ext eHd).trans ((OutN.same s5).trans (o6.trans (OutN.of oS)))) (hH6.out_tabs t6 oS) hH7
end
end S
set_option Elab.async false
set_option linter.all false
set_option maxRecDepth 100000
set_option maxHeartbeats 4000000
/-! # House.__init__ (printed by genQ6.py) -/
namespace S
open PySem PySem.Spec PyProof.Rows L2 G LamX NdefX SrtO
def newH : HouseD := ⟨[], [], [], [], [], []⟩
theorem same_fld {H0 Hc : Hp} {x : Addr} {o : HO} (s : Same H0 Hc) (x0 : H0 x = none) : Same H0 (upd Hc x o) := fun b u e => by
  rw [upd_ne (ne_of_none e x0)]
  exact s b u e
section
variable {P : Program} {w : World} {K : PySem.W.Frag} {mg : Str → Option Value} {base : Heap}
def spHouseI (K : PySem.W.Frag) : Sp := fun vs H Q _ => ∃ (H0 : Hp) (x dx wb : Addr) (rs : List RoomD), vs = [.ref x, .ref wb] ∧ H x = some (.ins (cHouse K) dx []) ∧ Same H0 H ∧ H0 x = none ∧ WebAt K H0 wb rs ∧ rs.length ≤ 12 ∧
  ∀ H' (A : HA), A.x = x → A.wb = wb → Same H0 H' → (∀ q ∈ A.own, H0 q = none) → HC K H' A rs newH false → Q .non H'
theorem ok_House_init (T : Tx K mg) : KL P w K mg base CX0 2 "House" (cHouse K) ["self", "web"] (spHouseI K) := by
  have GR := ok_Web_rooms (P := P) (w := w) (base := base) T
  have nd := sc_House_init.nd
  refine KL.of0 T.d_House_init T.m_House T.g_House sc_House_init b_House_init (fun vs H Q E h => ?_) (fun f cdv A' outer s H vs Q E hr h => ?_)
  · obtain ⟨H0, x, dx, wb, rs, rfl, _⟩ := h; rfl
  · obtain ⟨H0, x, dx, wb, rs, rfl, hx, s0, x0, hW, hrl, k⟩ := h
    refine ⟨_, (pss_cons (ps_fld (pv 0) (pv 1) rfl)
      (pss_cons (ps_fld (pv 0) pe_dnewT rfl)
      (pss_cons (ps_fld (pv 0) pe_dnewT rfl)
      (pss_cons (ps_fld (pv 0) pe_dnewT rfl)
      (pss_cons (ps_fld (pv 0) pe_dnewT rfl)
      (pss_cons (ps_fld (pv 0) pe_dnewT rfl)
      (pss_cons (ps_fld (pv 0) pe_dnewT rfl)
      (pss_cons (ps_fld (pv 0) (pe_lst pa_nil) rfl)
      (pss_cons (ps_fld (pv 0) (pe_lc (own := [("room", 2)]) (g := gName 2) (tt := tYes) rfl nd (pi_tup (pe_ml0 GR hr (by decide) pass0 (pv 1))) (blkOk_by (N := N_House_init) (sc := defScope s_House_init) (by decide +kernel)) (fun _ _ _ _ _ => pg_name (i := 2) nd rfl (Or.inl rfl)) (fun _ _ _ _ _ => pts_nil) (fun _ _ _ _ _ => pe_non)) rfl)
      (pss_one (ps_fld (pv 0) pe_bl rfl))))))))))), ?_⟩
    refine ⟨_, rfl, _, rfl, _, _, _, _, rfl, hx, T.c_House, T.n_House_of_web, (by show 0 < 1000; decide), ?_⟩
    have s1 := same_fld (o := .ins (cHouse K) dx (putF "of_web" (.ref wb) [])) s0 x0
    have x1 : (upd H x (.ins (cHouse K) dx (putF "of_web" (.ref wb) []))) x = some (.ins (cHouse K) dx (putF "of_web" (.ref wb) [])) := upd_same
    generalize upd H x (.ins (cHouse K) dx (putF "of_web" (.ref wb) [])) = H1 at s1 x1 ⊢
    intro p hp
    have np : p ≠ x := (ne_of_none x1 hp).symm
    have zp : H0 p = none := none_same s1 hp
    refine ⟨_, rfl, _, _, _, _, rfl, (by rw [upd_ne np.symm]; exact x1), T.c_House, T.n_House_pins, (by show 1 < 1000; decide), ?_⟩
    have s2 := same_fld (o := .ins (cHouse K) dx (putF "pins" (.ref p) (putF "of_web" (.ref wb) []))) (same_new (o := .dT []) s1 zp) x0
    have x2 : (upd (upd H1 p (.dT [])) x (.ins (cHouse K) dx (putF "pins" (.ref p) (putF "of_web" (.ref wb) [])))) x = some (.ins (cHouse K) dx (putF "pins" (.ref p) (putF "of_web" (.ref wb) []))) := upd_same
    have vp : (upd (upd H1 p (.dT [])) x (.ins (cHouse K) dx (putF "pins" (.ref p) (putF "of_web" (.ref wb) [])))) p = some (.dT []) := by rw [upd_ne np, upd_same]
    generalize upd (upd H1 p (.dT [])) x (.ins (cHouse K) dx (putF "pins" (.ref p) (putF "of_web" (.ref wb) []))) = H2 at s2 x2 vp  ⊢
    intro r hr
    have nr : r ≠ x := (ne_of_none x2 hr).symm
    have zr : H0 r = none := none_same s2 hr
    refine ⟨_, rfl, _, _, _, _, rfl, (by rw [upd_ne nr.symm]; exact x2), T.c_House, T.n_House_run, (by show 2 < 1000; decide), ?_⟩
    have s3 := same_fld (o := .ins (cHouse K) dx (putF "run" (.ref r) (putF "pins" (.ref p) (putF "of_web" (.ref wb) [])))) (same_new (o := .dT []) s2 zr) x0
    have x3 : (upd (upd H2 r (.dT [])) x (.ins (cHouse K) dx (putF "run" (.ref r) (putF "pins" (.ref p) (putF "of_web" (.ref wb) []))))) x = some (.ins (cHouse K) dx (putF "run" (.ref r) (putF "pins" (.ref p) (putF "of_web" (.ref wb) [])))) := upd_same
    have vr : (upd (upd H2 r (.dT [])) x (.ins (cHouse K) dx (putF "run" (.ref r) (putF "pins" (.ref p) (putF "of_web" (.ref wb) []))))) r = some (.dT []) := by rw [upd_ne nr, upd_same]
    have d_p_r : p ≠ r := ne_of_none vp hr
    have vp' : (upd (upd H2 r (.dT [])) x (.ins (cHouse K) dx (putF "run" (.ref r) (putF "pins" (.ref p) (putF "of_web" (.ref wb) []))))) p = some (.dT []) := by rw [upd_ne np, upd_ne d_p_r]; exact vp
    clear vp
    generalize upd (upd H2 r (.dT [])) x (.ins (cHouse K) dx (putF "run" (.ref r) (putF "pins" (.ref p) (putF "of_web" (.ref wb) [])))) = H3 at s3 x3 vr vp' ⊢
    have vp := vp'
    clear vp'
    intro a ha
    have na : a ≠ x := (ne_of_none x3 ha).symm
    have za : H0 a = none := none_same s3 ha
    refine ⟨_, rfl, _, _, _, _, rfl, (by rw [upd_ne na.symm]; exact x3), T.c_House, T.n_House_asked, (by show 3 < 1000; decide), ?_⟩
    have s4 := same_fld (o := .ins (cHouse K) dx (putF "asked" (.ref a) (putF "run" (.ref r) (putF "pins" (.ref p) (putF "of_web" (.ref wb) []))))) (same_new (o := .dT []) s3 za) x0
    have x4 : (upd (upd H3 a (.dT [])) x (.ins (cHouse K) dx (putF "asked" (.ref a) (putF "run" (.ref r) (putF "pins" (.ref p) (putF "of_web" (.ref wb) [])))))) x = some (.ins (cHouse K) dx (putF "asked" (.ref a) (putF "run" (.ref r) (putF "pins" (.ref p) (putF "of_web" (.ref wb) []))))) := upd_same
    have va : (upd (upd H3 a (.dT [])) x (.ins (cHouse K) dx (putF "asked" (.ref a) (putF "run" (.ref r) (putF "pins" (.ref p) (putF "of_web" (.ref wb) [])))))) a = some (.dT []) := by rw [upd_ne na, upd_same]
    have d_p_a : p ≠ a := ne_of_none vp ha
    have vp' : (upd (upd H3 a (.dT [])) x (.ins (cHouse K) dx (putF "asked" (.ref a) (putF "run" (.ref r) (putF "pins" (.ref p) (putF "of_web" (.ref wb) [])))))) p = some (.dT []) := by rw [upd_ne np, upd_ne d_p_a]; exact vp
    have d_r_a : r ≠ a := ne_of_none vr ha
    have vr' : (upd (upd H3 a (.dT [])) x (.ins (cHouse K) dx (putF "asked" (.ref a) (putF "run" (.ref r) (putF "pins" (.ref p) (putF "of_web" (.ref wb) [])))))) r = some (.dT []) := by rw [upd_ne nr, upd_ne d_r_a]; exact vr
    clear vp vr
    generalize upd (upd H3 a (.dT [])) x (.ins (cHouse K) dx (putF "asked" (.ref a) (putF "run" (.ref r) (putF "pins" (.ref p) (putF "of_web" (.ref wb) []))))) = H4 at s4 x4 va vp' vr' ⊢
    have vp := vp'
    clear vp'
    have vr := vr'
    clear vr'
    intro h hh
    have nh : h ≠ x := (ne_of_none x4 hh).symm
    have zh : H0 h = none := none_same s4 hh
    refine ⟨_, rfl, _, _, _, _, rfl, (by rw [upd_ne nh.symm]; exact x4), T.c_House, T.n_House_heard, (by show 4 < 1000; decide), ?_⟩
    have s5 := same_fld (o := .ins (cHouse K) dx (putF "heard" (.ref h) (putF "asked" (.ref a) (putF "run" (.ref r) (putF "pins" (.ref p) (putF "of_web" (.ref wb) [])))))) (same_new (o := .dT []) s4 zh) x0
    have x5 : (upd (upd H4 h (.dT [])) x (.ins (cHouse K) dx (putF "heard" (.ref h) (putF "asked" (.ref a) (putF "run" (.ref r) (putF "pins" (.ref p) (putF "of_web" (.ref wb) []))))))) x = some (.ins (cHouse K) dx (putF "heard" (.ref h) (putF "asked" (.ref a) (putF "run" (.ref r) (putF "pins" (.ref p) (putF "of_web" (.ref wb) [])))))) := upd_same
    have vh : (upd (upd H4 h (.dT [])) x (.ins (cHouse K) dx (putF "heard" (.ref h) (putF "asked" (.ref a) (putF "run" (.ref r) (putF "pins" (.ref p) (putF "of_web" (.ref wb) []))))))) h = some (.dT []) := by rw [upd_ne nh, upd_same]
    have d_p_h : p ≠ h := ne_of_none vp hh
    have vp' : (upd (upd H4 h (.dT [])) x (.ins (cHouse K) dx (putF "heard" (.ref h) (putF "asked" (.ref a) (putF "run" (.ref r) (putF "pins" (.ref p) (putF "of_web" (.ref wb) []))))))) p = some (.dT []) := by rw [upd_ne np, upd_ne d_p_h]; exact vp
    have d_r_h : r ≠ h := ne_of_none vr hh
    have vr' : (upd (upd H4 h (.dT [])) x (.ins (cHouse K) dx (putF "heard" (.ref h) (putF "asked" (.ref a) (putF "run" (.ref r) (putF "pins" (.ref p) (putF "of_web" (.ref wb) []))))))) r = some (.dT []) := by rw [upd_ne nr, upd_ne d_r_h]; exact vr
    have d_a_h : a ≠ h := ne_of_none va hh
    have va' : (upd (upd H4 h (.dT [])) x (.ins (cHouse K) dx (putF "heard" (.ref h) (putF "asked" (.ref a) (putF "run" (.ref r) (putF "pins" (.ref p) (putF "of_web" (.ref wb) []))))))) a = some (.dT []) := by rw [upd_ne na, upd_ne d_a_h]; exact va
    clear vp vr va
    generalize upd (upd H4 h (.dT [])) x (.ins (cHouse K) dx (putF "heard" (.ref h) (putF "asked" (.ref a) (putF "run" (.ref r) (putF "pins" (.ref p) (putF "of_web" (.ref wb) [])))))) = H5 at s5 x5 vh vp' vr' va' ⊢
    have vp := vp'
    clear vp'
    have vr := vr'
    clear vr'
    have va := va'
    clear va'
    intro l hl
    have nl : l ≠ x := (ne_of_none x5 hl).symm
    have zl : H0 l = none := none_same s5 hl
    refine ⟨_, rfl, _, _, _, _, rfl, (by rw [upd_ne nl.symm]; exact x5), T.c_House, T.n_House_looked, (by show 5 < 1000; decide), ?_⟩
    have s6 := same_fld (o := .ins (cHouse K) dx (putF "looked" (.ref l) (putF "heard" (.ref h) (putF "asked" (.ref a) (putF "run" (.ref r) (putF "pins" (.ref p) (putF "of_web" (.ref wb) []))))))) (same_new (o := .dT []) s5 zl) x0
    have x6 : (upd (upd H5 l (.dT [])) x (.ins (cHouse K) dx (putF "looked" (.ref l) (putF "heard" (.ref h) (putF "asked" (.ref a) (putF "run" (.ref r) (putF "pins" (.ref p) (putF "of_web" (.ref wb) [])))))))) x = some (.ins (cHouse K) dx (putF "looked" (.ref l) (putF "heard" (.ref h) (putF "asked" (.ref a) (putF "run" (.ref r) (putF "pins" (.ref p) (putF "of_web" (.ref wb) []))))))) := upd_same
    have vl : (upd (upd H5 l (.dT [])) x (.ins (cHouse K) dx (putF "looked" (.ref l) (putF "heard" (.ref h) (putF "asked" (.ref a) (putF "run" (.ref r) (putF "pins" (.ref p) (putF "of_web" (.ref wb) [])))))))) l = some (.dT []) := by rw [upd_ne nl, upd_same]
    have d_p_l : p ≠ l := ne_of_none vp hl
    have vp' : (upd (upd H5 l (.dT [])) x (.ins (cHouse K) dx (putF "looked" (.ref l) (putF "heard" (.ref h) (putF "asked" (.ref a) (putF "run" (.ref r) (putF "pins" (.ref p) (putF "of_web" (.ref wb) [])))))))) p = some (.dT []) := by rw [upd_ne np, upd_ne d_p_l]; exact vp
    have d_r_l : r ≠ l := ne_of_none vr hl
    have vr' : (upd (upd H5 l (.dT [])) x (.ins (cHouse K) dx (putF "looked" (.ref l) (putF "heard" (.ref h) (putF "asked" (.ref a) (putF "run" (.ref r) (putF "pins" (.ref p) (putF "of_web" (.ref wb) [])))))))) r = some (.dT []) := by rw [upd_ne nr, upd_ne d_r_l]; exact vr
    have d_a_l : a ≠ l := ne_of_none va hl
    have va' : (upd (upd H5 l (.dT [])) x (.ins (cHouse K) dx (putF "looked" (.ref l) (putF "heard" (.ref h) (putF "asked" (.ref a) (putF "run" (.ref r) (putF "pins" (.ref p) (putF "of_web" (.ref wb) [])))))))) a = some (.dT []) := by rw [upd_ne na, upd_ne d_a_l]; exact va
    have d_h_l : h ≠ l := ne_of_none vh hl
    have vh' : (upd (upd H5 l (.dT [])) x (.ins (cHouse K) dx (putF "looked" (.ref l) (putF "heard" (.ref h) (putF "asked" (.ref a) (putF "run" (.ref r) (putF "pins" (.ref p) (putF "of_web" (.ref wb) [])))))))) h = some (.dT []) := by rw [upd_ne nh, upd_ne d_h_l]; exact vh
    clear vp vr va vh
    generalize upd (upd H5 l (.dT [])) x (.ins (cHouse K) dx (putF "looked" (.ref l) (putF "heard" (.ref h) (putF "asked" (.ref a) (putF "run" (.ref r) (putF "pins" (.ref p) (putF "of_web" (.ref wb) []))))))) = H6 at s6 x6 vl vp' vr' va' vh' ⊢
    have vp := vp'
    clear vp'
    have vr := vr'
    clear vr'
    have va := va'
    clear va'
    have vh := vh'
    clear vh'
    intro k' hk'
    have nk' : k' ≠ x := (ne_of_none x6 hk').symm
    have zk' : H0 k' = none := none_same s6 hk'
    refine ⟨_, rfl, _, _, _, _, rfl, (by rw [upd_ne nk'.symm]; exact x6), T.c_House, T.n_House_kept, (by show 6 < 1000; decide), ?_⟩
    have s7 := same_fld (o := .ins (cHouse K) dx (putF "kept" (.ref k') (putF "looked" (.ref l) (putF "heard" (.ref h) (putF "asked" (.ref a) (putF "run" (.ref r) (putF "pins" (.ref p) (putF "of_web" (.ref wb) [])))))))) (same_new (o := .dT []) s6 zk') x0
    have x7 : (upd (upd H6 k' (.dT [])) x (.ins (cHouse K) dx (putF "kept" (.ref k') (putF "looked" (.ref l) (putF "heard" (.ref h) (putF "asked" (.ref a) (putF "run" (.ref r) (putF "pins" (.ref p) (putF "of_web" (.ref wb) []))))))))) x = some (.ins (cHouse K) dx (putF "kept" (.ref k') (putF "looked" (.ref l) (putF "heard" (.ref h) (putF "asked" (.ref a) (putF "run" (.ref r) (putF "pins" (.ref p) (putF "of_web" (.ref wb) [])))))))) := upd_same
    have vk' : (upd (upd H6 k' (.dT [])) x (.ins (cHouse K) dx (putF "kept" (.ref k') (putF "looked" (.ref l) (putF "heard" (.ref h) (putF "asked" (.ref a) (putF "run" (.ref r) (putF "pins" (.ref p) (putF "of_web" (.ref wb) []))))))))) k' = some (.dT []) := by rw [upd_ne nk', upd_same]
    have d_p_k' : p ≠ k' := ne_of_none vp hk'
    have vp' : (upd (upd H6 k' (.dT [])) x (.ins (cHouse K) dx (putF "kept" (.ref k') (putF "looked" (.ref l) (putF "heard" (.ref h) (putF "asked" (.ref a) (putF "run" (.ref r) (putF "pins" (.ref p) (putF "of_web" (.ref wb) []))))))))) p = some (.dT []) := by rw [upd_ne np, upd_ne d_p_k']; exact vp
    have d_r_k' : r ≠ k' := ne_of_none vr hk'
    have vr' : (upd (upd H6 k' (.dT [])) x (.ins (cHouse K) dx (putF "kept" (.ref k') (putF "looked" (.ref l) (putF "heard" (.ref h) (putF "asked" (.ref a) (putF "run" (.ref r) (putF "pins" (.ref p) (putF "of_web" (.ref wb) []))))))))) r = some (.dT []) := by rw [upd_ne nr, upd_ne d_r_k']; exact vr
    have d_a_k' : a ≠ k' := ne_of_none va hk'
    have va' : (upd (upd H6 k' (.dT [])) x (.ins (cHouse K) dx (putF "kept" (.ref k') (putF "looked" (.ref l) (putF "heard" (.ref h) (putF "asked" (.ref a) (putF "run" (.ref r) (putF "pins" (.ref p) (putF "of_web" (.ref wb) []))))))))) a = some (.dT []) := by rw [upd_ne na, upd_ne d_a_k']; exact va
    have d_h_k' : h ≠ k' := ne_of_none vh hk'
    have vh' : (upd (upd H6 k' (.dT [])) x (.ins (cHouse K) dx (putF "kept" (.ref k') (putF "looked" (.ref l) (putF "heard" (.ref h) (putF "asked" (.ref a) (putF "run" (.ref r) (putF "pins" (.ref p) (putF "of_web" (.ref wb) []))))))))) h = some (.dT []) := by rw [upd_ne nh, upd_ne d_h_k']; exact vh
    have d_l_k' : l ≠ k' := ne_of_none vl hk'
    have vl' : (upd (upd H6 k' (.dT [])) x (.ins (cHouse K) dx (putF "kept" (.ref k') (putF "looked" (.ref l) (putF "heard" (.ref h) (putF "asked" (.ref a) (putF "run" (.ref r) (putF "pins" (.ref p) (putF "of_web" (.ref wb) []))))))))) l = some (.dT []) := by rw [upd_ne nl, upd_ne d_l_k']; exact vl
    clear vp vr va vh vl
    generalize upd (upd H6 k' (.dT [])) x (.ins (cHouse K) dx (putF "kept" (.ref k') (putF "looked" (.ref l) (putF "heard" (.ref h) (putF "asked" (.ref a) (putF "run" (.ref r) (putF "pins" (.ref p) (putF "of_web" (.ref wb) [])))))))) = H7 at s7 x7 vk' vp' vr' va' vh' vl' ⊢
    have vp := vp'
    clear vp'
    have vr := vr'
    clear vr'
    have va := va'
    clear va'
    have vh := vh'
    clear vh'
    have vl := vl'
    clear vl'
    refine ⟨Nat.zero_le _, ?_⟩
    intro ro hro
    have nro : ro ≠ x := (ne_of_none x7 hro).symm
    have zro : H0 ro = none := none_same s7 hro
    refine ⟨_, rfl, _, _, _, _, rfl, (by rw [upd_ne nro.symm]; exact x7), T.c_House, T.n_House_roads, (by show 7 < 1000; decide), ?_⟩
    have s8 := same_fld (o := .ins (cHouse K) dx (putF "roads" (.ref ro) (putF "kept" (.ref k') (putF "looked" (.ref l) (putF "heard" (.ref h) (putF "asked" (.ref a) (putF "run" (.ref r) (putF "pins" (.ref p) (putF "of_web" (.ref wb) []))))))))) (same_new (o := .lst []) s7 zro) x0
    have x8 : (upd (upd H7 ro (.lst [])) x (.ins (cHouse K) dx (putF "roads" (.ref ro) (putF "kept" (.ref k') (putF "looked" (.ref l) (putF "heard" (.ref h) (putF "asked" (.ref a) (putF "run" (.ref r) (putF "pins" (.ref p) (putF "of_web" (.ref wb) [])))))))))) x = some (.ins (cHouse K) dx (putF "roads" (.ref ro) (putF "kept" (.ref k') (putF "looked" (.ref l) (putF "heard" (.ref h) (putF "asked" (.ref a) (putF "run" (.ref r) (putF "pins" (.ref p) (putF "of_web" (.ref wb) []))))))))) := upd_same
    have vro : (upd (upd H7 ro (.lst [])) x (.ins (cHouse K) dx (putF "roads" (.ref ro) (putF "kept" (.ref k') (putF "looked" (.ref l) (putF "heard" (.ref h) (putF "asked" (.ref a) (putF "run" (.ref r) (putF "pins" (.ref p) (putF "of_web" (.ref wb) [])))))))))) ro = some (.lst []) := by rw [upd_ne nro, upd_same]
    have d_p_ro : p ≠ ro := ne_of_none vp hro
    have vp' : (upd (upd H7 ro (.lst [])) x (.ins (cHouse K) dx (putF "roads" (.ref ro) (putF "kept" (.ref k') (putF "looked" (.ref l) (putF "heard" (.ref h) (putF "asked" (.ref a) (putF "run" (.ref r) (putF "pins" (.ref p) (putF "of_web" (.ref wb) [])))))))))) p = some (.dT []) := by rw [upd_ne np, upd_ne d_p_ro]; exact vp
    have d_r_ro : r ≠ ro := ne_of_none vr hro
    have vr' : (upd (upd H7 ro (.lst [])) x (.ins (cHouse K) dx (putF "roads" (.ref ro) (putF "kept" (.ref k') (putF "looked" (.ref l) (putF "heard" (.ref h) (putF "asked" (.ref a) (putF "run" (.ref r) (putF "pins" (.ref p) (putF "of_web" (.ref wb) [])))))))))) r = some (.dT []) := by rw [upd_ne nr, upd_ne d_r_ro]; exact vr
    have d_a_ro : a ≠ ro := ne_of_none va hro
    have va' : (upd (upd H7 ro (.lst [])) x (.ins (cHouse K) dx (putF "roads" (.ref ro) (putF "kept" (.ref k') (putF "looked" (.ref l) (putF "heard" (.ref h) (putF "asked" (.ref a) (putF "run" (.ref r) (putF "pins" (.ref p) (putF "of_web" (.ref wb) [])))))))))) a = some (.dT []) := by rw [upd_ne na, upd_ne d_a_ro]; exact va
    have d_h_ro : h ≠ ro := ne_of_none vh hro
    have vh' : (upd (upd H7 ro (.lst [])) x (.ins (cHouse K) dx (putF "roads" (.ref ro) (putF "kept" (.ref k') (putF "looked" (.ref l) (putF "heard" (.ref h) (putF "asked" (.ref a) (putF "run" (.ref r) (putF "pins" (.ref p) (putF "of_web" (.ref wb) [])))))))))) h = some (.dT []) := by rw [upd_ne nh, upd_ne d_h_ro]; exact vh
    have d_l_ro : l ≠ ro := ne_of_none vl hro
    have vl' : (upd (upd H7 ro (.lst [])) x (.ins (cHouse K) dx (putF "roads" (.ref ro) (putF "kept" (.ref k') (putF "looked" (.ref l) (putF "heard" (.ref h) (putF "asked" (.ref a) (putF "run" (.ref r) (putF "pins" (.ref p) (putF "of_web" (.ref wb) [])))))))))) l = some (.dT []) := by rw [upd_ne nl, upd_ne d_l_ro]; exact vl
    have d_k'_ro : k' ≠ ro := ne_of_none vk' hro
    have vk'' : (upd (upd H7 ro (.lst [])) x (.ins (cHouse K) dx (putF "roads" (.ref ro) (putF "kept" (.ref k') (putF "looked" (.ref l) (putF "heard" (.ref h) (putF "asked" (.ref a) (putF "run" (.ref r) (putF "pins" (.ref p) (putF "of_web" (.ref wb) [])))))))))) k' = some (.dT []) := by rw [upd_ne nk', upd_ne d_k'_ro]; exact vk'
    clear vp vr va vh vl vk'
    generalize upd (upd H7 ro (.lst [])) x (.ins (cHouse K) dx (putF "roads" (.ref ro) (putF "kept" (.ref k') (putF "looked" (.ref l) (putF "heard" (.ref h) (putF "asked" (.ref a) (putF "run" (.ref r) (putF "pins" (.ref p) (putF "of_web" (.ref wb) []))))))))) = H8 at s8 x8 vro vp' vr' va' vh' vl' vk'' ⊢
    have vp := vp'
    clear vp'
    have vr := vr'
    clear vr'
    have va := va'
    clear va'
    have vh := vh'
    clear vh'
    have vl := vl'
    clear vl'
    have vk' := vk''
    clear vk''
    obtain ⟨dxw, tw, hw1, as, hw2, hw3, hw4⟩ := id (hW.same s8)
    refine ⟨_, rfl, _, _, _, rfl, hw1, wf_none, wb, dxw, tw, rfl, hw1, _, rfl, ⟨_, SqT.of hw2⟩, fun ft hft => ?_⟩
    refine lc_map (walk_tup (xs := as.map V.ref)) (fun _ => V.non) (by rw [List.length_map, hw3]; omega) hft (fun H' s' => SqT.of (s' _ _ hw2)) (fun i y Ha Hb acc Nx hi sa hacc hlen hy kk => ?_) (fun H9 s9' h9 => ?_)
    · obtain ⟨rfl, _⟩ := hy
      exact ⟨rfl, yes_ (iteT ⟨acc, hacc, hlen, kk _ sa hacc⟩)⟩
    rw [List.length_map, hw3, List.map_const', List.length_range] at h9
    have zft : H0 ft = none := none_same s8 hft
    have nft : ft ≠ x := (ne_of_none x8 hft).symm
    refine ⟨_, rfl, _, _, _, _, rfl, s9' _ _ x8, T.c_House, T.n_House_far_tops, (by show 8 < 1000; decide), ?_⟩
    refine ⟨_, rfl, _, _, _, _, rfl, upd_same, T.c_House, T.n_House_is_busy, (by show 9 < 1000; decide), ?_⟩
    rw [upd2]
    have hf0 := hf_all (A := ⟨x, dx, wb, p, r, a, h, l, k', ro, ft⟩) (b := false)
    dsimp only at hf0
    rw [hf0]
    have sF : Same H0 (upd H9 x (.ins (cHouse K) dx (hf ⟨x, dx, wb, p, r, a, h, l, k', ro, ft⟩ false))) := same_fld (s8.trans s9') x0
    refine k _ ⟨x, dx, wb, p, r, a, h, l, k', ro, ft⟩ rfl rfl sF (fun q hq => ?_) ⟨upd_same, hW.same sF, by rw [upd_ne np]; exact s9' _ _ vp, by rw [upd_ne nr]; exact s9' _ _ vr, by rw [upd_ne na]; exact s9' _ _ va, by rw [upd_ne nh]; exact s9' _ _ vh, by rw [upd_ne nl]; exact s9' _ _ vl, by rw [upd_ne nk']; exact s9' _ _ vk', by rw [upd_ne nro]; exact s9' _ _ vro, by rw [upd_ne nft]; exact h9, ?_⟩
    · unfold HA.own at hq
      simp only [List.mem_cons, List.mem_singleton, List.not_mem_nil, or_false] at hq
      rcases hq with rfl | rfl | rfl | rfl | rfl | rfl | rfl
      · exact x0
      · exact zp
      · exact zr
      · exact za
      · exact zh
      · exact zl
      · exact zk'
    · simp [d_p_r, d_p_a, d_p_h, d_p_l, d_p_k', d_r_a, d_r_h, d_r_l, d_r_k', d_a_h, d_a_l, d_a_k', d_h_l, d_h_k', d_l_k']
end
end S
set_option Elab.async false
set_option linter.all false
set_option maxRecDepth 100000
set_option maxHeartbeats 4000000
/-! # House.is_free, poke (let, or the same), web, pokes, copy (copy printed by genQ7.py) -/
namespace S
open PySem PySem.Spec PyProof.Rows L2 G LamX NdefX SrtO
def putE (l : List Ent) (c : Cell) (v : Int) : List Ent := if (lkP l c).isSome then l.map (fun e => if e.1 = c then (e.1, v) else e) else l ++ [(c, v)]
theorem putK_E (l : List Ent) (c : Cell) (v : Int) : putK (l.map entI) (cK c) (.int v) = (putE l c v).map entI := by
  unfold putE putK
  rw [valV_any, valV_ent, Option.isSome_map]
  cases h : (lkP l c).isSome with
  | false => rw [if_neg (by decide), if_neg (by decide), List.map_append]; rfl
  | true =>
    rw [if_pos rfl, if_pos rfl, List.map_map, List.map_map]
    refine List.map_congr_left fun e _ => ?_
    show (if cK e.1 = cK c then (cK e.1, V.int v) else entI e) = entI (if e.1 = c then (e.1, v) else e)
    by_cases q : e.1 = c
    · rw [if_pos (by rw [q]), if_pos q]
    · rw [if_neg (fun z => q (cK_inj z)), if_neg q]
theorem putAll_new : ∀ (more kvs : List (List L2.Key × V)), (more.map (·.1)).Nodup → (∀ p ∈ more, valV kvs p.1 = none) → DT2.putAllK kvs more = kvs ++ more
  | [], kvs, _, _ => (List.append_nil _).symm
  | p :: r, kvs, nd, h => by
    have h1 := List.pairwise_cons.mp nd
    show DT2.putAllK (putK kvs p.1 p.2) r = _
    rw [putAll_new r _ h1.2 fun q hq => ?_, putK_new _ (h p (List.mem_cons_self ..)), List.append_assoc]
    · rfl
    · rw [valV_put, if_neg (fun z => h1.1 q.1 (List.mem_map.mpr ⟨q, hq, rfl⟩) z.symm)]
      exact h q (List.mem_cons_of_mem _ hq)
theorem nodup_of_hash {α : Type} {P : Program} {w : World} {l : List α} {f : α → List L2.Key} (h : (l.map fun x => DT2.hashT P w (f x)).Nodup) : (l.map f).Nodup := by
  refine List.pairwise_map.mpr ((List.pairwise_map.mp h).imp fun n e => n ?_)
  rw [e]
theorem putAll_0 {P : Program} {w : World} {more : List (List L2.Key × V)} (h : (more.map fun x => DT2.hashT P w x.1).Nodup) : DT2.putAllK [] more = more :=
  putAll_new more [] (nodup_of_hash h) fun _ _ => rfl
theorem upd_id {H : Hp} {a : Addr} {o : HO} (h : H a = some o) : upd H a o = H := funext fun b => by
  by_cases e : b = a
  · rw [e, upd_same, h]
  · rw [upd_ne e]
theorem hf_putT {A : HA} {b : Bool} {l : Addr} : putF "far_tops" (.ref l) (hf A b) = hf { A with ft := l } b := by kernel_rfl
theorem HC.put_tops {K : PySem.W.Frag} {H : Hp} {A : HA} {rs : List RoomD} {d : HouseD} {b : Bool} {l : Addr} (h : HC K H A rs d b) (hl : H l = some (.lst (List.replicate rs.length .non))) : HC K (upd H A.x (.ins (cHouse K) A.dx (hf { A with ft := l } b))) { A with ft := l } rs d b :=
  ⟨upd_same, h.wb.upH h.ob, (by show (upd H A.x _) A.p = _; rw [upd_ne (ne_of h.pn h.ob (fun z => nomatch z))]; exact h.pn), (by show (upd H A.x _) A.r = _; rw [upd_ne (ne_of h.rn h.ob (fun z => nomatch z))]; exact h.rn), (by show (upd H A.x _) A.a = _; rw [upd_ne (ne_of h.ak h.ob (fun z => nomatch z))]; exact h.ak), (by show (upd H A.x _) A.h = _; rw [upd_ne (ne_of h.hd h.ob (fun z => nomatch z))]; exact h.hd), (by show (upd H A.x _) A.l = _; rw [upd_ne (ne_of h.lk h.ob (fun z => nomatch z))]; exact h.lk), (by show (upd H A.x _) A.k = _; rw [upd_ne (ne_of h.kp h.ob (fun z => nomatch z))]; exact h.kp), (by show (upd H A.x _) A.ro = _; rw [upd_ne (ne_of h.ro h.ob (fun z => nomatch z))]; exact h.ro), (by show (upd H A.x _) l = _; rw [upd_ne (ne_of hl h.ob (fun z => nomatch z))]; exact hl), h.nd⟩
section
variable {P : Program} {w : World} {K : PySem.W.Frag} {mg : Str → Option Value} {base : Heap}
theorem ok_look_stand (T : Tx K mg) : CL P w K mg base CX0 3 "look_stand" ["web", "room", "stand"] (fun vs H Q _ => ∃ (x : Addr) (rs : List RoomD) (i v : Int), vs = [.ref x, .int i, .int v] ∧ WebAt K H x rs ∧ InR rs i ∧ 0 ≤ v ∧ v < (rAt rs i).size ∧ Q .non H) := by
  have G1 : CL P w K mg base CX0 2 "is_from" ["thing", "least", "most"] spIsFrom := ok_is_from T
  refine CL.of0 T.d_look_stand T.g_look_stand sc_look_stand b_look_stand (fun vs H Q E h => ?_) (fun f cdv A outer s H vs Q E hr h => ?_)
  · obtain ⟨x, rs, i, v, rfl, _⟩ := h; rfl
  · obtain ⟨x, rs, i, v, rfl, ⟨dx, t, hx, hR⟩, ⟨i0, i1⟩, v0, v1, k⟩ := h
    refine ⟨_, (pss_one (ps_if (pt_not (pt_val (pe_cl G1 hr (by decide) pass0 (pa_cons (pv 2) (pa_cons pe_int (pa_cons (pe_op op_sub (pe_fld (pe_ix ix_tup (pe_fld (pv 0) rfl) (pv 1) (fun _ _ => rfl)) rfl) pe_int) pa_nil)))))) pss_never pss_nil)), ?_⟩
    obtain ⟨xs, y, q1, q2, dy, th, tr, h3, h4, h5⟩ := get2 hR i0 i1
    refine ⟨_, rfl, _, rfl, _, _, _, _, _, rfl, hx, T.c_Web, T.n_Web_kept, wf_kept, _, rfl, _, _, _, _, rfl, rfl, SqT.of q1, q2, _, _, _, _, _, rfl, h3, T.c_Room, T.n_Room_size, rf_size, _, _, rfl, rfl, _, _, _, rfl, ?_⟩
    rw [decide_eq_true ⟨v0, by omega⟩]
    exact ⟨_, rfl, iteF k⟩
theorem ok_H_is_free (T : Tx K mg) : ML P w K mg base CX0 5 (cHouse K) "is_free" ["self", "room", "beat"] (fun vs H Q _ => ∃ (A : HA) (rs : List RoomD) (d : HouseD) (room beat : Int), vs = [.ref A.x, .int room, .int beat] ∧ HC K H A rs d false ∧ InR rs room ∧ 0 ≤ beat ∧ beat ≤ 10 ^ 60 ∧ ∀ H', Same H H' → Q (.bl (!seenH d (room, beat))) H') := by
  have GF := ok_H_look_free (P := P) (w := w) (base := base) T
  have GC := ok_look_cell (P := P) (w := w) (base := base) T
  have GS := ok_H_is_seen (P := P) (w := w) (base := base) T
  refine ML.of0 T.d_House_is_free T.c_House T.t_House_is_free sc_House_is_free b_House_is_free (fun vs H Q E h => ?_) (fun f cdv A' outer s H vs Q E hr h => ?_)
  · obtain ⟨A, rs, d, room, beat, rfl, _⟩ := h; rfl
  · obtain ⟨A, rs, d, room, beat, rfl, hH, hin, hb0, hb1, k⟩ := h
    refine ⟨_, (pss_cons (ps_expr (pe_ml0 GF hr (by decide) pass0 (pv 0)))
      (pss_cons (ps_expr (pe_cl GC hr (by decide) pass0 (pa_cons (pe_fld (pv 0) rfl) (pa_cons (pv 1) (pa_cons (pv 2) pa_nil)))))
      (pss_one (ps_ret (pe_not (pe_ml GS hr (by decide) pass0 (pv 0) (pa_cons (pe_tup (pa_cons (pv 1) (pa_cons (pv 2) pa_nil))) pa_nil))))))), ?_⟩
    obtain ⟨i0, i1⟩ := id hin
    refine ⟨_, rfl, _, _, _, rfl, hH.ob, hf_m, A, rs, d, rfl, hH, ?_⟩
    refine ⟨_, rfl, _, _, _, _, _, rfl, hH.ob, T.c_House, T.n_House_of_web, hf_web, _, rfl, _, rfl, A.wb, rs, room, beat, rfl, hH.wb, i0, i1, hb0, hb1, ?_⟩
    refine ⟨_, rfl, _, _, _, rfl, hH.ob, hf_m, _, rfl, _, rfl, (by show 2 ≤ sizeLine; decide), fun t ht => ?_⟩
    have s1 : Same H (upd H t (.tup [.int room, .int beat])) := same_new (Same.refl _) ht
    exact ⟨A, t, rs, d, false, (room, beat), rfl, hH.same s1, upd_same, hin, _, rfl, k _ s1⟩
def spPoke (K : PySem.W.Frag) : Sp := fun vs H Q _ => ∃ (A : HA) (rs : List RoomD) (d : HouseD) (room beat v : Int), vs = [.ref A.x, .int room, .int beat, .int v] ∧ HC K H A rs d false ∧ InR rs room ∧ 0 ≤ beat ∧ beat ≤ 10 ^ 60 ∧ 0 ≤ v ∧ v < (rAt rs room).size ∧ d.pins.length ≤ 100000 ∧
  (seenH d (room, beat) = true → kH d (room, beat) = true ∧ stH rs d (room, beat) = v ∧ ∀ H', Same H H' → Q (.bl false) H') ∧
  (seenH d (room, beat) = false → ∀ H', OutS A H H' → HC K H' A rs { d with pins := putE d.pins (room, beat) v } false → Q (.bl true) H')
theorem ok_H_poke (T : Tx K mg) : ML P w K mg base CX0 5 (cHouse K) "poke" ["self", "room", "beat", "stand"] (spPoke K) := by
  have GF := ok_H_look_free (P := P) (w := w) (base := base) T
  have GC := ok_look_cell (P := P) (w := w) (base := base) T
  have GL := ok_look_stand (P := P) (w := w) (base := base) T
  have GG := ok_H_look_forgotten (P := P) (w := w) (base := base) T
  have GS := ok_H_is_seen (P := P) (w := w) (base := base) T
  have GA := ok_H_at_cell (P := P) (w := w) (base := base) T
  have nd := sc_House_poke.nd
  refine ML.of0 T.d_House_poke T.c_House T.t_House_poke sc_House_poke b_House_poke (fun vs H Q E h => ?_) (fun f cdv A' outer s H vs Q E hr h => ?_)
  · obtain ⟨A, rs, d, room, beat, v, rfl, _⟩ := h; rfl
  · obtain ⟨A, rs, d, room, beat, v, rfl, hH, hin, hb0, hb1, v0, v1, hpl, ks, kf⟩ := h
    refine ⟨_, (pss_cons (ps_expr (pe_ml0 GF hr (by decide) pass0 (pv 0)))
      (pss_cons (ps_expr (pe_cl GC hr (by decide) pass0 (pa_cons (pe_fld (pv 0) rfl) (pa_cons (pv 1) (pa_cons (pv 2) pa_nil)))))
      (pss_cons (ps_expr (pe_cl GL hr (by decide) pass0 (pa_cons (pe_fld (pv 0) rfl) (pa_cons (pv 1) (pa_cons (pv 3) pa_nil)))))
      (pss_cons (ps_set (i := 4) nd rfl (Or.inl rfl) (pe_tup (pa_cons (pv 1) (pa_cons (pv 2) pa_nil))))
      (pss_cons (ps_expr (pe_ml GG hr (by decide) pass0 (pv 0) (pa_cons (pv 4) pa_nil)))
      (pss_cons (ps_if (pt_not (pt_val (pe_ml GS hr (by decide) pass0 (pv 0) (pa_cons (pv 4) pa_nil)))) (pss_cons (ps_dput (hu_of hr) (pe_fld (pv 0) rfl) (pv 4) (pv 3) rfl)
      (pss_one (ps_ret pe_bl))) pss_nil)
      (pss_cons (ps_if (pt_cmpR op_ne (pe_ml GA hr (by decide) pass0 (pv 0) (pa_cons (pv 4) pa_nil)) (pv 3) (nomark _)) pss_never pss_nil)
      (pss_one (ps_ret pe_bl))))))))), ?_⟩
    obtain ⟨i0, i1⟩ := id hin
    refine ⟨_, rfl, _, _, _, rfl, hH.ob, hf_m, A, rs, d, rfl, hH, ?_⟩
    refine ⟨_, rfl, _, _, _, _, _, rfl, hH.ob, T.c_House, T.n_House_of_web, hf_web, _, rfl, _, rfl, A.wb, rs, room, beat, rfl, hH.wb, i0, i1, hb0, hb1, ?_⟩
    refine ⟨_, rfl, _, _, _, _, _, rfl, hH.ob, T.c_House, T.n_House_of_web, hf_web, _, rfl, _, rfl, A.wb, rs, room, v, rfl, hH.wb, hin, v0, v1, ?_⟩
    refine ⟨_, rfl, _, rfl, (by show 2 ≤ sizeLine; decide), fun t ht => ?_⟩
    have s1 : Same H (upd H t (.tup [.int room, .int beat])) := same_new (Same.refl _) ht
    have ht1 : (upd H t (.tup [.int room, .int beat])) t = some (.tup (cV (room, beat))) := upd_same
    generalize upd H t (.tup [.int room, .int beat]) = H1 at s1 ht1 ⊢
    have hH1 := hH.same s1
    refine ⟨_, rfl, _, _, _, rfl, hH1.ob, hf_m, _, rfl, A, t, rs, d, false, (room, beat), rfl, hH1, ht1, hin, ?_⟩
    refine ⟨_, rfl, _, _, _, rfl, hH1.ob, hf_m, _, rfl, A, t, rs, d, false, (room, beat), rfl, hH1, ht1, hin, _, rfl, ?_⟩
    cases hs : seenH d (room, beat) with
    | false =>
      refine iteT ?_
      refine ⟨_, rfl, _, rfl, _, _, _, _, _, rfl, hH1.ob, T.c_House, T.n_House_pins, hf_pins, _, rfl, A.p, _, rfl, DPut.t (k := cK (room, beat)) hH1.pn ht1 (by rw [List.length_map, sizeL]; omega), ?_⟩
      rw [putK_E]
      exact kf hs _ ((OutS.of s1).trans (OutS.up (HC.own_p A).2.1)) (hH1.put_pins _)
    | true =>
      refine iteF ?_
      obtain ⟨hk, hv, k⟩ := ks hs
      refine ⟨_, rfl, _, _, _, rfl, hH1.ob, hf_m, _, rfl, A, t, rs, d, false, (room, beat), rfl, hH1, ht1, hin, hk, _, rfl, rfl, _, rfl, ?_⟩
      rw [dV]
      refine iteNDT hv ?_
      exact k _ s1
theorem ok_H_web (T : Tx K mg) : ML P w K mg base CX0 1 (cHouse K) "web" ["self"] (fun vs H Q _ => ∃ (A : HA) (rs : List RoomD) (d : HouseD) (b : Bool), vs = [.ref A.x] ∧ HC K H A rs d b ∧ Q (.ref A.wb) H) := by
  refine ML.of0 T.d_House_web T.c_House T.t_House_web sc_House_web b_House_web (fun vs H Q E h => ?_) (fun f cdv A' outer s H vs Q E hr h => ?_)
  · obtain ⟨A, rs, d, b, rfl, _⟩ := h; rfl
  · obtain ⟨A, rs, d, b, rfl, hH, k⟩ := h
    refine ⟨_, (pss_one (ps_ret (pe_fld (pv 0) rfl))), ?_⟩
    exact ⟨_, rfl, _, _, _, _, _, rfl, hH.ob, T.c_House, T.n_House_of_web, hf_web, k⟩
theorem ok_H_pokes (T : Tx K mg) : ML P w K mg base CX0 2 (cHouse K) "pokes" ["self"] (fun vs H Q _ => ∃ (A : HA) (rs : List RoomD) (d : HouseD), vs = [.ref A.x] ∧ HC K H A rs d false ∧ (d.pins.map fun e => DT2.hashT P w (cK e.1)).Nodup ∧ ∀ p, H p = none → Q (.ref p) (upd H p (.dT (d.pins.map entI)))) := by
  have GF := ok_H_look_free (P := P) (w := w) (base := base) T
  refine ML.of0 T.d_House_pokes T.c_House T.t_House_pokes sc_House_pokes b_House_pokes (fun vs H Q E h => ?_) (fun f cdv A' outer s H vs Q E hr h => ?_)
  · obtain ⟨A, rs, d, rfl, _⟩ := h; rfl
  · obtain ⟨A, rs, d, rfl, hH, hn, k⟩ := h
    refine ⟨_, (pss_cons (ps_expr (pe_ml0 GF hr (by decide) pass0 (pv 0)))
      (pss_one (ps_ret (pe_callTy (DT2.call_dictT (hu2_of hr)) (by rfl) T.f_dict (by decide +kernel) (pa_cons (pe_fld (pv 0) rfl) pa_nil))))), ?_⟩
    refine ⟨_, rfl, _, _, _, rfl, hH.ob, hf_m, A, rs, d, rfl, hH, ?_⟩
    exact ⟨_, rfl, _, _, _, _, _, rfl, hH.ob, T.c_House, T.n_House_pins, hf_pins, A.p, _, rfl, hH.pn, (by rw [List.map_map]; exact hn), k⟩
def spCopy (P : Program) (w : World) (K : PySem.W.Frag) : Sp := fun vs H Q _ => ∃ (A : HA) (rs : List RoomD) (d : HouseD), vs = [.ref A.x] ∧ HC K H A rs d false ∧ rs.length ≤ 12 ∧ d.kept = [] ∧
  (d.pins.map fun e => DT2.hashT P w (cK e.1)).Nodup ∧ d.pins.length ≤ 100000 ∧
  (d.run.map fun e => DT2.hashT P w (cK e.1)).Nodup ∧ d.run.length ≤ 100000 ∧
  (d.asked.map fun e => DT2.hashT P w (cK e)).Nodup ∧ d.asked.length ≤ 100000 ∧
  (d.heard.map fun e => DT2.hashT P w (cK e)).Nodup ∧ d.heard.length ≤ 100000 ∧
  (d.looked.map fun e => DT2.hashT P w (cK e)).Nodup ∧ d.looked.length ≤ 100000 ∧
  ∀ H' (B : HA), Same H H' → (∀ q ∈ B.own, H q = none) → HC K H' B rs d false → Q (.ref B.x) H'
theorem ok_H_copy (T : Tx K mg) : ML P w K mg base CX0 4 (cHouse K) "copy" ["self"] (spCopy P w K) := by
  have GF := ok_H_look_free (P := P) (w := w) (base := base) T
  have GI := ok_House_init (P := P) (w := w) (base := base) T
  have nd := sc_House_copy.nd
  refine ML.of0 T.d_House_copy T.c_House T.t_House_copy sc_House_copy b_House_copy (fun vs H Q E h => ?_) (fun f cdv A' outer s H vs Q E hr h => ?_)
  · obtain ⟨A, rs, d, rfl, _⟩ := h; rfl
  · obtain ⟨A, rs, ⟨pins, run, asked, heard, looked, kept⟩, rfl, hH, hrl, hk, np, lp, nr, lr, na, la, nh, lh, nl, ll, k⟩ := h
    have hk : kept = [] := hk
    subst hk
    dsimp only at np lp nr lr na la nh lh nl ll
    refine ⟨_, (pss_cons (ps_expr (pe_ml0 GF hr (by decide) pass0 (pv 0)))
      (pss_cons (ps_set (i := 1) nd rfl (Or.inl rfl) (pe_kl GI hr (by decide) pass0 (pa_cons (pe_fld (pv 0) rfl) pa_nil)))
      (pss_cons (ps_expr (pe_bm PySem.F.plainAttrs_dict PySem.F.slot_dict_update PySem.F.type_dict_update (DT2.mt_updT (hu2_of hr)) (pe_fld (pv 1) rfl) (pa_cons (pe_fld (pv 0) rfl) pa_nil)))
      (pss_cons (ps_expr (pe_bm PySem.F.plainAttrs_dict PySem.F.slot_dict_update PySem.F.type_dict_update (DT2.mt_updT (hu2_of hr)) (pe_fld (pv 1) rfl) (pa_cons (pe_fld (pv 0) rfl) pa_nil)))
      (pss_cons (ps_expr (pe_bm PySem.F.plainAttrs_dict PySem.F.slot_dict_update PySem.F.type_dict_update (DT2.mt_updT (hu2_of hr)) (pe_fld (pv 1) rfl) (pa_cons (pe_fld (pv 0) rfl) pa_nil)))
      (pss_cons (ps_expr (pe_bm PySem.F.plainAttrs_dict PySem.F.slot_dict_update PySem.F.type_dict_update (DT2.mt_updT (hu2_of hr)) (pe_fld (pv 1) rfl) (pa_cons (pe_fld (pv 0) rfl) pa_nil)))
      (pss_cons (ps_expr (pe_bm PySem.F.plainAttrs_dict PySem.F.slot_dict_update PySem.F.type_dict_update (DT2.mt_updT (hu2_of hr)) (pe_fld (pv 1) rfl) (pa_cons (pe_fld (pv 0) rfl) pa_nil)))
      (pss_cons (ps_expr (pe_bm PySem.F.plainAttrs_dict PySem.F.slot_dict_update PySem.F.type_dict_update (DT2.mt_updT (hu2_of hr)) (pe_fld (pv 1) rfl) (pa_cons (pe_fld (pv 0) rfl) pa_nil)))
      (pss_cons (ps_expr (pe_bm PySem.F.plainAttrs_list PySem.F.slot_list_extend PySem.F.type_list_extend mt_extend (pe_fld (pv 1) rfl) (pa_cons (pe_fld (pv 0) rfl) pa_nil)))
      (pss_cons (ps_fld (pv 1) (pe_callTy call_list_of (by rfl) T.f_list (by decide +kernel) (pa_cons (pe_fld (pv 0) rfl) pa_nil)) rfl)
      (pss_one (ps_ret (pv 1))))))))))))), ?_⟩
    refine ⟨_, rfl, _, _, _, rfl, hH.ob, hf_m, A, rs, _, rfl, hH, ?_⟩
    refine ⟨_, rfl, _, _, _, _, _, rfl, hH.ob, T.c_House, T.n_House_of_web, hf_web, ?_⟩
    intro x dx nx nd' ne
    refine ⟨H, x, dx, A.wb, rs, rfl, upd_same, same_new (same_new (Same.refl _) nd') nx, nx, hH.wb, hrl, fun H0 B e1 e2 s0 own hB => ⟨rfl, ?_⟩⟩
    subst e1
    clear e2
    have hA0 := hH.same s0
    refine ⟨_, rfl, _, _, _, _, _, rfl, hB.ob, T.c_House, T.n_House_pins, hf_pins, .inr (.inr (.inl ⟨rfl, .inr ⟨_, hB.pn⟩⟩)), _, rfl, _, _, _, _, _, rfl, hA0.ob, T.c_House, T.n_House_pins, hf_pins, B.p, A.p, [], _, rfl, rfl, hB.pn, hA0.pn, (fun z => by have q := own B.p (HC.own_p B).2.1; rw [z, hH.pn] at q; cases q), .inr (by rw [List.map_map]; exact np), (by rw [List.length_map, sizeL]; show 0 + pins.length ≤ _; omega), ?_⟩
    rw [putAll_0 (P := P) (w := w) (by rw [List.map_map]; exact np)]
    have hB := hB.put_pins pins
    have s1 := same_fld (o := .dT (pins.map entI)) s0 (own B.p (HC.own_p B).2.1)
    change HC K (upd H0 B.p (.dT (pins.map entI))) B rs ⟨pins, [], [], [], [], []⟩ false at hB
    generalize upd H0 B.p (.dT (pins.map entI)) = H1 at hB s1 ⊢
    have hA1 := hH.same s1
    refine ⟨_, rfl, _, _, _, _, _, rfl, hB.ob, T.c_House, T.n_House_run, hf_run, .inr (.inr (.inl ⟨rfl, .inr ⟨_, hB.rn⟩⟩)), _, rfl, _, _, _, _, _, rfl, hA1.ob, T.c_House, T.n_House_run, hf_run, B.r, A.r, [], _, rfl, rfl, hB.rn, hA1.rn, (fun z => by have q := own B.r (HC.own_p B).2.2.1; rw [z, hH.rn] at q; cases q), .inr (by rw [List.map_map]; exact nr), (by rw [List.length_map, sizeL]; show 0 + run.length ≤ _; omega), ?_⟩
    rw [putAll_0 (P := P) (w := w) (by rw [List.map_map]; exact nr)]
    have hB := hB.put_run run
    have s2 := same_fld (o := .dT (run.map entI)) s1 (own B.r (HC.own_p B).2.2.1)
    change HC K (upd H1 B.r (.dT (run.map entI))) B rs ⟨pins, run, [], [], [], []⟩ false at hB
    generalize upd H1 B.r (.dT (run.map entI)) = H2 at hB s2 ⊢
    have hA2 := hH.same s2
    refine ⟨_, rfl, _, _, _, _, _, rfl, hB.ob, T.c_House, T.n_House_asked, hf_asked, .inr (.inr (.inl ⟨rfl, .inr ⟨_, hB.ak⟩⟩)), _, rfl, _, _, _, _, _, rfl, hA2.ob, T.c_House, T.n_House_asked, hf_asked, B.a, A.a, [], _, rfl, rfl, hB.ak, hA2.ak, (fun z => by have q := own B.a (HC.own_p B).2.2.2.1; rw [z, hH.ak] at q; cases q), .inr (by rw [List.map_map]; exact na), (by rw [List.length_map, sizeL]; show 0 + asked.length ≤ _; omega), ?_⟩
    rw [putAll_0 (P := P) (w := w) (by rw [List.map_map]; exact na)]
    have hB := hB.put_asked asked
    have s3 := same_fld (o := .dT (asked.map entN)) s2 (own B.a (HC.own_p B).2.2.2.1)
    change HC K (upd H2 B.a (.dT (asked.map entN))) B rs ⟨pins, run, asked, [], [], []⟩ false at hB
    generalize upd H2 B.a (.dT (asked.map entN)) = H3 at hB s3 ⊢
    have hA3 := hH.same s3
    refine ⟨_, rfl, _, _, _, _, _, rfl, hB.ob, T.c_House, T.n_House_heard, hf_heard, .inr (.inr (.inl ⟨rfl, .inr ⟨_, hB.hd⟩⟩)), _, rfl, _, _, _, _, _, rfl, hA3.ob, T.c_House, T.n_House_heard, hf_heard, B.h, A.h, [], _, rfl, rfl, hB.hd, hA3.hd, (fun z => by have q := own B.h (HC.own_p B).2.2.2.2.1; rw [z, hH.hd] at q; cases q), .inr (by rw [List.map_map]; exact nh), (by rw [List.length_map, sizeL]; show 0 + heard.length ≤ _; omega), ?_⟩
    rw [putAll_0 (P := P) (w := w) (by rw [List.map_map]; exact nh)]
    have hB := hB.put_heard heard
    have s4 := same_fld (o := .dT (heard.map entN)) s3 (own B.h (HC.own_p B).2.2.2.2.1)
    change HC K (upd H3 B.h (.dT (heard.map entN))) B rs ⟨pins, run, asked, heard, [], []⟩ false at hB
    generalize upd H3 B.h (.dT (heard.map entN)) = H4 at hB s4 ⊢
    have hA4 := hH.same s4
    refine ⟨_, rfl, _, _, _, _, _, rfl, hB.ob, T.c_House, T.n_House_looked, hf_looked, .inr (.inr (.inl ⟨rfl, .inr ⟨_, hB.lk⟩⟩)), _, rfl, _, _, _, _, _, rfl, hA4.ob, T.c_House, T.n_House_looked, hf_looked, B.l, A.l, [], _, rfl, rfl, hB.lk, hA4.lk, (fun z => by have q := own B.l (HC.own_p B).2.2.2.2.2.1; rw [z, hH.lk] at q; cases q), .inr (by rw [List.map_map]; exact nl), (by rw [List.length_map, sizeL]; show 0 + looked.length ≤ _; omega), ?_⟩
    rw [putAll_0 (P := P) (w := w) (by rw [List.map_map]; exact nl)]
    have hB := hB.put_looked looked
    have s5 := same_fld (o := .dT (looked.map entN)) s4 (own B.l (HC.own_p B).2.2.2.2.2.1)
    change HC K (upd H4 B.l (.dT (looked.map entN))) B rs ⟨pins, run, asked, heard, looked, []⟩ false at hB
    generalize upd H4 B.l (.dT (looked.map entN)) = H5 at hB s5 ⊢
    have hA5 := hH.same s5
    refine ⟨_, rfl, _, _, _, _, _, rfl, hB.ob, T.c_House, T.n_House_kept, hf_kept, .inr (.inr (.inl ⟨rfl, .inr ⟨_, hB.kp⟩⟩)), _, rfl, _, _, _, _, _, rfl, hA5.ob, T.c_House, T.n_House_kept, hf_kept, B.k, A.k, [], [], rfl, rfl, hB.kp, hA5.kp, (fun z => by have q := own B.k (HC.own_p B).2.2.2.2.2.2; rw [z, hH.kp] at q; cases q), .inr List.nodup_nil, (by show 0 ≤ _; exact Nat.zero_le _), ?_⟩
    rw [show DT2.putAllK [] [] = ([] : List (List L2.Key × V)) from rfl, upd_id (show H5 B.k = some (.dT []) from hB.kp)]
    refine ⟨_, rfl, _, _, _, _, _, rfl, hB.ob, T.c_House, T.n_House_roads, hf_roads, .inl ⟨rfl, _, SqL.of hB.ro⟩, _, rfl, _, _, _, _, _, rfl, hA5.ob, T.c_House, T.n_House_roads, hf_roads, B.ro, A.ro, [], [], rfl, rfl, hB.ro, hA5.ro, (by show 0 ≤ _; exact Nat.zero_le _), ?_⟩
    rw [List.append_nil, upd_id hB.ro]
    refine ⟨_, rfl, _, _, _, _, _, rfl, hA5.ob, T.c_House, T.n_House_far_tops, hf_tops, _, _, rfl, .inl (SqL.of hA5.ft), fun l hl => ?_⟩
    have sl : Same H5 (upd H5 l (.lst (List.replicate rs.length .non))) := same_new (Same.refl _) hl
    have hBl := hB.same sl
    refine ⟨_, rfl, _, _, _, _, rfl, hBl.ob, T.c_House, T.n_House_far_tops, (by show 10 < 1000; decide), ?_⟩
    rw [hf_putT]
    have hB2 := hBl.put_tops (l := l) upd_same
    exact ⟨_, rfl, k _ { B with ft := l } (same_fld (s5.trans sl) (own B.x (HC.own_p B).1)) own hB2⟩
end
end S
set_option Elab.async false
set_option linter.all false
set_option maxRecDepth 100000
set_option maxHeartbeats 4000000
/-! # Web.__len__, House.askers, way_down -/
namespace S
open PySem PySem.Spec PyProof.Rows L2 G LamX NdefX SrtO
theorem hu65 {k : Nat} {A : Around} (hr : Room k A) : A.units + 65 < cLine := by
  have := hr.un
  omega
section
variable {X : Cx}
theorem op_inDK (K : PySem.W.Frag) (hu : X.A.units + 65 < cLine) (hK : X.K = K := by rfl) : OpR X (compareOp .In) (rInD K) := by
  subst hK
  exact op_inD hu
end
theorem eqv_cell (a b : Cell) : PyData.eqv (cD a) (cD b) = decide (a = b) := by
  obtain ⟨a1, a2⟩ := a
  obtain ⟨b1, b2⟩ := b
  by_cases h1 : a1 = b1
  · by_cases h2 : a2 = b2
    · subst h1 h2
      simp [PyData.eqv, PyData.eqvAll]
    · simp [PyData.eqv, PyData.eqvAll, h2]
  · simp [PyData.eqv, PyData.eqvAll, h1]
theorem any_cell (l : List Cell) (c : Cell) : (l.map cD).any (fun z => PyData.eqv z (cD c)) = decide (c ∈ l) := by
  induction l with
  | nil => rfl
  | cons a r ih =>
    rw [List.map_cons, List.any_cons, ih, eqv_cell]
    by_cases h : a = c
    · simp [h]
    · have h' : ¬ c = a := fun z => h z.symm
      simp [h, h']
theorem shaped_cell (c : Cell) : SeqAt.shaped (cD c) = true := by simp [SeqAt.shaped, PyData.canLay0, PyData.canLayAll0, PyData.depth, PyData.depthAll]
/-- the cells whose rules were asked and that hear a cell -/
def askF (rs : List RoomD) (d : HouseD) (c : Cell) : List Cell := ((List.range rs.length).map fun (r : Nat) => (((r : Int), c.2 + 1) : Cell)).filter fun e => decide (e ∈ d.asked) && decide (c ∈ heardC rs e)
section
variable {P : Program} {w : World} {K : PySem.W.Frag} {mg : Str → Option Value} {base : Heap}
def spWebLen (K : PySem.W.Frag) : Sp := fun vs H Q _ => ∃ (x : Addr) (rs : List RoomD), vs = [.ref x] ∧ WebAt K H x rs ∧ Q (.int ((rs.length : Nat) : Int)) H
theorem ok_Web_len (T : Tx K mg) : ML P w K mg base CX0 1 (cWeb K) "__len__" ["self"] (spWebLen K) := by
  refine ML.of0 T.d_Web_len T.c_Web T.t_Web_len sc_Web_len b_Web_len (fun vs H Q E h => ?_) (fun f cdv A' outer s H vs Q E hr h => ?_)
  · obtain ⟨x, rs, rfl, _⟩ := h; rfl
  · obtain ⟨x, rs, rfl, ⟨dx, t, hx, as, h2, h3, _⟩, k⟩ := h
    refine ⟨_, (pss_one (ps_ret (pe_callB call_len_seq (by rfl) T.f_len PySem.boot_len (pa_cons (pe_fld (pv 0) rfl) pa_nil)))), ?_⟩
    refine ⟨_, rfl, _, _, _, _, _, rfl, hx, T.c_Web, T.n_Web_kept, wf_kept, _, _, rfl, .inr (SqT.of h2), ?_⟩
    rw [List.length_map, h3]
    exact k
def spAskers (K : PySem.W.Frag) : Sp := fun vs H Q _ => ∃ (A : HA) (t : Addr) (rs : List RoomD) (d : HouseD) (b : Bool) (c : Cell), vs = [.ref A.x, .ref t] ∧ HC K H A rs d b ∧ OkWeb rs ∧ H t = some (.tup (cV c)) ∧ ∀ H' p bs, Same H H' → H p = none → H' p = some (.lst (bs.map V.ref)) → TupsAt H' ((askF rs d c).map cV) bs → Q (.ref p) H'
theorem ok_H_askers (T : Tx K mg) : ML P w K mg base CX0 4 (cHouse K) "askers" ["self", "cell"] (spAskers K) := by
  have GL := ok_Web_len (P := P) (w := w) (base := base) T
  have GH := ok_heard_cells (P := P) (w := w) (base := base) T
  have nd := sc_House_askers.nd
  refine ML.of0 T.d_House_askers T.c_House T.t_House_askers sc_House_askers b_House_askers (fun vs H Q E h => ?_) (fun f cdv A' outer s H vs Q E hr h => ?_)
  · obtain ⟨A, t, rs, d, b, c, rfl, _⟩ := h; rfl
  · obtain ⟨A, t, rs, d, b, c, rfl, hH, hok, ht, k⟩ := h
    refine ⟨_, (pss_cons (ps_setLc (i := 2) (own := [("room", 3)]) (g := gName 3) (tt := tYes) rfl nd rfl rfl (sw_true rfl rfl rfl (by decide +kernel)) (pi_range1 rfl T.f_range (pa_cons (pe_callB (call_lenOwn GL (hr.mono (by decide))) (by rfl) T.f_len PySem.boot_len (pa_cons (pe_fld (pv 0) rfl) pa_nil)) pa_nil)) (blkOk_by (N := N_House_askers) (sc := defScope s_House_askers) (by decide +kernel))
          (fun _ _ _ _ _ => pg_name (i := 3) nd rfl (Or.inl rfl)) (fun _ _ _ _ _ => pts_nil) (fun _ _ _ _ _ => pe_tup (pa_cons (pv 3) (pa_cons (pe_op op_add (pe_ix (ix_tupK K) (pv 1) pe_int (fun _ _ => rfl)) pe_int) pa_nil))))
      (pss_one (ps_ret (pe_lc (own := [("one", 4)]) (g := gName 4) rfl nd (pi_list (pv 2)) (blkOk_by (N := N_House_askers) (sc := defScope s_House_askers) (by decide +kernel))
          (fun _ _ _ _ _ => pg_name (i := 4) nd rfl (Or.inl rfl)) (fun _ _ _ _ _ => pts_one (PW.pt (pw_and (pt_cmp (pc_din (hu_of hr) (pv 4) (pe_fldK K (pv 0)))) (pw_and1 (pt_cmpR (op_inDK K (hu65 hr)) (pv 1) (pe_cl GH hr (by decide) pass0 (pa_cons (pe_fldK K (pv 0)) (pa_cons (pv 4) pa_nil))) (by rfl)))))) (fun _ _ _ _ _ => pv 4))))), ?_⟩
    have rsl : rs.length ≤ 12 := hok.2.1
    obtain ⟨dxw, tw, hw1, asw, hw2, hw3, hw4⟩ := id hH.wb
    refine ⟨_, rfl, _, _, _, _, _, rfl, hH.ob, T.c_House, T.n_House_of_web, hf_web, A.wb, dxw, _, rfl, hw1, A.wb, rs, rfl, hH.wb, rs.length, rfl, (by rw [sizeL]; omega), _, rfl, by omega, by omega, fun D hD => ?_⟩
    refine lc_tups (walk_range (lo := 0) (n := rs.length)) (fun i => some [V.int (0 + (i : Int)), V.int (c.2 + 1)]) (by omega) hD (fun _ _ => trivial) (fun i y H1 H2 acc Nx hi s1 hacc hlen hy k1 k0 => ?_) (fun H2 bs s2 h2 ht2 => ?_)
    · obtain ⟨rfl, rfl⟩ := hy
      refine ⟨rfl, yes_ (iteT ⟨_, rfl, _, rfl, t, _, _, .int c.2, rfl, rfl, SqT.of (s1 _ _ ht), rfl, _, _, rfl, rfl, (by show 2 ≤ sizeLine; decide), fun b2 hb2 => ?_⟩)⟩
      have s3 := same_new (Same.refl H2) (o := .tup [.int (0 + (i : Int)), .int (c.2 + 1)]) hb2
      exact ⟨acc, s3 _ _ hacc, hlen, k1 b2 _ _ rfl upd_same s3⟩
    obtain ⟨ab, hab⟩ : ∃ ab, ab = (List.range rs.length).map fun (r : Nat) => (((r : Int), c.2 + 1) : Cell) := ⟨_, rfl⟩
    have e2 : (List.range rs.length).filterMap (fun i : Nat => some [V.int (0 + (i : Int)), V.int (c.2 + 1)]) = ab.map cV := by
      rw [hab, List.map_map, List.filterMap_eq_map']
      refine List.map_congr_left fun i _ => ?_
      show [V.int (0 + (i : Int)), V.int (c.2 + 1)] = [V.int (i : Int), V.int (c.2 + 1)]
      rw [Int.zero_add]
    rw [e2] at ht2
    have abi : ∀ e ∈ ab, InR rs e.1 := fun e he => by
      rw [hab] at he
      obtain ⟨r, hr', rfl⟩ := List.mem_map.mp he
      have := List.mem_range.mp hr'
      exact ⟨by show 0 ≤ (r : Int); omega, by show (r : Int) ≤ _; omega⟩
    have abl : ab.length ≤ 12 := by rw [hab, List.length_map, List.length_range]; exact rsl
    have blen : bs.length = ab.length := by
      have := Paired.length ht2
      rw [List.length_map] at this
      exact this.symm
    have hH2 := hH.same s2
    refine ⟨_, rfl, D, rfl, ⟨_, SqL.of h2⟩, fun D3 hD3 => ?_⟩
    refine lc_tups (walk_list (xs := bs.map V.ref)) (fun i => (ab[i]?).bind fun e => if (decide (e ∈ d.asked) && decide (c ∈ heardC rs e)) = true then some (cV e) else none) (by rw [List.length_map]; omega) hD3 (fun H' s' => SqL.of (s' _ _ h2)) (fun i y H5 H6 acc Nx hi s5 hacc hlen2 hy k1 k0 => ?_) (fun H5 rb s5 h5 ht5 => ?_)
    · obtain ⟨rfl, hx⟩ := hy
      obtain ⟨b5, hb5, rfl⟩ : ∃ b5, bs[i]? = some b5 ∧ y = .ref b5 := by
        rw [List.getElem?_map] at hx
        cases e : bs[i]? with
        | none => rw [e] at hx; cases hx
        | some b5 => rw [e] at hx; exact ⟨b5, rfl, (Option.some.inj hx).symm⟩
      obtain ⟨tp, htp, htb⟩ := L2.DX.pget ht2 hb5
      rw [List.getElem?_map] at htp
      obtain ⟨ce, hce, ec⟩ := Option.map_eq_some_iff.mp htp
      subst ec
      rw [hce] at k1 k0
      have hH5 := hH2.same s5
      have htb5 := s5 _ _ htb
      have hcei := abi ce (List.mem_of_getElem? hce)
      refine ⟨rfl, _, rfl, _, rfl, _, _, _, _, _, rfl, hH5.ob, T.c_House, T.n_House_asked, hf_asked, A.a, _, rfl, DGet.t (k := cK ce) hH5.ak htb5, _, rfl, ?_⟩
      rw [valV_N, some_in none]
      by_cases q1 : ce ∈ d.asked
      · rw [decide_eq_true q1]
        refine iteT ⟨_, rfl, _, rfl, _, _, _, _, _, rfl, hH5.ob, T.c_House, T.n_House_of_web, hf_web, _, rfl, A.wb, b5, rs, ce, rfl, hH5.wb, hok, htb5, hcei, fun H7 p7 hs7 s7 np7 hp7 ht7 => ?_⟩
        have ht7 : TupsAt H7 ((heardC rs ce).map cV) hs7 := by
          unfold heardC
          rw [List.map_map]
          exact ht7
        refine ⟨cD c, _, .tup (SqT.of (s7 _ _ (s5 _ _ (s2 _ _ ht)))) (.cons (.int _) (.cons (.int _) .nil)), .lst (SqL.of hp7) (dpAll_cells ht7), shaped_cell c, shaped_cells _, _, rfl, ?_⟩
        rw [any_cell]
        by_cases q2 : c ∈ heardC rs ce
        · rw [decide_eq_true q2]
          exact iteT ⟨_, rfl, acc, s7 _ _ hacc, hlen2, k1 b5 _ _ (by simp [q1, q2]) (s7 _ _ htb5) s7⟩
        · rw [decide_eq_false q2]
          exact iteF (k0 _ (by simp [q2]) s7)
      · rw [decide_eq_false q1]
        exact iteF (iteF (k0 _ (by simp [q1]) (Same.refl _)))
    have eR : List.filterMap (fun i => (ab[i]?).bind fun e => if (decide (e ∈ d.asked) && decide (c ∈ heardC rs e)) = true then some (cV e) else none) (List.range (bs.map V.ref).length) = (askF rs d c).map cV := by
      rw [List.length_map, blen, filterMap_range, filterMap_if]
      unfold askF
      rw [← hab]
    rw [eR] at ht5
    exact k _ D3 rb (s2.trans s5) (none_same s2 hD3) h5 ht5
end
end S
set_option Elab.async false
set_option linter.all false
set_option maxRecDepth 100000
set_option maxHeartbeats 4000000
/-! # way_down -/
namespace S
open PySem PySem.Spec PyProof.Rows L2 G LamX NdefX SrtO
theorem atI_neg1 {α : Type} {xs : List α} {v : α} (h : xs[xs.length - 1]? = some v) : atI xs (-1) = some v := by
  have hl : 0 < xs.length := by
    cases xs with
    | nil => simp at h
    | cons _ _ => simp
  unfold atI
  have e : ixN xs.length (-1) = some (xs.length - 1) := by
    unfold ixN
    rw [if_neg (by decide), if_pos (by omega)]
    congr 1
    omega
  rw [e]
  exact h
/-- a layer above another one: each of its cells leads to one of that -/
def LayerAt (H : Hp) (l : Addr) (ks below : List Cell) : Prop := ∃ kvs : List (List L2.Key × V), H l = some (.dT kvs) ∧ kvs.map (·.1) = ks.map cK ∧ ∀ e ∈ ks, ∃ (b : Addr) (e' : Cell), valV kvs (cK e) = some (.ref b) ∧ H b = some (.tup (cV e')) ∧ e' ∈ below
theorem LayerAt.same {H H' : Hp} {l : Addr} {ks below : List Cell} (h : LayerAt H l ks below) (s : Same H H') : LayerAt H' l ks below :=
  let ⟨kvs, h1, h2, h3⟩ := h
  ⟨kvs, s _ _ h1, h2, fun e he => let ⟨b, e', a1, a2, a3⟩ := h3 e he; ⟨b, e', a1, s _ _ a2, a3⟩⟩
section
variable {P : Program} {w : World} {K : PySem.W.Frag} {mg : Str → Option Value} {base : Heap}
def spDown : Sp := fun vs H Q _ => ∃ (L f : Addr) (ls : List Addr) (Ks : List (List Cell)) (c0 : Cell), vs = [.ref L, .ref f] ∧ H L = some (.lst (ls.map V.ref)) ∧ ls.length = Ks.length ∧ 1 ≤ ls.length ∧ ls.length ≤ 1000 ∧
  (∀ i : Nat, i + 1 < ls.length → ∃ l, ls[i + 1]? = some l ∧ LayerAt H l (Ks.getD (i + 1) []) (Ks.getD i [])) ∧ H f = some (.tup (cV c0)) ∧ c0 ∈ Ks.getD (ls.length - 1) [] ∧
  ∀ H' p bs (cs : List Cell), Same H H' → H p = none → H' p = some (.lst (bs.map V.ref)) → TupsAt H' (cs.map cV) bs → cs.head? = some c0 → (∃ z, cs.getLast? = some z ∧ z ∈ Ks.getD 0 []) → Q (.ref p) H'
theorem ok_way_down (T : Tx K mg) : CL P w K mg base CX0 1 "way_down" ["layers", "first"] spDown := by
  have nd := sc_way_down.nd
  refine CL.of0 T.d_way_down T.g_way_down sc_way_down b_way_down (fun vs H Q E h => ?_) (fun f cdv A' outer s H vs Q E hr h => ?_)
  · obtain ⟨L, f, ls, Ks, c0, rfl, _⟩ := h; rfl
  · obtain ⟨L, f, ls, Ks, c0, rfl, hL, hlk, hl1, hl2, hly, hf, hc0, k⟩ := h
    refine ⟨_, (pss_cons (ps_set (i := 2) nd rfl (Or.inl rfl) (pe_lst (pa_cons (pv 1) pa_nil)))
      (pss_cons (ps_for PassesOwn.never rfl (pi_list (L2.RV.pe_rev0 (pv 0))) (pg_name (i := 3) nd rfl (Or.inl rfl)) (pss_one (ps_expr (pe_bm PySem.F.plainAttrs_list PySem.F.slot_list_append PySem.F.type_list_append mt_append (pv 2) (pa_cons (pe_dget (hu_of hr) (pv 3) (pe_ix ix_list (pv 2) (pe_un un_neg pe_int) (fun _ _ => rfl)) (fun _ _ => rfl)) pa_nil)))))
      (pss_one (ps_ret (pv 2))))), ?_⟩
    refine ⟨_, rfl, (by show 1 ≤ sizeLine; decide), fun p hp => ?_⟩
    have s1 : Same H (upd H p (.lst [.ref f])) := same_new (Same.refl _) hp
    have hp1 : (upd H p (.lst [.ref f])) p = some (.lst ([f].map V.ref)) := upd_same
    have Lp : L ≠ p := ne_of_none hL hp
    generalize upd H p (.lst [.ref f]) = H1 at s1 hp1 ⊢
    refine ⟨_, rfl, L, _, rfl, SqL.of (s1 _ _ hL), (fun z => by rw [List.map_eq_nil_iff] at z; rw [z] at hl1; simp at hl1), fun r hr' => ?_⟩
    have s2 : Same H (upd H1 r (.lst ((ls.map V.ref).drop 1).reverse)) := same_new s1 (none_same s1 hr')
    have hr2 : (upd H1 r (.lst ((ls.map V.ref).drop 1).reverse)) r = some (.lst ((ls.map V.ref).drop 1).reverse) := upd_same
    have rp : r ≠ p := (ne_of_none hp1 hr').symm
    have hp2 : (upd H1 r (.lst ((ls.map V.ref).drop 1).reverse)) p = some (.lst ([f].map V.ref)) := by rw [upd_ne rp.symm]; exact hp1
    have r0 : H r = none := none_same s1 hr'
    generalize upd H1 r (.lst ((ls.map V.ref).drop 1).reverse) = H2 at s2 hr2 hp2 ⊢
    clear s1 hp1
    have rl : ((ls.map V.ref).drop 1).reverse.length = ls.length - 1 := by rw [List.length_reverse, List.length_drop, List.length_map]
    refine ⟨r, rfl, ⟨_, SqL.of hr2⟩, ?_⟩
    refine for_list (xs := ((ls.map V.ref).drop 1).reverse) (fun i σ H' => Same H H' ∧ H' r = some (.lst ((ls.map V.ref).drop 1).reverse) ∧ ∃ (bs : List Addr) (cs : List Cell) (u : Option V), H' p = some (.lst (bs.map V.ref)) ∧ TupsAt H' (cs.map cV) bs ∧ bs.length = i + 1 ∧ cs.head? = some c0 ∧ (∃ z, cs.getLast? = some z ∧ z ∈ Ks.getD (ls.length - 1 - i) []) ∧
        σ = [some (.ref L), some (.ref f), some (.ref p), u])
      ⟨s2, hr2, [f], [c0], _, hp2, .cons (s2 _ _ hf) .nil, rfl, rfl, ⟨c0, rfl, hc0⟩, rfl⟩ (fun i σ H' _ h => SqL.of h.2.1) (fun i y σ H3 hy h => ?_) (fun σ H3 h => ?_)
    · obtain ⟨s3, hr3, bs, cs, u, hp3, ht3, bl, hhd, ⟨z, hz, hzk⟩, rfl⟩ := h
      have hi : i < ls.length - 1 := by
        have := (List.getElem?_eq_some_iff.mp hy).1
        omega
      obtain ⟨l, hl, hla⟩ := hly (ls.length - 1 - i - 1) (by omega)
      have ei : ls.length - 1 - i - 1 + 1 = ls.length - 1 - i := by omega
      rw [ei] at hl hla
      have hyl : y = .ref l := by
        have h1 : (((ls.map V.ref).drop 1).reverse)[i]? = some (.ref l) := by
          rw [List.getElem?_reverse (by rw [List.length_drop, List.length_map]; omega), List.length_drop, List.length_map, List.getElem?_drop, List.getElem?_map]
          rw [show 1 + (ls.length - 1 - 1 - i) = ls.length - 1 - i by omega, hl]
          rfl
        exact Option.some.inj (hy.symm.trans h1)
      subst hyl
      obtain ⟨kvs, k1, k2, k3⟩ := hla.same s3
      obtain ⟨b', e', v1, v2, v3⟩ := k3 z hzk
      -- the last of found
      have cl : cs.length = bs.length := by
        have := Paired.length ht3
        rw [List.length_map] at this
        exact this
      have hzi : cs[bs.length - 1]? = some z := by
        rw [List.getLast?_eq_getElem?, cl] at hz
        exact hz
      obtain ⟨bz, hbz⟩ : ∃ bz, bs[bs.length - 1]? = some bz := ⟨_, List.getElem?_eq_getElem (by omega)⟩
      obtain ⟨tp, htp, htb⟩ := L2.DX.pget ht3 hbz
      rw [List.getElem?_map, hzi] at htp
      cases htp
      refine ⟨_, rfl, .inl ⟨rfl, _, SqL.of hp3⟩, _, rfl, _, rfl, _, rfl, p, _, _, .ref bz, rfl, rfl, SqL.of hp3, ?_, l, .ref b', rfl, ?_, ?_⟩
      · exact atI_neg1 (by rw [List.length_map, List.getElem?_map, hbz]; rfl)
      · have := DGet.t (k := cK z) k1 htb
        rw [v1] at this
        exact this
      · refine ⟨p, _, _, rfl, rfl, hp3, (by rw [List.length_map, sizeL]; omega), ?_⟩
        have pn : ∀ b o, H b = some o → b ≠ p := fun b o e => ne_of_none e hp
        refine ⟨fun b o e => by rw [upd_ne (pn b o e)]; exact s3 _ _ e, by rw [upd_ne rp]; exact hr3, bs ++ [b'], cs ++ [e'], _, by rw [upd_same, List.map_append]; rfl, ?_, by rw [List.length_append, bl]; rfl, ?_, ⟨e', by simp, ?_⟩, rfl⟩
        · rw [List.map_append]
          refine Paired.snoc (TupsAt.same ht3 fun b t e => by rw [upd_ne (ne_of e hp3 (fun z => nomatch z))]; exact e) ?_
          rw [upd_ne (ne_of v2 hp3 (fun z => nomatch z))]
          exact v2
        · cases cs with
          | nil => cases hhd
          | cons a r => exact hhd
        · rw [show ls.length - 1 - (i + 1) = ls.length - 1 - i - 1 by omega]
          exact v3
    · obtain ⟨s3, hr3, bs, cs, u, hp3, ht3, bl, hhd, hlz, rfl⟩ := h
      rw [rl, Nat.sub_self] at hlz
      exact ⟨_, rfl, k _ p bs cs s3 hp hp3 ht3 hhd hlz⟩
end
end S
set_option Elab.async false
set_option linter.all false
set_option maxRecDepth 100000
set_option maxHeartbeats 4000000
/-! # House.way_seen -/
namespace S
open PySem PySem.Spec PyProof.Rows L2 G LamX NdefX SrtO
section
variable {X : Cx}
theorem pi_listK (K : PySem.W.Frag) {tg l : Expr} {tl : TE} (hl : PE X l tl) (hK : X.K = K := by rfl) : PI X tg l (iList K tl) := by
  subst hK
  exact pi_list hl
end
section
variable {J J1 : It} {n m : Nat} {Gd Gd1 : Hp → Prop} {Y Y1 : Nat → Hp → V → Hp → Prop}
/-- the second clause of a dict comprehension, walked -/
theorem dcT2_in (w : Walk J1 m Gd1 Y1) {g1 : TG} {tt1 : TT} {tk tv : TE} {vs1 : List Nat} {σ2 : L2.St} {H4 : Hp} {D : Addr} {Nx : Hp → Prop} (Pv : Nat → Hp → Prop) (h0 : Pv 0 H4) (hG : ∀ i H, i ≤ m → Pv i H → Gd1 H)
    (hs : ∀ j x H H', j < m → Pv j H → Y1 j H x H' → g1 x (wipe σ2 vs1) H' fun σ3 H5 => wipe σ3 vs1 = wipe σ2 vs1 ∧ tt1 σ3 H5 fun b H6 =>
      if b = true then tk σ3 H6 fun y H7 => tv σ3 H7 fun z H8 => ∃ kvs k b, y = .ref b ∧ H8 b = some (.tup (k.map kV)) ∧ H8 D = some (.dT kvs) ∧ kvs.length < sizeLine ∧ Pv (j + 1) (upd H8 D (.dT (putK kvs k z))) else Pv (j + 1) H6) (hd : ∀ H, Pv m H → Nx H) :
    ∃ W1 : Nat → Nat → Hp → Prop, (∃ k, W1 0 k H4) ∧ ∀ j k H, W1 j k H →
      (J1.stop j H ∧ Nx H) ∨ (J1.go j H ∧ ∃ Nx1 : Hp → Prop, (∀ H', Nx1 H' → ∃ k', k' < k ∧ W1 (j + 1) k' H') ∧ ∀ x H', J1.yld j H x H' → g1 x (wipe σ2 vs1) H' fun σ3 H5 => wipe σ3 vs1 = wipe σ2 vs1 ∧ tt1 σ3 H5 fun b H6 =>
        if b = true then tk σ3 H6 fun y H7 => tv σ3 H7 fun z H8 => ∃ kvs k b, y = .ref b ∧ H8 b = some (.tup (k.map kV)) ∧ H8 D = some (.dT kvs) ∧ kvs.length < sizeLine ∧ Nx1 (upd H8 D (.dT (putK kvs k z))) else Nx1 H6) := by
  refine ⟨fun i k H => k = m - i ∧ i ≤ m ∧ Pv i H, ⟨m, by simp, Nat.zero_le _, h0⟩, ?_⟩
  rintro i k H ⟨rfl, hi, p⟩
  have q := hG i H hi p
  by_cases hlt : i < m
  · refine .inr ⟨w.goes i H hlt q, Pv (i + 1), fun H' p' => ⟨m - (i + 1), by omega, rfl, hlt, p'⟩, fun x H' y => hs i x H H' hlt p (w.yields i H x H' hlt q y)⟩
  · have e : i = m := by omega
    subst e
    exact .inl ⟨w.stops H q, hd H p⟩
theorem dcT2_it (w : Walk J n Gd Y) {g g1 : TG} {tt tt1 : TT} {tk tv : TE} {wi1 : TI} {vs vs1 : List Nat} {σ : L2.St} {H1 : Hp} {D : Addr} {Qd : Hp → Prop} (Pv : Nat → Hp → Prop) (h0 : Pv 0 (upd H1 D (.dT []))) (hG : ∀ i H, i ≤ n → Pv i H → Gd H)
    (hs : ∀ i x H H', i < n → Pv i H → Y i H x H' → g x (wipe σ vs) H' fun σ2 H2 => wipe σ2 vs = wipe σ vs ∧ tt σ2 H2 fun b H3 =>
      if b = true then wi1 σ2 H3 fun J1 H4 => ∃ W1 : Nat → Nat → Hp → Prop, (∃ k, W1 0 k H4) ∧ ∀ j k H, W1 j k H →
        (J1.stop j H ∧ Pv (i + 1) H) ∨ (J1.go j H ∧ ∃ Nx1 : Hp → Prop, (∀ H', Nx1 H' → ∃ k', k' < k ∧ W1 (j + 1) k' H') ∧ ∀ x H', J1.yld j H x H' → g1 x (wipe σ2 vs1) H' fun σ3 H5 => wipe σ3 vs1 = wipe σ2 vs1 ∧ tt1 σ3 H5 fun b H6 =>
          if b = true then tk σ3 H6 fun y H7 => tv σ3 H7 fun z H8 => ∃ kvs k b, y = .ref b ∧ H8 b = some (.tup (k.map kV)) ∧ H8 D = some (.dT kvs) ∧ kvs.length < sizeLine ∧ Nx1 (upd H8 D (.dT (putK kvs k z))) else Nx1 H6)
      else Pv (i + 1) H3) (hd : ∀ H, Pv n H → Qd H) :
    ∃ W : Nat → Nat → Hp → Prop, (∃ k, W 0 k (upd H1 D (.dT []))) ∧ ∀ i k H, W i k H →
      (J.stop i H ∧ Qd H) ∨ (J.go i H ∧ ∃ Nx : Hp → Prop, (∀ H', Nx H' → ∃ m', m' < k ∧ W (i + 1) m' H') ∧ ∀ x H', J.yld i H x H' → g x (wipe σ vs) H' fun σ2 H2 => wipe σ2 vs = wipe σ vs ∧ tt σ2 H2 fun b H3 =>
        if b = true then wi1 σ2 H3 fun J1 H4 => ∃ W1 : Nat → Nat → Hp → Prop, (∃ m, W1 0 m H4) ∧ ∀ j k H, W1 j k H →
          (J1.stop j H ∧ Nx H) ∨ (J1.go j H ∧ ∃ Nx1 : Hp → Prop, (∀ H', Nx1 H' → ∃ k', k' < k ∧ W1 (j + 1) k' H') ∧ ∀ x H', J1.yld j H x H' → g1 x (wipe σ2 vs1) H' fun σ3 H5 => wipe σ3 vs1 = wipe σ2 vs1 ∧ tt1 σ3 H5 fun b H6 =>
            if b = true then tk σ3 H6 fun y H7 => tv σ3 H7 fun z H8 => ∃ kvs k b, y = .ref b ∧ H8 b = some (.tup (k.map kV)) ∧ H8 D = some (.dT kvs) ∧ kvs.length < sizeLine ∧ Nx1 (upd H8 D (.dT (putK kvs k z))) else Nx1 H6)
        else Nx H3) := by
  refine ⟨fun i k H => k = n - i ∧ i ≤ n ∧ Pv i H, ⟨n, by simp, Nat.zero_le _, h0⟩, ?_⟩
  rintro i k H ⟨rfl, hi, p⟩
  have q := hG i H hi p
  by_cases hlt : i < n
  · refine .inr ⟨w.goes i H hlt q, Pv (i + 1), fun H' p' => ⟨n - (i + 1), by omega, rfl, hlt, p'⟩, fun x H' y => hs i x H H' hlt p (w.yields i H x H' hlt q y)⟩
  · have e : i = n := by omega
    subst e
    exact .inl ⟨w.stops H q, hd H p⟩
end
theorem keys_put {nk : List (List L2.Key × V)} {l : List Cell} {g : Cell} {v : V} (h : nk.map (·.1) = l.map cK) : (putK nk (cK g) v).map (·.1) = (addC l g).map cK := by
  have hany : (nk.any fun kv => decide (kv.1 = cK g)) = decide (g ∈ l) := by
    have e1 : (nk.any fun kv => decide (kv.1 = cK g)) = (nk.map (·.1)).any fun k => decide (k = cK g) := by rw [List.any_map]; rfl
    rw [e1, h, List.any_map]
    by_cases q : g ∈ l
    · rw [decide_eq_true q, List.any_eq_true]
      exact ⟨g, q, by simp⟩
    · rw [decide_eq_false q, List.any_eq_false]
      intro x hx
      have : ¬ cK x = cK g := fun z => q (by rw [← cK_inj z]; exact hx)
      simpa using this
  unfold putK addC
  rw [hany]
  by_cases q : g ∈ l
  · rw [decide_eq_true q, if_pos rfl, if_pos q, List.map_map, ← h]
    refine List.map_congr_left fun kv _ => ?_
    show (if kv.1 = cK g then (kv.1, v) else kv).1 = kv.1
    split <;> rfl
  · rw [decide_eq_false q, if_neg (by decide), if_neg q, List.map_append, List.map_append, h]
    rfl
theorem LayerAt.upL {H : Hp} {l L : Addr} {ks below : List Cell} {xs : List V} {o : HO} (h : LayerAt H l ks below) (hL : H L = some (.lst xs)) : LayerAt (upd H L o) l ks below := by
  obtain ⟨kvs, h1, h2, h3⟩ := h
  refine ⟨kvs, by rw [upd_ne (ne_of h1 hL (fun z => nomatch z))]; exact h1, h2, fun e he => ?_⟩
  obtain ⟨b, e', a1, a2, a3⟩ := h3 e he
  exact ⟨b, e', a1, by rw [upd_ne (ne_of a2 hL (fun z => nomatch z))]; exact a2, a3⟩
/-- the cells above: layer by layer, who hears whom -/
def layS (rs : List RoomD) (d : HouseD) (c : Cell) : Nat → List Cell
  | 0 => [c]
  | i + 1 => (layS rs d c i).foldl (fun acc b => (askF rs d b).foldl addC acc) []
section
variable {P : Program} {w : World} {K : PySem.W.Frag} {mg : Str → Option Value} {base : Heap}
def spWaySeen (K : PySem.W.Frag) : Sp := fun vs H Q _ => ∃ (A : HA) (t : Addr) (rs : List RoomD) (d : HouseD) (b : Bool) (c : Cell) (n : Nat), vs = [.ref A.x, .ref t] ∧ HC K H A rs d b ∧ OkWeb rs ∧ H t = some (.tup (cV c)) ∧ d.kept = [] ∧ n ≤ 500 ∧ (∀ i, i ≤ n → (layS rs d c i).length ≤ 100000 ∧ layS rs d c i ≠ []) ∧ (∀ i, i < n → ∀ e ∈ layS rs d c i, e ∉ d.looked) ∧ (∃ e ∈ layS rs d c n, e ∈ d.looked) ∧
  ∀ H' p bs (cs : List Cell), Same H H' → H p = none → H' p = some (.lst (bs.map V.ref)) → TupsAt H' (cs.map cV) bs → (∃ a, cs.head? = some a ∧ a ∈ d.looked) → cs.getLast? = some c → Q (.ref p) H'
theorem ok_H_way_seen (T : Tx K mg) : ML P w K mg base CX0 5 (cHouse K) "way_seen" ["self", "cell"] (spWaySeen K) := by
  have GA := ok_H_askers (P := P) (w := w) (base := base) T
  have GD := ok_way_down (P := P) (w := w) (base := base) T
  have nd := sc_House_way_seen.nd
  refine ML.of0 T.d_House_way_seen T.c_House T.t_House_way_seen sc_House_way_seen b_House_way_seen (fun vs H Q E h => ?_) (fun f cdv A' outer s H vs Q E hr h => ?_)
  · obtain ⟨A, t, rs, d, b, c, n, rfl, _⟩ := h; rfl
  · obtain ⟨A, t, rs, d, b, c, n, rfl, hH, hok, ht, hkp, hn, hlay, hno, hyes, k⟩ := h
    refine ⟨_, (pss_cons (ps_set (i := 2) nd rfl (Or.inl rfl) (pe_lst (pa_cons (pe_dispT (hu_of hr) (pv 1) pe_non) pa_nil)))
      (pss_cons (ps_while PassesOwn.never (pt_cmpR (DT2.op_neT (Nat.lt_of_succ_lt (hu_of hr))) (pe_ix ix_list (pv 2) (pe_un un_neg pe_int) (fun _ _ => rfl)) pe_dnewT (nomark _)) (pss_cons (ps_lock (ps_setLc (i := 3) (own := [("one", 4)]) (g := gName 4) rfl nd rfl rfl (sw_true rfl rfl rfl (by decide +kernel)) (pi_keys (pe_ix ix_list (pv 2) (pe_un un_neg pe_int) (fun _ _ => rfl))) (blkOk_by (N := N_House_way_seen) (sc := defScope s_House_way_seen) (by decide +kernel))
            (fun _ _ _ _ _ => pg_name (i := 4) nd rfl (Or.inl rfl)) (fun _ _ _ _ _ => pts_one (PW.pt (pw_or (pt_cmp (pc_din (hu_of hr) (pv 4) (pe_fldK K (pv 0)))) (pw_or1 (pt_cmp (pc_din (hu_of hr) (pv 4) (pe_fldK K (pv 0)))))))) (fun _ _ _ _ _ => pv 4)))
      (pss_cons (ps_if (pt_cmpR (op_neD hr.units) (pv 3) (pe_lst pa_nil) (nomark _)) (pss_one (ps_ret (pe_cl GD hr (by decide) pass0 (pa_cons (pv 2) (pa_cons (pe_ix ix_list (pv 3) pe_int (fun _ _ => rfl)) pa_nil))))) pss_nil)
      (pss_one (ps_expr (pe_bm PySem.F.plainAttrs_list PySem.F.slot_list_append PySem.F.type_list_append mt_append (pv 2) (pa_cons (pe_lock (DT2.pe_dcT2 (own := [("below", 5), ("one", 4)]) (vs1 := [4]) (g := gName 5) (g1 := gName 4) (tt := tYes) (tt1 := tYes) (hu2_of hr) rfl nd (pi_keys (pe_ix ix_list (pv 2) (pe_un un_neg pe_int) (fun _ _ => rfl))) (blkOk_by (N := N_House_way_seen) (sc := defScope s_House_way_seen) (by decide +kernel)) (by decide)
              (fun _ _ _ _ _ => pg_name (i := 5) nd rfl (Or.inl rfl)) (fun _ _ _ _ _ => pts_nil) (fun _ _ _ _ _ => pi_listK K (pe_ml GA hr (by decide) pass0 (pv 0) (pa_cons (pv 5) pa_nil))) (fun _ _ _ _ _ => pg_name (i := 4) nd rfl (Or.inl rfl)) (fun _ _ _ _ _ => pts_nil) (fun _ _ _ _ _ => pv 4) (fun _ _ _ _ _ => pv 5))) pa_nil))))))) pss_never)), ?_⟩
    intro p0 hp0
    refine ⟨_, rfl, t, cK c, rfl, (by rw [upd_ne (ne_of_none ht hp0)]; exact ht), upd_same, ?_⟩
    rw [upd2]
    refine ⟨(by show 1 ≤ sizeLine; decide), fun L hL => ?_⟩
    have p0n : H p0 = none := hp0
    have s1 : Same H (upd H p0 (.dT [(cK c, .non)])) := same_new (Same.refl _) hp0
    have L0 : H L = none := none_same s1 hL
    have s2 : Same H (upd (upd H p0 (.dT [(cK c, .non)])) L (.lst [.ref p0])) := same_new s1 L0
    have pL : p0 ≠ L := fun z => by rw [← z, upd_same] at hL; cases hL
    have hL2 : (upd (upd H p0 (.dT [(cK c, .non)])) L (.lst [.ref p0])) L = some (.lst ([p0].map V.ref)) := upd_same
    have hp2 : (upd (upd H p0 (.dT [(cK c, .non)])) L (.lst [.ref p0])) p0 = some (.dT [(cK c, .non)]) := by rw [upd_ne pL, upd_same]
    generalize upd (upd H p0 (.dT [(cK c, .non)])) L (.lst [.ref p0]) = Hs at s2 hL2 hp2 ⊢
    refine ⟨fun q σ Hc => ∃ (i : Nat) (ls : List Addr) (u3 : Option V) (l : Addr) (kvs : List (List L2.Key × V)), q + i = n + 1 ∧ i ≤ n ∧ Same H Hc ∧ Hc L = some (.lst (ls.map V.ref)) ∧ ls.length = i + 1 ∧ ls[i]? = some l ∧ H l = none ∧ Hc l = some (.dT kvs) ∧ kvs.map (·.1) = (layS rs d c i).map cK ∧
        (∀ j : Nat, j + 1 < ls.length → ∃ l, ls[j + 1]? = some l ∧ LayerAt Hc l (layS rs d c (j + 1)) (layS rs d c j)) ∧ σ = [some (.ref A.x), some (.ref t), some (.ref L), u3, none, none],
      ⟨n + 1, 0, [p0], none, p0, _, rfl, Nat.zero_le _, s2, hL2, rfl, rfl, hp0, hp2, rfl, fun j hj => absurd hj (by simp), rfl⟩, ?_⟩
    rintro q σ Hc ⟨i, ls, u3, l, kvs, hq, hi, sc, hLc, hll, hli, l0, hlc, hks, hly, rfl⟩
    obtain ⟨hlen, hne⟩ := hlay i hi
    have kl : kvs.length = (layS rs d c i).length := by
      have := congrArg List.length hks
      rw [List.length_map, List.length_map] at this
      exact this
    have kpos : 0 < kvs.length := by rw [kl]; exact List.length_pos_iff.mpr hne
    have hat : atI (ls.map V.ref) (-1) = some (.ref l) := atI_neg1 (by rw [List.length_map, hll, Nat.add_sub_cancel, List.getElem?_map, hli]; rfl)
    refine ⟨_, rfl, _, rfl, L, _, _, .ref l, rfl, rfl, SqL.of hLc, hat, fun z hz => ?_⟩
    have sz : Same Hc (upd Hc z (.dT [])) := same_new (Same.refl _) hz
    refine ⟨l, z, kvs, [], rfl, rfl, sz _ _ hlc, upd_same, (by show kvs.length ≠ 0; omega), _, rfl, iteT ?_⟩
    have sb := sc.trans sz
    have hLb := sz _ _ hLc
    have hlb := sz _ _ hlc
    have hlyb : ∀ j : Nat, j + 1 < ls.length → ∃ l, ls[j + 1]? = some l ∧ LayerAt (upd Hc z (.dT [])) l (layS rs d c (j + 1)) (layS rs d c j) := fun j hj => let ⟨l, a1, a2⟩ := hly j hj; ⟨l, a1, a2.same sz⟩
    generalize upd Hc z (.dT []) = Hb at sz sb hLb hlb hlyb ⊢
    clear hly hLc hlc
    refine ⟨fun σ' H' => ∃ (i' : Nat) (ls : List Addr) (u3 : Option V) (l : Addr) (kvs : List (List L2.Key × V)), i < i' ∧ i' ≤ n ∧ Same H H' ∧ H' L = some (.lst (ls.map V.ref)) ∧ ls.length = i' + 1 ∧ ls[i']? = some l ∧ H l = none ∧ H' l = some (.dT kvs) ∧ kvs.map (·.1) = (layS rs d c i').map cK ∧
        (∀ j : Nat, j + 1 < ls.length → ∃ l, ls[j + 1]? = some l ∧ LayerAt H' l (layS rs d c (j + 1)) (layS rs d c j)) ∧ σ' = [some (.ref A.x), some (.ref t), some (.ref L), u3, none, none],
      fun σ' H' ⟨i', ls', w3, l', kv', h1, h2, h3⟩ => ⟨n + 1 - i', by omega, i', ls', w3, l', kv', by omega, h2, h3⟩, ?_⟩
    -- first
    refine ⟨l, _, hlb, trivial, fun od => ?_⟩
    have Ll : L ≠ l := ne_of hLb hlb (fun z => nomatch z)
    have sf : Same H (upd Hb l (.frz od (.dT kvs))) := same_fld sb l0
    have hHf := hH.same sf
    refine ⟨_, rfl, _, rfl, L, _, _, .ref l, rfl, rfl, SqL.of (by rw [upd_ne Ll]; exact hLb), hat, l, od, rfl, .inr ⟨_, upd_same, fun D3 hD3 => ?_⟩⟩
    refine lc_tups walk_keysT (fun a => ((layS rs d c i)[a]?).bind fun e => if decide (e ∈ d.looked) = true then some (cV e) else none) (by omega) hD3 (fun H' s' => s' _ _ upd_same) (fun a y H5 H6 acc Nx ha s5 hacc hlen2 hy k1 k0 => ?_) (fun H5 rb s5 h5 ht5 => ?_)
    · obtain ⟨rfl, ky, vv, q2, hq2, rfl, hqt⟩ := hy
      obtain ⟨e, he, hke⟩ : ∃ e, (layS rs d c i)[a]? = some e ∧ ky = cK e := by
        have := congrArg (fun l => l[a]?) hks
        simp only [List.getElem?_map, hq2] at this
        cases h : (layS rs d c i)[a]? with
        | none => rw [h] at this; cases this
        | some e => rw [h] at this; exact ⟨e, rfl, Option.some.inj this⟩
      subst hke
      rw [he] at k1 k0
      have hH5 := hHf.same s5
      refine ⟨rfl, _, rfl, _, rfl, _, _, _, _, _, rfl, hH5.ob, T.c_House, T.n_House_looked, hf_looked, A.l, _, rfl, DGet.t (k := cK e) hH5.lk hqt, _, rfl, ?_⟩
      rw [valV_N, some_in none]
      by_cases q1 : e ∈ d.looked
      · rw [decide_eq_true q1]
        exact iteT (iteT ⟨_, rfl, acc, hacc, hlen2, k1 q2 (cV e) _ (by simp [q1]) hqt (Same.refl _)⟩)
      · rw [decide_eq_false q1]
        refine iteF ⟨_, rfl, _, rfl, _, _, _, _, _, rfl, hH5.ob, T.c_House, T.n_House_kept, hf_kept, A.k, _, rfl, DGet.t (k := cK e) hH5.kp hqt, _, rfl, ?_⟩
        rw [valV_N, some_in none, hkp]
        exact iteF (k0 _ (by simp [q1]) (Same.refl _))
    obtain ⟨F, hF⟩ : ∃ F, F = (layS rs d c i).filter fun e => decide (e ∈ d.looked) := ⟨_, rfl⟩
    have eF : List.filterMap (fun a => ((layS rs d c i)[a]?).bind fun e => if decide (e ∈ d.looked) = true then some (cV e) else none) (List.range kvs.length) = F.map cV := by
      rw [kl, filterMap_range, filterMap_if, hF]
    rw [eF] at ht5
    have hl5 := s5 _ _ upd_same
    refine ⟨hl5, ?_⟩
    have D3l : D3 ≠ l := fun z => by rw [z, upd_same] at hD3; cases hD3
    have s6 : Same Hb (upd H5 l (.dT kvs)) := fun b o e => by
      by_cases hb : b = l
      · subst hb
        rw [upd_same]
        rw [hlb] at e
        exact e
      · rw [upd_ne hb]
        exact s5 _ _ (by rw [upd_ne hb]; exact e)
    have h6 : (upd H5 l (.dT kvs)) D3 = some (.lst (rb.map V.ref)) := by rw [upd_ne D3l]; exact h5
    have ht6 : TupsAt (upd H5 l (.dT kvs)) (F.map cV) rb := TupsAt.same ht5 fun b t e => by rw [upd_ne (ne_of e hl5 (fun z => nomatch z))]; exact e
    have hn5 : ∀ b o, H b = some o → b ≠ l := fun b o e => ne_of_none e l0
    generalize upd H5 l (.dT kvs) = H6 at s6 h6 ht6 ⊢
    clear hl5 h5 ht5 s5
    have hL6 := s6 _ _ hLb
    have hl6 := s6 _ _ hlb
    refine ⟨_, rfl, Nat.zero_le _, fun z2 hz2 => ?_⟩
    have s7 : Same H6 (upd H6 z2 (.lst [])) := same_new (Same.refl _) hz2
    refine ⟨_, .list [], .lst (SqL.of (s7 _ _ h6)) (dpAll_cells (TupsAt.same ht6 fun b t e => s7 _ _ e)), .lst (SqL.of upd_same) .nil, shaped_cells _, shaped_cells [], _, rfl, ?_⟩
    rw [eqv_nil]
    have hL7 := s7 _ _ hL6
    have hl7 := s7 _ _ hl6
    have h7 := s7 _ _ h6
    have ht7 : TupsAt (upd H6 z2 (.lst [])) (F.map cV) rb := TupsAt.same ht6 fun b t e => s7 _ _ e
    have hly7 : ∀ j : Nat, j + 1 < ls.length → ∃ l, ls[j + 1]? = some l ∧ LayerAt (upd H6 z2 (.lst [])) l (layS rs d c (j + 1)) (layS rs d c j) := fun j hj => let ⟨l, a1, a2⟩ := hlyb j hj; ⟨l, a1, a2.same (s6.trans s7)⟩
    have s07 : Same H (upd H6 z2 (.lst [])) := sb.trans (s6.trans s7)
    generalize upd H6 z2 (.lst []) = H7 at hL7 hl7 h7 ht7 hly7 s07 ⊢
    clear s7 s6 hL6 hl6 h6 ht6 hlyb hHf sf
    by_cases hin : i = n
    · subst hin
      obtain ⟨ey, hey, heyl⟩ := hyes
      have hFm : ey ∈ F := by rw [hF]; exact List.mem_filter.mpr ⟨hey, decide_eq_true heyl⟩
      cases hFc : F with
      | nil => rw [hFc] at hFm; cases hFm
      | cons c0 Fr =>
        rw [hFc] at ht7
        have hc0 : c0 ∈ layS rs d c i ∧ c0 ∈ d.looked := by
          have : c0 ∈ F := by rw [hFc]; exact List.mem_cons_self ..
          rw [hF] at this
          obtain ⟨a1, a2⟩ := List.mem_filter.mp this
          exact ⟨a1, of_decide_eq_true a2⟩
        cases ht7 with
        | cons hb0 hr0 =>
          rename_i b0 rb'
          refine iteT ?_
          refine ⟨_, rfl, _, rfl, D3, _, _, .ref b0, rfl, rfl, SqL.of h7, atI_nat (j := 0) rfl, L, b0, ls, (List.range (i + 1)).map (layS rs d c), c0, rfl, hL7, (by rw [List.length_map, List.length_range]; exact hll), by omega, by omega, fun j hj => ?_, hb0, ?_, fun H8 p8 bs8 cs8 s8 np8 hp8 ht8 hhd hlst => ?_⟩
          · obtain ⟨l2, a1, a2⟩ := hly7 j hj
            refine ⟨l2, a1, ?_⟩
            have g1 : ((List.range (i + 1)).map (layS rs d c)).getD (j + 1) [] = layS rs d c (j + 1) := by
              rw [List.getD_eq_getElem?_getD, List.getElem?_map, List.getElem?_range (by omega)]
              rfl
            have g2 : ((List.range (i + 1)).map (layS rs d c)).getD j [] = layS rs d c j := by
              rw [List.getD_eq_getElem?_getD, List.getElem?_map, List.getElem?_range (by omega)]
              rfl
            rw [g1, g2]
            exact a2
          · rw [hll, Nat.add_sub_cancel, List.getD_eq_getElem?_getD, List.getElem?_map, List.getElem?_range (by omega)]
            exact hc0.1
          · obtain ⟨zz, hz1, hz2'⟩ := hlst
            have g0 : ((List.range (i + 1)).map (layS rs d c)).getD 0 [] = [c] := by
              rw [List.getD_eq_getElem?_getD, List.getElem?_map, List.getElem?_range (by omega)]
              rfl
            rw [g0, List.mem_singleton] at hz2'
            subst hz2'
            exact k _ p8 bs8 cs8 (s07.trans s8) (none_same s07 np8) hp8 ht8 ⟨c0, hhd, hc0.2⟩ hz1
    · have hFn : F = [] := by
        rw [hF]
        refine List.filter_eq_nil_iff.mpr fun e he => ?_
        rw [decide_eq_false (hno i (by omega) e he)]
        exact Bool.false_ne_true
      rw [hFn]
      refine iteF ?_
      have hi1 : i + 1 ≤ n := by omega
      obtain ⟨hlen1, _⟩ := hlay (i + 1) hi1
      -- the next layer
      refine ⟨_, rfl, .inl ⟨rfl, _, SqL.of hL7⟩, l, _, hl7, trivial, fun od2 => ?_⟩
      have sf2 : Same H (upd H7 l (.frz od2 (.dT kvs))) := same_fld s07 l0
      have hL8 : (upd H7 l (.frz od2 (.dT kvs))) L = some (.lst (ls.map V.ref)) := by rw [upd_ne Ll]; exact hL7
      refine ⟨_, rfl, _, rfl, L, _, _, .ref l, rfl, rfl, SqL.of hL8, hat, l, od2, rfl, .inr ⟨_, upd_same, fun Dn hDn => ?_⟩⟩
      have Dnl : Dn ≠ l := fun z => by rw [z, upd_same] at hDn; cases hDn
      have Dn7 : H7 Dn = none := none_upd hDn
      have Dn0 : H Dn = none := none_same s07 Dn7
      -- what stands in the new dict behind a cells
      let acF : Nat → List Cell := fun a => ((layS rs d c i).take a).foldl (fun acc b => (askF rs d b).foldl addC acc) []
      have rsl : rs.length ≤ 12 := hok.2.1
      have afl : ∀ e, (askF rs d e).length ≤ 12 := fun e => by
        unfold askF
        refine Nat.le_trans (List.length_filter_le ..) ?_
        rw [List.length_map, List.length_range]
        exact rsl
      refine dcT2_it walk_keysT (fun a Hx => Same (upd H7 l (.frz od2 (.dT kvs))) Hx ∧ ∃ nk : List (List L2.Key × V), Hx Dn = some (.dT nk) ∧ nk.length ≤ 12 * a ∧ nk.map (·.1) = (acF a).map cK ∧ ∀ e ∈ acF a, ∃ (b : Addr) (e' : Cell), valV nk (cK e) = some (.ref b) ∧ Hx b = some (.tup (cV e')) ∧ e' ∈ layS rs d c i)
        ⟨same_new (Same.refl _) hDn, [], upd_same, Nat.le_refl _, rfl, fun e he => by cases he⟩ (fun a H' _ h => h.1 _ _ upd_same) (fun a y H9 H10 ha h hy => ?_) (fun H9 h => ?_)
      · obtain ⟨rfl, ky, vv, q2, hq2, rfl, hqt⟩ := hy
        obtain ⟨s9, nk, hnk, nkl, nkk, nkv⟩ := h
        obtain ⟨e, he, hke⟩ : ∃ e, (layS rs d c i)[a]? = some e ∧ ky = cK e := by
          have := congrArg (fun l => l[a]?) hks
          simp only [List.getElem?_map, hq2] at this
          cases h : (layS rs d c i)[a]? with
          | none => rw [h] at this; cases this
          | some e => rw [h] at this; exact ⟨e, rfl, Option.some.inj this⟩
        subst hke
        have hqt : H10 q2 = some (.tup (cV e)) := hqt
        have hH9 := hH.same (sf2.trans s9)
        refine ⟨rfl, yes_ (iteT ?_)⟩
        refine ⟨_, rfl, _, _, _, rfl, hH9.ob, hf_m, _, rfl, A, q2, rs, d, b, e, rfl, hH9, hok, hqt, fun H11 p bs s11 np hp htp => ⟨p, rfl, ⟨_, SqL.of hp⟩, ?_⟩⟩
        have pDn : p ≠ Dn := (ne_of_none hnk np).symm
        have blen : bs.length = (askF rs d e).length := by
          have := Paired.length htp
          rw [List.length_map] at this
          exact this.symm
        have al := afl e
        refine dcT2_in (walk_list (xs := bs.map V.ref)) (fun j Hx => (∀ b o, b ≠ Dn → H11 b = some o → Hx b = some o) ∧ Same (upd H7 l (.frz od2 (.dT kvs))) Hx ∧ ∃ nk : List (List L2.Key × V), Hx Dn = some (.dT nk) ∧ nk.length ≤ 12 * a + j ∧ nk.map (·.1) = (((askF rs d e).take j).foldl addC (acF a)).map cK ∧ ∀ e1 ∈ ((askF rs d e).take j).foldl addC (acF a), ∃ (b : Addr) (e' : Cell), valV nk (cK e1) = some (.ref b) ∧ Hx b = some (.tup (cV e')) ∧ e' ∈ layS rs d c i)
          ⟨fun _ _ _ e => e, s9.trans s11, nk, s11 _ _ hnk, nkl, nkk, fun e1 h1 => let ⟨b, e', a1, a2, a3⟩ := nkv e1 h1; ⟨b, e', a1, s11 _ _ a2, a3⟩⟩ (fun j H' _ h => SqL.of (h.1 _ _ pDn hp)) (fun j y H12 H13 hj h hy => ?_) (fun H12 h => ?_)
        · obtain ⟨rfl, hx⟩ := hy
          obtain ⟨o12, s12, mk, hmk, mkl, mkk, mkv⟩ := h
          obtain ⟨b2, hb2, rfl⟩ : ∃ b2, bs[j]? = some b2 ∧ y = .ref b2 := by
            rw [List.getElem?_map] at hx
            cases e : bs[j]? with
            | none => rw [e] at hx; cases hx
            | some b2 => rw [e] at hx; exact ⟨b2, rfl, (Option.some.inj hx).symm⟩
          obtain ⟨tp, htp2, htb⟩ := L2.DX.pget htp hb2
          rw [List.getElem?_map] at htp2
          obtain ⟨g, hg, ec⟩ := Option.map_eq_some_iff.mp htp2
          subst ec
          have b2D : b2 ≠ Dn := ne_of htb (s11 _ _ hnk) (fun z => nomatch z)
          have q2D : q2 ≠ Dn := ne_of hqt hnk (fun z => nomatch z)
          have hq12 := o12 _ _ q2D (s11 _ _ hqt)
          have ha2 : a < kvs.length := ha
          refine ⟨rfl, yes_ (iteT ⟨_, rfl, _, rfl, mk, cK g, b2, rfl, o12 _ _ b2D htb, hmk, (by rw [sizeL]; rw [List.length_map] at hj; omega), ?_⟩)⟩
          have etk : ((askF rs d e).take (j + 1)).foldl addC (acF a) = addC (((askF rs d e).take j).foldl addC (acF a)) g := by
            rw [List.take_add_one, hg, List.foldl_append]
            rfl
          have lp := length_putK mk (cK g) (.ref q2)
          rw [etk]
          refine ⟨fun b o hb e => by rw [upd_ne hb]; exact o12 _ _ hb e, fun b o e => ?_, _, upd_same, by omega, keys_put mkk, fun e1 h1 => ?_⟩
          · have hbD : b ≠ Dn := ne_of_none e hDn
            rw [upd_ne hbD]
            exact s12 _ _ e
          · rw [valV_put]
            by_cases q : e1 = g
            · subst q
              rw [if_pos rfl]
              exact ⟨q2, e, rfl, by rw [upd_ne q2D]; exact hq12, List.mem_of_getElem? he⟩
            · rw [if_neg (fun z => q (cK_inj z))]
              have h1' : e1 ∈ ((askF rs d e).take j).foldl addC (acF a) := by
                unfold addC at h1
                split at h1
                · exact h1
                · rcases List.mem_append.mp h1 with h1 | h1
                  · exact h1
                  · exact absurd (List.mem_singleton.mp h1) q
              obtain ⟨b, e', a1, a2, a3⟩ := mkv e1 h1'
              exact ⟨b, e', a1, by rw [upd_ne (ne_of a2 hmk (fun z => nomatch z))]; exact a2, a3⟩
        · obtain ⟨o12, s12, mk, hmk, mkl, mkk, mkv⟩ := h
          rw [List.length_map, blen, List.take_length] at mkk mkv
          rw [List.length_map] at mkl
          have eac : acF (a + 1) = (askF rs d e).foldl addC (acF a) := by
            show ((layS rs d c i).take (a + 1)).foldl _ [] = _
            rw [List.take_add_one, he, List.foldl_append]
            rfl
          refine ⟨s12, mk, hmk, by omega, ?_, ?_⟩
          · rw [eac]
            exact mkk
          · rw [eac]
            exact mkv
      · obtain ⟨s9, nk, hnk, nkl, nkk, nkv⟩ := h
        have eac : acF kvs.length = layS rs d c (i + 1) := by
          show ((layS rs d c i).take kvs.length).foldl _ [] = _
          rw [kl, List.take_length]
          rfl
        rw [eac] at nkk nkv
        have hl9 := s9 _ _ upd_same
        refine ⟨hl9, ?_⟩
        have s10 : Same H7 (upd H9 l (.dT kvs)) := fun b o e => by
          by_cases hb : b = l
          · subst hb
            rw [upd_same]
            rw [hl7] at e
            exact e
          · rw [upd_ne hb]
            exact s9 _ _ (by rw [upd_ne hb]; exact e)
        have hL10 := s10 _ _ hL7
        have hnk10 : (upd H9 l (.dT kvs)) Dn = some (.dT nk) := by rw [upd_ne Dnl]; exact hnk
        have nkv10 : ∀ e ∈ layS rs d c (i + 1), ∃ (b : Addr) (e' : Cell), valV nk (cK e) = some (.ref b) ∧ (upd H9 l (.dT kvs)) b = some (.tup (cV e')) ∧ e' ∈ layS rs d c i := fun e he => by
          obtain ⟨b, e', a1, a2, a3⟩ := nkv e he
          exact ⟨b, e', a1, by rw [upd_ne (ne_of a2 hl9 (fun z => nomatch z))]; exact a2, a3⟩
        refine ⟨L, _, _, rfl, rfl, hL10, (by rw [List.length_map, hll, sizeL]; omega), ?_⟩
        refine ⟨i + 1, ls ++ [Dn], _, Dn, nk, by omega, hi1, same_fld (s07.trans s10) L0, (by rw [upd_same, List.map_append]; rfl), (by rw [List.length_append, hll]; rfl), (by rw [List.getElem?_append_right (by omega), hll, Nat.sub_self]; rfl), Dn0, (by rw [upd_ne (ne_of hnk10 hL10 (fun z => nomatch z))]; exact hnk10), nkk, fun j hj => ?_, rfl⟩
        by_cases hji : j + 1 < ls.length
        · obtain ⟨l2, a1, a2⟩ := hly7 j hji
          exact ⟨l2, by rw [List.getElem?_append_left hji]; exact a1, (a2.same s10).upL hL10⟩
        · have ej : j = i := by
            rw [List.length_append] at hj
            have : [Dn].length = 1 := rfl
            omega
          subst ej
          refine ⟨Dn, by rw [List.getElem?_append_right (by omega), hll, Nat.sub_self]; rfl, LayerAt.upL ⟨nk, hnk10, nkk, nkv10⟩ hL10⟩
end
end S
set_option Elab.async false
set_option linter.all false
set_option maxRecDepth 100000
set_option maxHeartbeats 4000000
/-! # houses without fars and wants: what holds of them -/
namespace S
open PySem PySem.Spec PyProof.Rows L2 G SrtO
/-- the hashes of a box's cells are apart -/
def Apart (P : Program) (w : World) (n m : Nat) : Prop := ∀ c ∈ boxL n m, ∀ c' ∈ boxL n m, DT2.hashT P w (cK c) = DT2.hashT P w (cK c') → c = c'
theorem Apart.nd {P : Program} {w : World} {n m : Nat} (A : Apart P w n m) {l : List Cell} (hn : l.Nodup) (hb : ∀ c ∈ l, c ∈ boxL n m) : (l.map fun c => DT2.hashT P w (cK c)).Nodup :=
  List.pairwise_map.mpr (List.Pairwise.imp_of_mem (fun {a b} ha hb' h z => h (A a (hb a ha) b (hb b hb') z)) hn)
theorem Apart.nd1 {P : Program} {w : World} {n m : Nat} (A : Apart P w n m) {l : List Ent} (hn : (l.map (·.1)).Nodup) (hb : ∀ e ∈ l, e.1 ∈ boxL n m) : (l.map fun e => DT2.hashT P w (cK e.1)).Nodup := by
  have := A.nd hn fun c hc => by
    obtain ⟨e, he, rfl⟩ := List.mem_map.mp hc
    exact hb e he
  rw [List.map_map] at this
  exact this
theorem box_len {n m : Nat} {l : List Cell} (hn : l.Nodup) (hb : ∀ c ∈ l, c ∈ boxL n m) : l.length ≤ n * m := by
  rw [← boxL_len]
  exact cell_len hn hb
theorem box_len1 {n m : Nat} {l : List Ent} (hn : (l.map (·.1)).Nodup) (hb : ∀ e ∈ l, e.1 ∈ boxL n m) : l.length ≤ n * m := by
  have := box_len hn fun c hc => by
    obtain ⟨e, he, rfl⟩ := List.mem_map.mp hc
    exact hb e he
  rw [List.length_map] at this
  exact this
theorem box_in {rs : List RoomD} {m : Nat} {c : Cell} : c ∈ boxL rs.length m ↔ InR rs c.1 ∧ 0 ≤ c.2 ∧ c.2 < m := by
  rw [boxL_mem]
  unfold InR
  constructor
  · rintro ⟨a, b, d, e⟩; exact ⟨⟨a, by omega⟩, d, e⟩
  · rintro ⟨⟨a, b⟩, d, e⟩; exact ⟨a, by omega, d, e⟩
/-! ### lists without doubles, added to -/
theorem addC_mem {l : List Cell} {c x : Cell} : x ∈ addC l c ↔ x ∈ l ∨ x = c := by
  unfold addC
  split
  · rename_i h
    exact ⟨.inl, fun z => z.elim id fun e => e ▸ h⟩
  · simp
theorem addC_nd {l : List Cell} {c : Cell} (h : l.Nodup) : (addC l c).Nodup := by
  unfold addC
  split
  · exact h
  · rename_i z
    refine List.nodup_append.mpr ⟨h, by simp, fun a ha b hb e => z ?_⟩
    rw [← List.mem_singleton.mp hb, ← e]
    exact ha
theorem addAll_mem : ∀ {hs l : List Cell} {x : Cell}, x ∈ hs.foldl addC l ↔ x ∈ l ∨ x ∈ hs
  | [], l, x => by simp
  | h :: hs, l, x => by
    rw [List.foldl_cons, addAll_mem (hs := hs), addC_mem, List.mem_cons, or_assoc]
theorem addAll_nd : ∀ {hs l : List Cell}, l.Nodup → (hs.foldl addC l).Nodup
  | [], _, h => h
  | h :: hs, l, hl => by
    rw [List.foldl_cons]
    exact addAll_nd (addC_nd hl)
/-! ### pokes put -/
theorem lkP_set (l : List Ent) (c d : Cell) (v : Int) : lkP (l.map fun e => if e.1 = c then (e.1, v) else e) d = if d = c then (lkP l c).map (fun _ => v) else lkP l d := by
  induction l with
  | nil => split <;> rfl
  | cons e l ih =>
    rw [List.map_cons, lkP_cons, ih, lkP_cons, lkP_cons]
    by_cases h1 : e.1 = c
    · rw [if_pos h1, if_pos h1]
      by_cases h2 : d = c
      · rw [if_pos h2, if_pos h2, h2, if_pos h1]
        rfl
      · have h3 : ¬ e.1 = d := fun z => h2 (by rw [← z, h1])
        rw [if_neg h2, if_neg h2, if_neg h3, if_neg h3]
    · rw [if_neg h1, if_neg h1]
      by_cases h2 : d = c
      · have h3 : ¬ e.1 = d := fun z => h1 (by rw [z, h2])
        rw [if_pos h2, if_pos h2, if_neg h3]
      · rw [if_neg h2, if_neg h2]
theorem lkP_putE (l : List Ent) (c d : Cell) (v : Int) : lkP (putE l c v) d = if d = c then some v else lkP l d := by
  unfold putE
  split
  · rename_i h
    rw [lkP_set]
    obtain ⟨u, hu⟩ := Option.isSome_iff_exists.mp h
    rw [hu]
    rfl
  · rename_i h
    have hn : lkP l c = none := by cases e : lkP l c with
      | none => rfl
      | some u => rw [e] at h; exact absurd rfl h
    rw [lkP_app, lkP_cons, lkP_nil]
    by_cases h2 : d = c
    · subst h2
      rw [hn, if_pos rfl]
      rfl
    · rw [if_neg h2, if_neg fun z : c = d => h2 z.symm]
      cases lkP l d <;> rfl
theorem putE_keys (l : List Ent) (c : Cell) (v : Int) : (putE l c v).map (·.1) = addC (l.map (·.1)) c := by
  unfold putE addC
  by_cases h : (lkP l c).isSome = true
  · rw [if_pos h, if_pos (lkP_isSome.mp h), List.map_map]
    refine List.map_congr_left fun e _ => ?_
    show (if e.1 = c then (e.1, v) else e).1 = e.1
    split <;> rfl
  · rw [if_neg h, if_neg fun z => h (lkP_isSome.mpr z), List.map_append]
    rfl
theorem putE_mem {l : List Ent} {c : Cell} {v : Int} {e : Ent} (h : e ∈ putE l c v) : e = (c, v) ∨ e ∈ l := by
  unfold putE at h
  split at h
  · obtain ⟨x, hx, rfl⟩ := List.mem_map.mp h
    split
    · rename_i z
      left
      rw [z]
    · exact .inr hx
  · rcases List.mem_append.mp h with h | h
    · exact .inr h
    · exact .inl (List.mem_singleton.mp h)
theorem PinsOk.put {rs : List RoomD} {l : List Ent} (h : PinsOk rs l) {c : Cell} {v : Int} (h0 : 0 ≤ v) (h1 : v < (rAt rs c.1).size) : PinsOk rs (putE l c v) := fun e he => by
  rcases putE_mem he with rfl | he
  · exact ⟨h0, h1⟩
  · exact h e he
theorem knP_putE {l : List Ent} {c d : Cell} {v : Int} : knP (putE l c v) d = (knP l d || decide (d = c)) := by
  unfold knP
  rw [lkP_putE]
  by_cases h : d = c
  · rw [if_pos h, decide_eq_true h]
    simp
  · rw [if_neg h, decide_eq_false h]
    simp
/-! ### the invariant -/
structure HInv (rs : List RoomD) (m : Nat) (d : HouseD) : Prop where
  pb : ∀ e ∈ d.pins, e.1 ∈ boxL rs.length m
  pv : PinsOk rs d.pins
  pn : (d.pins.map (·.1)).Nodup
  rb : ∀ e ∈ d.run, e.1 ∈ boxL rs.length m ∧ knP d.pins e.1 = false ∧ e.2 = wv rs d.pins e.1
  rn : (d.run.map (·.1)).Nodup
  ak : d.asked = d.run.map (·.1)
  rh : ∀ e ∈ d.run, ∀ h ∈ heardC rs e.1, h ∈ d.heard
  hb : ∀ h ∈ d.heard, h ∈ boxL rs.length m ∧ kH d h = true
  hn : d.heard.Nodup
  hy : ∀ h ∈ d.heard, ∃ e ∈ d.run, h ∈ heardC rs e.1
  lb : ∀ c ∈ d.looked, c ∈ boxL rs.length m ∧ kH d c = true
  ln : d.looked.Nodup
  ry : ∀ e ∈ d.run, e.1 ∈ d.looked ∨ e.1 ∈ d.heard
  kp : d.kept = []
theorem kH_iff {d : HouseD} {c : Cell} : kH d c = true ↔ c ∈ d.run.map (·.1) ∨ knP d.pins c = true := by
  unfold kH
  rw [Bool.or_eq_true, lkP_isSome]
theorem kH_no {d : HouseD} {c : Cell} : kH d c = false ↔ lkP d.run c = none ∧ knP d.pins c = false := by
  unfold kH
  rw [Bool.or_eq_false_iff, Option.isSome_eq_false_iff, Option.isNone_iff_eq_none]
theorem seenH_iff {d : HouseD} {c : Cell} : seenH d c = true ↔ c ∈ d.looked ∨ c ∈ d.run.map (·.1) ∨ c ∈ d.heard := by
  unfold seenH
  rw [Bool.or_eq_true, Bool.or_eq_true, decide_eq_true_iff, decide_eq_true_iff, lkP_isSome]
theorem HInv.fresh {rs : List RoomD} {m : Nat} {es : List Ent} (pb : ∀ e ∈ es, e.1 ∈ boxL rs.length m) (pv : PinsOk rs es) (pn : (es.map (·.1)).Nodup) : HInv rs m { newH with pins := es } :=
  ⟨pb, pv, pn, fun _ h => (nomatch h), List.nodup_nil, rfl, fun _ h => (nomatch h), fun _ h => (nomatch h), List.nodup_nil, fun _ h => (nomatch h), fun _ h => (nomatch h), List.nodup_nil, fun _ h => (nomatch h), rfl⟩
section
variable {rs : List RoomD} {m : Nat} {d : HouseD}
theorem HInv.stH (I : HInv rs m d) {c : Cell} (h0 : 0 ≤ c.2) (hk : kH d c = true) : stH rs d c = wv rs d.pins c := by
  unfold S.stH
  cases e : lkP d.run c with
  | some v => exact (I.rb _ (lkP_mem e)).2.2
  | none =>
    rcases kH_iff.mp hk with h | h
    · have := lkP_isSome.mpr h
      rw [e] at this
      cases this
    · exact (wv_kn h0 h).symm
theorem HInv.seen_kH (I : HInv rs m d) {c : Cell} (h : seenH d c = true) : c ∈ boxL rs.length m ∧ kH d c = true := by
  rcases seenH_iff.mp h with h | h | h
  · exact I.lb c h
  · obtain ⟨e, he, rfl⟩ := List.mem_map.mp h
    exact ⟨(I.rb e he).1, kH_iff.mpr (.inl h)⟩
  · exact I.hb c h
/-- what is seen doesn't hang on what is not -/
theorem HInv.seen_dep (I : HInv rs m d) {es : List Ent} (ag : ∀ c, seenH d c = true → lkP d.pins c = lkP es c) {c : Cell} (h : seenH d c = true) : wv rs d.pins c = wv rs es c := by
  refine wv_dep (fun c => seenH d c = true) (fun c hc hk x hx => ?_) ag (box_in.mp (I.seen_kH h).1).2.1 h
  rcases kH_iff.mp (I.seen_kH hc).2 with h1 | h1
  · obtain ⟨e, he, rfl⟩ := List.mem_map.mp h1
    exact seenH_iff.mpr (.inr (.inr (I.rh e he _ (List.mem_map_of_mem (f := fun h => (h, e.1.2 - 1)) hx))))
  · rw [hk] at h1
    cases h1
theorem HInv.poke (I : HInv rs m d) {c : Cell} {v : Int} (hs : seenH d c = false) (hc : c ∈ boxL rs.length m) (v0 : 0 ≤ v) (v1 : v < (rAt rs c.1).size) : HInv rs m { d with pins := putE d.pins c v } := by
  have ne : ∀ x, seenH d x = true → x ≠ c := fun x hx z => by rw [z, hs] at hx; cases hx
  have ag : ∀ x, seenH d x = true → lkP d.pins x = lkP (putE d.pins c v) x := fun x hx => by rw [lkP_putE, if_neg (ne x hx)]
  have kk : ∀ x, kH d x = true → kH { d with pins := putE d.pins c v } x = true := fun x hx => by
    rcases kH_iff.mp hx with h | h
    · exact kH_iff.mpr (.inl h)
    · refine kH_iff.mpr (.inr ?_)
      show knP (putE d.pins c v) x = true
      rw [knP_putE, h]
      rfl
  refine ⟨fun e he => ?_, I.pv.put v0 v1, ?_, fun e he => ?_, I.rn, I.ak, I.rh, fun h hh => ⟨(I.hb h hh).1, kk _ (I.hb h hh).2⟩, I.hn, I.hy, fun h hh => ⟨(I.lb h hh).1, kk _ (I.lb h hh).2⟩, I.ln, I.ry, I.kp⟩
  · rcases putE_mem he with rfl | he
    · exact hc
    · exact I.pb e he
  · show ((putE d.pins c v).map (·.1)).Nodup
    rw [putE_keys]
    exact addC_nd I.pn
  · obtain ⟨h1, h2, h3⟩ := I.rb e he
    have hse : seenH d e.1 = true := seenH_iff.mpr (.inr (.inl (List.mem_map_of_mem he)))
    refine ⟨h1, ?_, ?_⟩
    · show knP (putE d.pins c v) e.1 = false
      rw [knP_putE, h2, decide_eq_false (ne _ hse)]
      rfl
    · rw [h3]
      exact I.seen_dep ag hse
/-! ### a look -/
theorem ranL_eq (rs : List RoomD) : ∀ (R : List (Cell × Int)) (d : HouseD), ranL rs d R = { d with run := d.run ++ R, asked := d.asked ++ R.map (·.1), heard := (R.flatMap fun e => heardC rs e.1).foldl addC d.heard }
  | [], d => by
    show d = _
    simp
  | e :: R, d => by
    show ranL rs (ranH rs d e.1 e.2) R = _
    rw [ranL_eq rs R]
    unfold ranH
    simp [List.foldl_append]
theorem heard_in {rs : List RoomD} {c h : Cell} : h ∈ heardC rs c ↔ h.1 ∈ (rAt rs c.1).hears ∧ h.2 = c.2 - 1 := by
  unfold heardC
  rw [List.mem_map]
  constructor
  · rintro ⟨x, hx, rfl⟩; exact ⟨hx, rfl⟩
  · rintro ⟨a, b⟩; exact ⟨h.1, a, Prod.ext rfl b.symm⟩
theorem heardC_nd (hw : OkWeb rs) {c : Cell} (hc : InR rs c.1) : (heardC rs c).Nodup := by
  unfold heardC
  refine List.pairwise_map.mpr ((ok_room hw hc).2.2.1.imp fun h z => h (congrArg Prod.fst z))
theorem uok_need {rs : List RoomD} {kn : Cell → Bool} {c0 : Cell} {U : List Cell} (hU : UOk rs kn c0 U) {c : Cell} (h : Need rs kn [c0] c) : c ∈ U := by
  induction h with
  | base h => rw [List.mem_singleton.mp h]; exact hU.m0
  | step n k m ih => exact hU.cl _ ih k _ m
structure LookPlan (P : Program) (w : World) (rs : List RoomD) (m : Nat) (d : HouseD) (c0 : Cell) (U : List Cell) (R : List (Cell × Int)) : Prop where
  uo : UOk rs (kH d) c0 U
  rp : (R.map (·.1)).Perm (U.filter fun c => !kH d c)
  rs' : (R.map (·.1)).Pairwise fun x y => lexB (swapC y) (swapC x) = false
  ro : ∀ i c v, R[i]? = some (c, v) → RunOk P w rs (ranL rs d (R.take i)) c v
  kh : kH (ranL rs d R) c0 = true
  st : stH rs (ranL rs d R) c0 = wv rs d.pins c0
  iv : HInv rs m { ranL rs d R with looked := addC (ranL rs d R).looked c0 }
  se : ∀ c, Need rs (kH d) [c0] c → seenH { ranL rs d R with looked := addC (ranL rs d R).looked c0 } c = true
theorem look_plan {P : Program} {w : World} (hw : OkWeb rs) (I : HInv rs m d) (hm : m ≤ 61) (A : Apart P w rs.length m) {c0 : Cell} (hc : c0 ∈ boxL rs.length m) : ∃ U R, LookPlan P w rs m d c0 U R := by
  obtain ⟨hi, h0, h1⟩ := box_in.mp hc
  have hk0 : ∀ c : Cell, c.2 = 0 → kH d c = true := fun c z => kH_iff.mpr (.inr (knP_iff.mpr (.inl z)))
  obtain ⟨U, hU, hUs⟩ := uok_ex hw (kn := kH d) hi h0 (by omega) hk0
  have hUb : ∀ c ∈ U, c ∈ boxL rs.length m := fun c hc => by
    obtain ⟨a, b, e⟩ := need_bd hw hi h0 hk0 (hU.nr c hc)
    exact box_in.mpr ⟨a, b, by omega⟩
  obtain ⟨R0, pm, ps⟩ := sort_ex swapC (U.filter fun c => !kH d c)
  have hR0 : ∀ c, c ∈ R0 ↔ c ∈ U ∧ kH d c = false := fun c => by
    rw [pm.mem_iff, List.mem_filter, Bool.not_eq_true']
  have R0n : R0.Nodup := pm.nodup_iff.mpr (hU.nd.filter _)
  have eR : ∀ l : List Cell, (l.map fun c => (c, wv rs d.pins c)).map (·.1) = l := fun l => by
    rw [List.map_map]
    exact List.map_id' l
  have lkM : ∀ (l : List Cell) (c : Cell), lkP (l.map fun c => (c, wv rs d.pins c)) c = if c ∈ l then some (wv rs d.pins c) else none := fun l c => by
    induction l with
    | nil => rfl
    | cons a l ih =>
      rw [List.map_cons, lkP_cons, ih]
      by_cases h : a = c
      · subst h
        simp
      · rw [if_neg h]
        have h' : ¬ c = a := fun z => h z.symm
        simp [h']
  have rl : d.run.length ≤ 732 := by
    have := box_len1 I.rn fun e he => (I.rb e he).1
    have h2 : rs.length * m ≤ 12 * 61 := Nat.mul_le_mul hw.2.1 hm
    omega
  have hl : d.heard.length ≤ 732 := by
    have := box_len I.hn fun e he => (I.hb e he).1
    have h2 : rs.length * m ≤ 12 * 61 := Nat.mul_le_mul hw.2.1 hm
    omega
  have R0l : R0.length ≤ 732 := by
    have := box_len R0n fun c hc => hUb c ((hR0 c).mp hc).1
    have h2 : rs.length * m ≤ 12 * 61 := Nat.mul_le_mul hw.2.1 hm
    omega
  -- stands behind a part of the row
  have stI : ∀ (l : List Cell) (e : Cell), 0 ≤ e.2 → kH d e = true ∨ e ∈ l → kH (ranL rs d (l.map fun c => (c, wv rs d.pins c))) e = true ∧ stH rs (ranL rs d (l.map fun c => (c, wv rs d.pins c))) e = wv rs d.pins e := fun l e e0 he => by
    rw [ranL_eq]
    unfold kH S.stH
    dsimp only
    rw [lkP_app, lkM]
    cases hr : lkP d.run e with
    | some v =>
      refine ⟨rfl, ?_⟩
      exact (I.rb _ (lkP_mem hr)).2.2
    | none =>
      by_cases hel : e ∈ l
      · rw [if_pos hel]
        exact ⟨rfl, rfl⟩
      · rw [if_neg hel]
        rcases he with he | he
        · have hkn : knP d.pins e = true := by
            rcases kH_iff.mp he with h | h
            · have := lkP_isSome.mpr h
              rw [hr] at this
              cases this
            · exact h
          refine ⟨by rw [hkn]; rfl, ?_⟩
          exact (wv_kn e0 hkn).symm
        · exact absurd he hel
  refine ⟨U, R0.map fun c => (c, wv rs d.pins c), hU, by rw [eR]; exact pm, by rw [eR]; exact ps, fun i c v hiv => ?_, (stI R0 c0 h0 ?_).1, (stI R0 c0 h0 ?_).2, ?_, fun c hN => ?_⟩
  · rw [List.getElem?_map] at hiv
    obtain ⟨c', hc', e'⟩ := Option.map_eq_some_iff.mp hiv
    cases e'
    have hil : i < R0.length := (List.getElem?_eq_some_iff.mp hc').1
    have hge : R0[i] = c := (List.getElem?_eq_some_iff.mp hc').2
    have hcR : c ∈ R0 := hge ▸ List.getElem_mem hil
    obtain ⟨hcU, hck⟩ := (hR0 c).mp hcR
    obtain ⟨k1, k2⟩ := kH_no.mp hck
    obtain ⟨ci, c0', c1'⟩ := box_in.mp (hUb c hcU)
    have htk : (R0.map fun c => (c, wv rs d.pins c)).take i = (R0.take i).map fun c => (c, wv rs d.pins c) := List.map_take.symm
    rw [htk]
    have hcz : c.2 ≠ 0 := (knP_no.mp k2).1
    have hhe : ∀ e ∈ heardC rs c, 0 ≤ e.2 ∧ (kH d e = true ∨ e ∈ R0.take i) := fun e he => by
      obtain ⟨h1, h2⟩ := heard_in.mp he
      have heU : e ∈ U := by
        have := hU.cl c hcU hck e.1 h1
        rw [← h2] at this
        exact this
      refine ⟨by omega, ?_⟩
      cases hke : kH d e with
      | true => exact .inl rfl
      | false =>
        right
        have heR : e ∈ R0 := (hR0 e).mpr ⟨heU, hke⟩
        obtain ⟨j, hj, ej⟩ := List.getElem_of_mem heR
        have hji : j < i := by
          rcases Nat.lt_trichotomy j i with z | z | z
          · exact z
          · subst z
            rw [ej] at hge
            rw [hge] at h2
            omega
          · have := (List.pairwise_iff_getElem.mp ps) i j hil hj z
            rw [hge, ej] at this
            unfold lexB swapC at this
            dsimp only at this
            rw [if_neg (by omega)] at this
            have := of_decide_eq_false this
            omega
        rw [← ej]
        exact List.mem_take_iff_getElem.mpr ⟨j, by omega, rfl⟩
    have nin : c ∉ R0.take i := fun z => by
      obtain ⟨j, hj, ej⟩ := List.mem_take_iff_getElem.mp z
      have := (List.getElem_inj (h₀ := by omega) (h₁ := hil) R0n).mp (ej.trans hge.symm)
      omega
    have hst : ∀ e ∈ heardC rs c, kH (ranL rs d ((R0.take i).map fun c => (c, wv rs d.pins c))) e = true ∧ stH rs (ranL rs d ((R0.take i).map fun c => (c, wv rs d.pins c))) e = wv rs d.pins e := fun e he => stI _ e (hhe e he).1 (hhe e he).2
    refine ⟨ci, fun e he => ⟨hears_in hw ci (heard_in.mp he).1, (hst e he).1⟩, ?_, ?_, ?_, ?_, ?_, ?_, ?_⟩
    · rw [List.map_congr_left fun e he => (hst e he).2]
      exact wv_step hw I.pv ci c0' k2
    · rw [ranL_eq]
      dsimp only
      rw [lkP_app, k1, lkM, if_neg nin]
      rfl
    · rw [ranL_eq]
      dsimp only
      rw [eR, I.ak]
      intro z
      rcases List.mem_append.mp z with z | z
      · have := lkP_isSome.mpr z
        rw [k1] at this
        cases this
      · exact nin z
    · exact A.nd (heardC_nd hw ci) fun e he => by
        obtain ⟨h1, h2⟩ := heard_in.mp he
        exact box_in.mpr ⟨hears_in hw ci h1, (hhe e he).1, by omega⟩
    · rw [ranL_eq]
      dsimp only
      rw [List.length_append, List.length_map, List.length_take]
      omega
    · rw [ranL_eq]
      dsimp only
      rw [List.length_append, List.length_map, List.length_map, List.length_take, I.ak, List.length_map]
      omega
    · rw [ranL_eq]
      dsimp only
      refine Nat.le_trans (box_len (n := rs.length) (m := m) (addAll_nd I.hn) fun x hx => ?_) ?_
      · rcases addAll_mem.mp hx with hx | hx
        · exact (I.hb x hx).1
        · obtain ⟨y, hy, hxy⟩ := List.mem_flatMap.mp hx
          obtain ⟨z, hz, rfl⟩ := List.mem_map.mp hy
          obtain ⟨zU, zk⟩ := (hR0 z).mp (List.mem_of_mem_take hz)
          obtain ⟨g1, g2⟩ := heard_in.mp hxy
          have := hU.cl z zU zk x.1 g1
          have e : (x.1, z.2 - 1) = x := Prod.ext rfl g2.symm
          rw [e] at this
          exact hUb x this
      · have h2 : rs.length * m ≤ 12 * 61 := Nat.mul_le_mul hw.2.1 hm
        omega
  · cases z : kH d c0 with
    | true => exact .inl rfl
    | false => exact .inr ((hR0 _).mpr ⟨hU.m0, z⟩)
  · cases z : kH d c0 with
    | true => exact .inl rfl
    | false => exact .inr ((hR0 _).mpr ⟨hU.m0, z⟩)
  · have hc0 : kH (ranL rs d (R0.map fun c => (c, wv rs d.pins c))) c0 = true := (stI R0 c0 h0 (by
      cases z : kH d c0 with
      | true => exact .inl rfl
      | false => exact .inr ((hR0 _).mpr ⟨hU.m0, z⟩))).1
    have kU : ∀ c ∈ U, kH (ranL rs d (R0.map fun c => (c, wv rs d.pins c))) c = true := fun c hc => (stI R0 c (box_in.mp (hUb c hc)).2.1 (by
      cases z : kH d c with
      | true => exact .inl rfl
      | false => exact .inr ((hR0 _).mpr ⟨hc, z⟩))).1
    have kO : ∀ c : Cell, 0 ≤ c.2 → kH d c = true → kH (ranL rs d (R0.map fun c => (c, wv rs d.pins c))) c = true := fun c h hk => (stI R0 c h (.inl hk)).1
    rw [ranL_eq] at hc0 kU kO ⊢
    dsimp only at hc0 kU kO ⊢
    have memR : ∀ {e : Ent}, e ∈ d.run ++ R0.map (fun c => (c, wv rs d.pins c)) → e ∈ d.run ∨ (e.1 ∈ R0 ∧ e.2 = wv rs d.pins e.1) := fun {e} h => by
      rcases List.mem_append.mp h with h | h
      · exact .inl h
      · obtain ⟨c, hc, rfl⟩ := List.mem_map.mp h
        exact .inr ⟨hc, rfl⟩
    refine ⟨I.pb, I.pv, I.pn, fun e he => ?_, ?_, ?_, fun e he h hh => ?_, fun h hh => ?_, addAll_nd I.hn, fun h hh => ?_, fun c hc => ?_, addC_nd I.ln, fun e he => ?_, I.kp⟩
    · rcases memR he with h | ⟨h, h2⟩
      · exact I.rb e h
      · obtain ⟨a, b⟩ := (hR0 _).mp h
        exact ⟨hUb _ a, (kH_no.mp b).2, h2⟩
    · show ((d.run ++ R0.map fun c => (c, wv rs d.pins c)).map (·.1)).Nodup
      rw [List.map_append, eR]
      refine List.nodup_append.mpr ⟨I.rn, R0n, fun a ha b hb z => ?_⟩
      subst z
      have := (kH_no.mp ((hR0 _).mp hb).2).1
      rw [lkP_none] at this
      exact this ha
    · show d.asked ++ (R0.map fun c => (c, wv rs d.pins c)).map (·.1) = _
      rw [I.ak, List.map_append]
    · refine addAll_mem.mpr ?_
      rcases List.mem_append.mp he with h' | h'
      · exact .inl (I.rh e h' h hh)
      · exact .inr (List.mem_flatMap.mpr ⟨e, h', hh⟩)
    · rcases addAll_mem.mp hh with h' | h'
      · obtain ⟨a, b⟩ := I.hb h h'
        exact ⟨a, kO h (box_in.mp a).2.1 b⟩
      · obtain ⟨e, he, hhe⟩ := List.mem_flatMap.mp h'
        obtain ⟨c, hc, rfl⟩ := List.mem_map.mp he
        obtain ⟨cU, ck⟩ := (hR0 c).mp hc
        obtain ⟨g1, g2⟩ := heard_in.mp hhe
        have := hU.cl c cU ck h.1 g1
        have e : (h.1, c.2 - 1) = h := Prod.ext rfl g2.symm
        rw [e] at this
        exact ⟨hUb h this, kU h this⟩
    · rcases addAll_mem.mp hh with h' | h'
      · obtain ⟨e, he, h2⟩ := I.hy h h'
        exact ⟨e, List.mem_append_left _ he, h2⟩
      · obtain ⟨e, he, hhe⟩ := List.mem_flatMap.mp h'
        exact ⟨e, List.mem_append_right _ he, hhe⟩
    · rcases addC_mem.mp hc with h' | h'
      · obtain ⟨a, b⟩ := I.lb c h'
        exact ⟨a, kO c (box_in.mp a).2.1 b⟩
      · subst h'
        exact ⟨box_in.mpr ⟨hi, h0, h1⟩, hc0⟩
    · rcases memR he with h' | ⟨h', _⟩
      · rcases I.ry e h' with z | z
        · exact .inl (addC_mem.mpr (.inl z))
        · exact .inr (addAll_mem.mpr (.inl z))
      · -- needed by what?
        obtain ⟨eU, ek⟩ := (hR0 _).mp h'
        have hN := hU.nr _ eU
        generalize e.1 = c at hN eU ek
        cases hN with
        | base h => exact .inl (addC_mem.mpr (.inr (List.mem_singleton.mp h)))
        | @step c' h n k mm =>
          refine .inr (addAll_mem.mpr (.inr (List.mem_flatMap.mpr ⟨(c', wv rs d.pins c'), List.mem_map_of_mem ((hR0 c').mpr ⟨?_, k⟩), heard_in.mpr ⟨mm, rfl⟩⟩)))
          exact (uok_need hU n)
  · rw [ranL_eq]
    refine seenH_iff.mpr ?_
    dsimp only
    cases hN with
    | base h => exact .inl (addC_mem.mpr (.inr (List.mem_singleton.mp h)))
    | @step c' h n k mm => exact .inr (.inr (addAll_mem.mpr (.inr (List.mem_flatMap.mpr ⟨(c', wv rs d.pins c'), List.mem_map_of_mem ((hR0 c').mpr ⟨uok_need hU n, k⟩), heard_in.mpr ⟨mm, rfl⟩⟩))))
end
end S
set_option Elab.async false
set_option linter.all false
set_option maxRecDepth 100000
set_option maxHeartbeats 4000000
/-! # what the sways need: the lot, the row by other stands; the way of a seen cell -/
namespace S
open PySem PySem.Spec PyProof.Rows L2 G SrtO
/-! ### any lot -/
theorem lot_go {rs : List RoomD} (hw : OkWeb rs) : ∀ (n : Nat) (found waiting : List Int), found.Nodup → (∀ x ∈ found, InR rs x) → (∀ x ∈ waiting, InR rs x) → 4 * (12 - found.length) + waiting.length < n →
    ∃ fd, lotGo rs n found waiting = some fd ∧ fd.Nodup ∧ ∀ x ∈ fd, InR rs x
  | 0, _, _, _, _, _, h => by omega
  | n + 1, found, waiting, hn, hf, hwt, h => by
    unfold lotGo
    cases e : waiting.getLast? with
    | none => exact ⟨found, rfl, hn, hf⟩
    | some one =>
      have hne : waiting ≠ [] := fun z => by rw [z] at e; cases e
      have hm : one ∈ waiting := List.mem_of_getLast? e
      have ho := hwt _ hm
      have hdl : waiting.dropLast.length = waiting.length - 1 := List.length_dropLast ..
      have hpos : 0 < waiting.length := List.length_pos_iff.mpr hne
      have hd : ∀ x ∈ waiting.dropLast, InR rs x := fun x hx => hwt x (List.dropLast_subset _ hx)
      dsimp only
      by_cases hin : one ∈ found
      · rw [if_pos hin]
        exact lot_go hw n found _ hn hf hd (by omega)
      · rw [if_neg hin]
        have fn : (found ++ [one]).Nodup := List.nodup_append.mpr ⟨hn, by simp, fun a ha b hb z => hin (by rw [← List.mem_singleton.mp hb, ← z]; exact ha)⟩
        have fi : ∀ x ∈ found ++ [one], InR rs x := fun x hx => by
          rcases List.mem_append.mp hx with hx | hx
          · exact hf x hx
          · rw [List.mem_singleton.mp hx]; exact ho
        have fl : (found ++ [one]).length ≤ 12 := Nat.le_trans (room_len fn fi) hw.2.1
        have f1 : (found ++ [one]).length = found.length + 1 := List.length_append
        have w1 : (waiting.dropLast ++ (rAt rs one).hears).length = waiting.dropLast.length + (rAt rs one).hears.length := List.length_append
        have hh := (ok_room hw ho).1
        refine lot_go hw n _ _ fn fi (fun x hx => ?_) ?_
        · rcases List.mem_append.mp hx with hx | hx
          · exact hd x hx
          · exact hears_in hw ho hx
        · rw [w1, f1]
          omega
theorem lot_ex {rs : List RoomD} (hw : OkWeb rs) {room : Int} (hr : InR rs room) : ∃ lot, LotIs rs room lot := by
  obtain ⟨fd, e, hn, hi⟩ := lot_go hw 60 [] [room] List.nodup_nil (fun _ h => nomatch h) (fun x hx => by rw [List.mem_singleton.mp hx]; exact hr) (by show 4 * (12 - 0) + 1 < 60; decide)
  refine ⟨fd.mergeSort (fun a b => decide (a ≤ b)), 60, fd, by decide, e, (List.mergeSort_perm ..).symm, ?_, ?_, fun x hx => ?_⟩
  · have := List.pairwise_mergeSort (le := fun a b : Int => decide (a ≤ b)) (fun a b c h1 h2 => by
      rw [decide_eq_true_iff] at *
      omega) (fun a b => by
      rw [Bool.or_eq_true, decide_eq_true_iff, decide_eq_true_iff]
      omega) fd
    exact this.imp fun h => of_decide_eq_true h
  · have := room_len hn hi
    have := hw.2.1
    omega
  · exact hi x ((List.mergeSort_perm ..).mem_iff.mp hx)
/-! ### a row run from other known stands -/
theorem getAll_map {f : Cell → Option Int} {g : Cell → Int} : ∀ {cs : List Cell}, (∀ c ∈ cs, f c = some (g c)) → getAll f cs = some (cs.map g)
  | [], _ => rfl
  | c :: cs, h => by
    unfold getAll
    rw [h c (List.mem_cons_self ..), getAll_map fun x hx => h x (List.mem_cons_of_mem _ hx)]
    rfl
theorem run_row {rs : List RoomD} (hw : OkWeb rs) {es es' : List Ent} (hp : PinsOk rs es') (kk : ∀ c, knP es' c = knP es c) {c0 : Cell} {U R : List Cell} (hU : UOk rs (knP es) c0 U) (hb : ∀ c ∈ U, 0 ≤ c.2) (rp : R.Perm (U.filter fun c => !knP es c)) (rs' : R.Pairwise fun x y => lexB (swapC y) (swapC x) = false)
    {f : Cell → Option Int} (hf : ∀ c ∈ U, knP es c = true → f c = some (wv rs es' c)) : ∃ g, runRow rs f R = some g ∧ ∀ c ∈ U, g c = some (wv rs es' c) := by
  have hR : ∀ c, c ∈ R ↔ c ∈ U ∧ knP es c = false := fun c => by rw [rp.mem_iff, List.mem_filter, Bool.not_eq_true']
  have key : ∀ i, i ≤ R.length → ∃ g, runRow rs f (R.take i) = some g ∧ (∀ c ∈ U, knP es c = true → g c = some (wv rs es' c)) ∧ ∀ c ∈ R.take i, g c = some (wv rs es' c) := fun i => by
    induction i with
    | zero => exact fun _ => ⟨f, rfl, hf, fun c hc => by simp at hc⟩
    | succ i ih =>
      intro hi
      obtain ⟨g, e1, e2, e3⟩ := ih (by omega)
      have hil : i < R.length := by omega
      obtain ⟨cU, ck⟩ := (hR _).mp (List.getElem_mem hil)
      have ci := hU.inr _ cU
      have he : ∀ e ∈ heardC rs R[i], g e = some (wv rs es' e) := fun e he => by
        obtain ⟨h1, h2⟩ := heard_in.mp he
        have eU : e ∈ U := by
          have := hU.cl _ cU ck e.1 h1
          rw [← h2] at this
          exact this
        cases hke : knP es e with
        | true => exact e2 e eU hke
        | false =>
          refine e3 e ?_
          obtain ⟨j, hj, ej⟩ := List.getElem_of_mem ((hR e).mpr ⟨eU, hke⟩)
          have hji : j < i := by
            rcases Nat.lt_trichotomy j i with z | z | z
            · exact z
            · subst z
              rw [← ej] at h2
              omega
            · have := (List.pairwise_iff_getElem.mp rs') i j hil hj z
              rw [ej] at this
              unfold lexB swapC at this
              dsimp only at this
              rw [if_neg (by omega)] at this
              have := of_decide_eq_false this
              omega
          rw [← ej]
          exact List.mem_take_iff_getElem.mpr ⟨j, by omega, rfl⟩
      have hs : stOf rs g R[i] = some (wv rs es' R[i]) := by
        unfold stOf
        rw [getAll_map he]
        exact wv_step hw hp ci (hb _ cU) (by rw [kk]; exact ck)
      refine ⟨putF1 g R[i] (wv rs es' R[i]), ?_, fun c hc hk => ?_, fun c hc => ?_⟩
      · rw [List.take_add_one, List.getElem?_eq_getElem hil]
        exact runRow_snoc e1 hs
      · unfold putF1
        split
        · rename_i z; rw [z]
        · exact e2 c hc hk
      · unfold putF1
        split
        · rename_i z; rw [z]
        · rename_i z
          rw [List.take_add_one, List.getElem?_eq_getElem hil] at hc
          rcases List.mem_append.mp hc with hc | hc
          · exact e3 c hc
          · exact absurd (by simpa using hc) z
  obtain ⟨g, e1, e2, e3⟩ := key R.length (Nat.le_refl _)
  rw [List.take_length] at e1 e3
  refine ⟨g, e1, fun c hc => ?_⟩
  cases h : knP es c with
  | true => exact e2 c hc h
  | false => exact e3 c ((hR c).mpr ⟨hc, h⟩)
/-- what comes of another stand of a known cell -/
def gK (rs : List RoomD) (es : List Ent) (aim k : Cell) (o : Int) : Int := wv rs (putE es k o) aim
theorem kn_put {es : List Ent} {k : Cell} {o : Int} (h : knP es k = true) (c : Cell) : knP (putE es k o) c = knP es c := by
  rw [knP_putE]
  by_cases z : c = k
  · subst z
    rw [h]
    rfl
  · rw [decide_eq_false z, Bool.or_false]
theorem stF_put {rs : List RoomD} {es : List Ent} {k : Cell} {o : Int} (c : Cell) : stF rs (putE es k o) c = if c = k then o else stF rs es c := by
  unfold stF
  rw [lkP_putE]
  split <;> rfl
structure SwayPlan (P : Program) (w : World) (rs : List RoomD) (aim : Cell) (es : List Ent) (U R : List Cell) (lot : List Int) : Prop where
  si : SwayIn P w rs aim.1 aim.2 es U R lot (gK rs es aim)
  ub : ∀ c ∈ U, 0 ≤ c.2
theorem sway_plan {P : Program} {w : World} {rs : List RoomD} (hw : OkWeb rs) {es : List Ent} {m : Nat} (pb : ∀ e ∈ es, e.1 ∈ boxL rs.length m) (pv : PinsOk rs es) (pn : (es.map (·.1)).Nodup) (hm : m ≤ 61) (A : Apart P w rs.length m) {aim : Cell} (ha : aim ∈ boxL rs.length m) (hc : (rs.length : Int) * aim.2 ≤ 60) :
    ∃ U R lot, SwayPlan P w rs aim es U R lot := by
  obtain ⟨hi, h0, h1⟩ := box_in.mp ha
  have hk0 : ∀ c : Cell, c.2 = 0 → knP es c = true := fun c z => knP_iff.mpr (.inl z)
  obtain ⟨U, hU, hUs⟩ := uok_ex hw (kn := knP es) hi h0 (by omega) hk0
  obtain ⟨lot, hl⟩ := lot_ex hw hi
  have hUb : ∀ c ∈ U, c ∈ boxL rs.length m := fun c hc => by
    obtain ⟨a, b, e⟩ := need_bd hw hi h0 hk0 (hU.nr c hc)
    exact box_in.mpr ⟨a, b, by omega⟩
  have hU0 : ∀ c ∈ U, 0 ≤ c.2 := fun c hc => (box_in.mp (hUb c hc)).2.1
  obtain ⟨R, pm, ps⟩ := sort_ex swapC (U.filter fun c => !knP es c)
  refine ⟨U, R, lot, ⟨hw, hi, h0, by omega, ?_, hl, ?_, hU, hUs, pm, ps, ?_, fun c hc => ?_, fun k hk o o0 o1 => ?_⟩, hU0⟩
  · have := box_len1 pn pb
    have h2 : rs.length * m ≤ 12 * 61 := Nat.mul_le_mul hw.2.1 hm
    omega
  · have := (cntC_le (rs := rs) (kn := knP es) (c := (aim.1, aim.2)) hi aim.2.toNat).2
    rw [Int.toNat_of_nonneg h0] at this
    exact Int.le_trans this hc
  · exact A.nd (hU.nd.filter _) fun c hc => hUb c (List.mem_filter.mp hc).1
  · exact stF_bd hw pv (hU.inr c (List.mem_filter.mp hc).1)
  · obtain ⟨kU, kk⟩ := List.mem_filter.mp hk
    obtain ⟨g, e1, e2⟩ := run_row hw (pv.put o0 o1) (kn_put kk) hU hU0 pm ps (f := putF1 (f0F rs es (U.filter (knP es))) k o) fun c hc hkc => by
      rw [wv_kn (hU0 c hc) (by rw [kn_put kk]; exact hkc), stF_put]
      unfold putF1 f0F
      by_cases z : c = k
      · rw [if_pos z, if_pos z]
      · rw [if_neg z, if_neg z, if_pos (List.mem_filter.mpr ⟨hc, hkc⟩)]
    exact ⟨g, e1, e2 _ hU.m0⟩
/-! ### what is told of the sways -/
theorem leastO_eq (G : Int → Int) (s0 : Int) (n : Nat) : (leastO G s0 n = none ∧ ∀ i : Nat, i < n → (i : Int) ≠ s0 → G i = G s0) ∨ ∃ i : Nat, i < n ∧ (i : Int) ≠ s0 ∧ G i ≠ G s0 ∧ leastO G s0 n = some ((i : Int), G i) := by
  unfold leastO
  cases e : (List.range n).find? (fun o : Nat => decide ((o : Int) ≠ s0) && decide (G o ≠ G s0)) with
  | none =>
    refine .inl ⟨rfl, fun i hi hs => ?_⟩
    have := List.find?_eq_none.mp e i (List.mem_range.mpr hi)
    rw [Bool.and_eq_true, decide_eq_true_iff, decide_eq_true_iff] at this
    exact Classical.byContradiction fun y => this ⟨hs, y⟩
  | some o =>
    have h1 := List.find?_some e
    have h2 := List.mem_range.mp (List.mem_of_find?_eq_some e)
    rw [Bool.and_eq_true, decide_eq_true_iff, decide_eq_true_iff] at h1
    exact .inr ⟨o, h2, h1.1, h1.2, rfl⟩
theorem leastO_some {G : Int → Int} {s0 : Int} {n : Nat} {ot : Int × Int} (h : leastO G s0 n = some ot) : 0 ≤ ot.1 ∧ ot.1 < n ∧ ot.1 ≠ s0 ∧ ot.2 = G ot.1 ∧ G ot.1 ≠ G s0 := by
  rcases leastO_eq G s0 n with ⟨e, _⟩ | ⟨i, h1, h2, h3, e⟩
  · rw [e] at h
    cases h
  · rw [e] at h
    cases h
    exact ⟨by dsimp only; omega, by dsimp only; omega, h2, rfl, h3⟩
theorem leastO_none {G : Int → Int} {s0 : Int} {n : Nat} (h : leastO G s0 n = none) {o : Int} (o0 : 0 ≤ o) (o1 : o < n) : G o = G s0 := by
  rcases leastO_eq G s0 n with ⟨_, e⟩ | ⟨i, h1, h2, h3, e⟩
  · obtain ⟨i, rfl⟩ := Int.eq_ofNat_of_zero_le o0
    by_cases z : (i : Int) = s0
    · rw [z]
    · exact e i (by omega) z
  · rw [e] at h
    cases h
theorem gK_self {rs : List RoomD} {es : List Ent} {aim k : Cell} (h0 : 0 ≤ aim.2) (hk : knP es k = true) (k0 : 0 ≤ k.2) (hU : ∀ c : Cell, 0 ≤ c.2 → True) : gK rs es aim k (stF rs es k) = wv rs es aim := by
  unfold gK
  have hst : ∀ c : Cell, stF rs (putE es k (stF rs es k)) c = stF rs es c := fun c => by
    rw [stF_put]
    split
    · rename_i z; rw [z]
    · rfl
  have key : ∀ (n : Nat) (r : Int), stP rs (putE es k (stF rs es k)) n r = stP rs es n r := fun n => by
    induction n with
    | zero => exact fun r => hst (r, 0)
    | succ n ih =>
      intro r
      by_cases z : ((r, ((n + 1 : Nat) : Int)) : Cell) = k
      · have e1 : knP (putE es k (stF rs es k)) (r, ((n + 1 : Nat) : Int)) = true := by rw [kn_put hk, z]; exact hk
        have e2 : knP es (r, ((n + 1 : Nat) : Int)) = true := by rw [z]; exact hk
        have a1 := wv_kn (rs := rs) (by show (0 : Int) ≤ ((n + 1 : Nat) : Int); omega) e1
        have a2 := wv_kn (rs := rs) (by show (0 : Int) ≤ ((n + 1 : Nat) : Int); omega) e2
        rw [hst, ← a2] at a1
        exact a1
      · unfold stP
        rw [lkP_putE, if_neg z, List.map_congr_left fun x _ => ih x]
  exact key _ _
theorem wv_out {rs : List RoomD} {es : List Ent} {aim s : Cell} {v : Int} {U : List Cell} (hU : UOk rs (knP es) aim U) (h0 : 0 ≤ aim.2) (hs : s ∉ U) : wv rs (putE es s v) aim = wv rs es aim :=
  (wv_dep (fun c => c ∈ U) (fun c hc hk h hh => hU.cl c hc hk h hh) (fun c hc => by rw [lkP_putE, if_neg fun z : c = s => hs (z ▸ hc)]) h0 hU.m0).symm
theorem sway_mem {rs : List RoomD} {es : List Ent} {U : List Cell} {aim : Cell} {l : List Int} (hb : ∀ c ∈ U, 0 ≤ c.2) (h0 : 0 ≤ aim.2) (hin : ∀ c ∈ U, InR rs c.1) (hw : OkWeb rs) (h : l ∈ swayF rs es (U.filter (knP es)) (gK rs es aim)) :
    ∃ k o t, l = [k.1, k.2, o, t] ∧ k ∈ U ∧ knP es k = true ∧ 0 ≤ o ∧ o < (rAt rs k.1).size ∧ o ≠ stF rs es k ∧ t = wv rs (putE es k o) aim ∧ t ≠ wv rs es aim := by
  unfold swayF at h
  obtain ⟨k, hk, e⟩ := List.mem_filterMap.mp h
  obtain ⟨ot, e1, rfl⟩ := Option.map_eq_some_iff.mp e
  obtain ⟨kU, kk⟩ := List.mem_filter.mp hk
  obtain ⟨a1, a2, a3, a4, a5⟩ := leastO_some e1
  refine ⟨k, ot.1, ot.2, rfl, kU, kk, a1, ?_, a3, a4, ?_⟩
  · have := (ok_room hw (hin k kU)).2.2.2.1
    omega
  · rw [a4]
    intro z
    refine a5 ?_
    rw [gK_self h0 kk (hb k kU) fun _ _ => trivial]
    exact z
theorem sway_else {rs : List RoomD} {es : List Ent} {U : List Cell} {aim s : Cell} {v : Int} (hb : ∀ c ∈ U, 0 ≤ c.2) (h0 : 0 ≤ aim.2) (hU : UOk rs (knP es) aim U) (hw : OkWeb rs) (hv : 0 ≤ v ∧ v < (rAt rs s.1).size) (hn : ∀ l ∈ swayF rs es (U.filter (knP es)) (gK rs es aim), l.take 2 ≠ [s.1, s.2]) (hk : knP es s = true ∨ s ∉ U) :
    wv rs (putE es s v) aim = wv rs es aim := by
  by_cases hs : s ∈ U
  · have kk : knP es s = true := hk.elim id fun z => absurd hs z
    cases e : leastO (gK rs es aim s) (stF rs es s) (rAt rs s.1).size.toNat with
    | none =>
      have := leastO_none e hv.1 (by have := hv.2; omega)
      rw [gK_self h0 kk (hb s hs) fun _ _ => trivial] at this
      exact this
    | some ot =>
      have : [s.1, s.2, ot.1, ot.2] ∈ swayF rs es (U.filter (knP es)) (gK rs es aim) := by
        unfold swayF
        exact List.mem_filterMap.mpr ⟨s, List.mem_filter.mpr ⟨hs, kk⟩, by rw [e]; rfl⟩
      exact absurd rfl (hn _ this)
  · exact wv_out hU h0 hs
/-! ### the way of a seen cell -/
theorem layS_mem {rs : List RoomD} {d : HouseD} {c : Cell} {i : Nat} {a : Cell} : a ∈ layS rs d c (i + 1) ↔ ∃ b ∈ layS rs d c i, a ∈ askF rs d b := by
  have key : ∀ (l acc : List Cell), a ∈ l.foldl (fun acc b => (askF rs d b).foldl addC acc) acc ↔ a ∈ acc ∨ ∃ b ∈ l, a ∈ askF rs d b := fun l => by
    induction l with
    | nil => intro acc; simp
    | cons b l ih =>
      intro acc
      rw [List.foldl_cons, ih, addAll_mem]
      simp [or_assoc]
  show a ∈ (layS rs d c i).foldl _ [] ↔ _
  rw [key]
  simp
theorem layS_nd {rs : List RoomD} {d : HouseD} {c : Cell} : ∀ i, (layS rs d c i).Nodup
  | 0 => List.pairwise_singleton ..
  | i + 1 => by
    have key : ∀ (l acc : List Cell), acc.Nodup → (l.foldl (fun acc b => (askF rs d b).foldl addC acc) acc).Nodup := fun l => by
      induction l with
      | nil => exact fun acc h => h
      | cons b l ih => exact fun acc h => ih _ (addAll_nd h)
    exact key _ _ List.nodup_nil
theorem least_ex {p : Nat → Prop} {n : Nat} (h : p n) : ∃ k, k ≤ n ∧ p k ∧ ∀ i, i < k → ¬ p i := by
  classical
  induction n using Nat.strongRecOn with
  | _ n ih =>
    by_cases z : ∃ i, i < n ∧ p i
    · obtain ⟨i, hi, hp⟩ := z
      obtain ⟨k, a, b, c⟩ := ih i hi hp
      exact ⟨k, by omega, b, c⟩
    · exact ⟨n, Nat.le_refl _, h, fun i hi hp => z ⟨i, hi, hp⟩⟩
theorem layS_up {rs : List RoomD} {d : HouseD} {c e : Cell} (he : e ∈ askF rs d c) : ∀ n a, a ∈ layS rs d e n → a ∈ layS rs d c (n + 1)
  | 0, a, h => by
    have : a = e := List.mem_singleton.mp h
    subst this
    exact layS_mem.mpr ⟨c, List.mem_singleton.mpr rfl, he⟩
  | n + 1, a, h => by
    obtain ⟨b, hb, ha⟩ := layS_mem.mp h
    exact layS_mem.mpr ⟨b, layS_up he n b hb, ha⟩
section
variable {rs : List RoomD} {m : Nat} {d : HouseD}
theorem HInv.climb (I : HInv rs m d) : ∀ (k : Nat) (c : Cell), seenH d c = true → (m : Int) - c.2 ≤ k → ∃ n, n ≤ k ∧ ∃ e ∈ layS rs d c n, e ∈ d.looked
  | 0, c, h, hk => by
    have := (box_in.mp (I.seen_kH h).1).2.2
    omega
  | k + 1, c, h, hk => by
    by_cases hl : c ∈ d.looked
    · exact ⟨0, by omega, c, List.mem_singleton.mpr rfl, hl⟩
    · have hh : c ∈ d.heard := by
        rcases seenH_iff.mp h with h | h | h
        · exact absurd h hl
        · obtain ⟨e, he, rfl⟩ := List.mem_map.mp h
          exact (I.ry e he).elim (fun z => absurd z hl) id
        · exact h
      obtain ⟨e, he, hce⟩ := I.hy c hh
      obtain ⟨g1, g2⟩ := heard_in.mp hce
      have hs : seenH d e.1 = true := seenH_iff.mpr (.inr (.inl (List.mem_map_of_mem he)))
      obtain ⟨n, hn, a, ha, hal⟩ := HInv.climb I k e.1 hs (by omega)
      refine ⟨n + 1, by omega, a, layS_up ?_ n a ha, hal⟩
      unfold askF
      obtain ⟨ei, _, _⟩ := box_in.mp (I.rb e he).1
      refine List.mem_filter.mpr ⟨List.mem_map.mpr ⟨e.1.1.toNat, List.mem_range.mpr (by have := ei.1; have := ei.2; omega), Prod.ext ?_ ?_⟩, ?_⟩
      · show ((e.1.1.toNat : Nat) : Int) = e.1.1
        have := ei.1
        omega
      · show c.2 + 1 = e.1.2
        omega
      · rw [Bool.and_eq_true, decide_eq_true_iff, decide_eq_true_iff, I.ak]
        exact ⟨List.mem_map_of_mem he, hce⟩
theorem HInv.way (I : HInv rs m d) (hw : OkWeb rs) (hm : m ≤ 61) {c : Cell} (h : seenH d c = true) : ∃ n, n ≤ 500 ∧ (∀ i, i ≤ n → (layS rs d c i).length ≤ 100000 ∧ layS rs d c i ≠ []) ∧ (∀ i, i < n → ∀ e ∈ layS rs d c i, e ∉ d.looked) ∧ ∃ e ∈ layS rs d c n, e ∈ d.looked := by
  have hb := box_in.mp (I.seen_kH h).1
  obtain ⟨n0, hn0, hp⟩ := I.climb m c h (by omega)
  obtain ⟨n, hn, ⟨e, he, hel⟩, hno⟩ := least_ex (p := fun n => ∃ e ∈ layS rs d c n, e ∈ d.looked) hp
  have bx : ∀ i, ∀ a ∈ layS rs d c i, a ∈ boxL rs.length m := fun i a ha => by
    cases i with
    | zero => rw [List.mem_singleton.mp ha]; exact (I.seen_kH h).1
    | succ i =>
      obtain ⟨b, _, hab⟩ := layS_mem.mp ha
      unfold askF at hab
      have h2 := (List.mem_filter.mp hab).2
      rw [Bool.and_eq_true, decide_eq_true_iff, I.ak] at h2
      obtain ⟨e, he, rfl⟩ := List.mem_map.mp h2.1
      exact (I.rb e he).1
  refine ⟨n, by omega, fun i hi => ⟨?_, fun z => ?_⟩, fun i hi a ha hal => hno i hi ⟨a, ha, hal⟩, e, he, hel⟩
  · have := box_len (layS_nd i) (bx i)
    have h2 : rs.length * m ≤ 12 * 61 := Nat.mul_le_mul hw.2.1 hm
    omega
  · have emp : ∀ k, layS rs d c (i + k) = [] := fun k => by
      induction k with
      | zero => exact z
      | succ k ih =>
        refine List.eq_nil_iff_forall_not_mem.mpr fun a ha => ?_
        obtain ⟨b, hb, _⟩ := layS_mem.mp ha
        have hb : b ∈ layS rs d c (i + k) := hb
        rw [ih] at hb
        cases hb
    have := emp (n - i)
    rw [show i + (n - i) = n by omega] at this
    rw [this] at he
    cases he
end
end S
set_option Elab.async false
set_option linter.all false
set_option maxRecDepth 100000
set_option maxHeartbeats 4000000
/-! # House.poke where it raises Seen -/
namespace S
open PySem PySem.Spec PyProof.Rows L2 G LamX NdefX SrtO
abbrev bmR : List Value := [.type "RuntimeError", .type "Exception", .type "BaseException", .type "object"]
abbrev SNx (K : PySem.W.Frag) (mg : Str → Option Value) : Prop := ExW.ExTxt K mg (cSeen K) (He.ma K (cSeen K) "__init__") "Seen" "way" bmR "RuntimeError.__new__"
def spPokeSeen (K : PySem.W.Frag) : Sp := fun vs H Q E => ∃ (A : HA) (rs : List RoomD) (d : HouseD) (room beat v : Int) (n : Nat), vs = [.ref A.x, .int room, .int beat, .int v] ∧ HC K H A rs d false ∧ OkWeb rs ∧ InR rs room ∧ 0 ≤ beat ∧ beat ≤ 10 ^ 60 ∧ 0 ≤ v ∧ v < (rAt rs room).size ∧
  seenH d (room, beat) = true ∧ kH d (room, beat) = true ∧ stH rs d (room, beat) ≠ v ∧ d.kept = [] ∧ n ≤ 500 ∧ (∀ i, i ≤ n → (layS rs d (room, beat) i).length ≤ 100000 ∧ layS rs d (room, beat) i ≠ []) ∧ (∀ i, i < n → ∀ e ∈ layS rs d (room, beat) i, e ∉ d.looked) ∧ (∃ e ∈ layS rs d (room, beat) n, e ∈ d.looked) ∧
  ∀ H' dd tp bs (cs : List Cell), Same H H' → H dd = none → H tp = none → H' dd = some (.xd [("way", .ref tp)]) → H' tp = some (.tup (bs.map V.ref)) → TupsAt H' (cs.map cV) bs → (∃ a, cs.head? = some a ∧ a ∈ d.looked) → cs.getLast? = some (room, beat) → E (.ref (cSeen K)) (some dd) H'
section
variable {P : Program} {w : World} {K : PySem.W.Frag} {mg : Str → Option Value} {base : Heap}
theorem ok_H_poke_seen (T : Tx K mg) (SN : SNx K mg) : ML P w K mg base (L2.CX P w) 6 (cHouse K) "poke" ["self", "room", "beat", "stand"] (spPokeSeen K) := by
  have GF := ok_H_look_free (P := P) (w := w) (base := base) T
  have GC := ok_look_cell (P := P) (w := w) (base := base) T
  have GL := ok_look_stand (P := P) (w := w) (base := base) T
  have GG := ok_H_look_forgotten (P := P) (w := w) (base := base) T
  have GS := ok_H_is_seen (P := P) (w := w) (base := base) T
  have GA := ok_H_at_cell (P := P) (w := w) (base := base) T
  have GW := ok_H_way_seen (P := P) (w := w) (base := base) T
  have nd := sc_House_poke.nd
  refine ML.ofX T.d_House_poke T.c_House T.t_House_poke sc_House_poke b_House_poke (fun vs H Q E h => ?_) (fun f cdv A' outer s H vs Q E hr h => ?_)
  · obtain ⟨A, rs, d, room, beat, v, n, rfl, _⟩ := h; rfl
  · obtain ⟨A, rs, d, room, beat, v, n, rfl, hH, hok, hin, hb0, hb1, v0, v1, hs, hk, hv, hkp, hn, l1, l2, l3, k⟩ := h
    refine ⟨_, (pss_cons (ps_expr (pe_ml0 GF hr (by decide) pass0 (pv 0)))
      (pss_cons (ps_expr (pe_cl GC hr (by decide) pass0 (pa_cons (pe_fld (pv 0) rfl) (pa_cons (pv 1) (pa_cons (pv 2) pa_nil)))))
      (pss_cons (ps_expr (pe_cl GL hr (by decide) pass0 (pa_cons (pe_fld (pv 0) rfl) (pa_cons (pv 1) (pa_cons (pv 3) pa_nil)))))
      (pss_cons (ps_set (i := 4) nd rfl (Or.inl rfl) (pe_tup (pa_cons (pv 1) (pa_cons (pv 2) pa_nil))))
      (pss_cons (ps_expr (pe_ml GG hr (by decide) pass0 (pv 0) (pa_cons (pv 4) pa_nil)))
      (pss_cons (ps_if (pt_not (pt_val (pe_ml GS hr (by decide) pass0 (pv 0) (pa_cons (pv 4) pa_nil)))) pss_never pss_nil)
      (pss_cons (ps_if (pt_cmpR op_ne (pe_ml GA hr (by decide) pass0 (pv 0) (pa_cons (pv 4) pa_nil)) (pv 3) (nomark _)) (pss_one (ps_raise rfl (takes_of rfl rfl rfl rfl) (pmk_way SN PySem.F.excBase_RuntimeError PySem.F.store_RuntimeError hr (pa_cons (pe_callTy call_tuple_of (by rfl) T.f_tuple (by decide +kernel) (pa_cons (pe_ml GW hr (by decide) pass0 (pv 0) (pa_cons (pv 4) pa_nil)) pa_nil)) pa_nil) rfl))) pss_nil)
      (pss_one (ps_ret pe_bl))))))))), ?_⟩
    obtain ⟨i0, i1⟩ := id hin
    refine ⟨_, rfl, _, _, _, rfl, hH.ob, hf_m, A, rs, d, rfl, hH, ?_⟩
    refine ⟨_, rfl, _, _, _, _, _, rfl, hH.ob, T.c_House, T.n_House_of_web, hf_web, _, rfl, _, rfl, A.wb, rs, room, beat, rfl, hH.wb, i0, i1, hb0, hb1, ?_⟩
    refine ⟨_, rfl, _, _, _, _, _, rfl, hH.ob, T.c_House, T.n_House_of_web, hf_web, _, rfl, _, rfl, A.wb, rs, room, v, rfl, hH.wb, hin, v0, v1, ?_⟩
    refine ⟨_, rfl, _, rfl, (by show 2 ≤ sizeLine; decide), fun t ht => ?_⟩
    have s1 : Same H (upd H t (.tup [.int room, .int beat])) := same_new (Same.refl _) ht
    have ht1 : (upd H t (.tup [.int room, .int beat])) t = some (.tup (cV (room, beat))) := upd_same
    generalize upd H t (.tup [.int room, .int beat]) = H1 at s1 ht1 ⊢
    have hH1 := hH.same s1
    refine ⟨_, rfl, _, _, _, rfl, hH1.ob, hf_m, _, rfl, A, t, rs, d, false, (room, beat), rfl, hH1, ht1, hin, ?_⟩
    refine ⟨_, rfl, _, _, _, rfl, hH1.ob, hf_m, _, rfl, A, t, rs, d, false, (room, beat), rfl, hH1, ht1, hin, _, rfl, ?_⟩
    rw [hs]
    refine iteF ?_
    refine ⟨_, rfl, _, _, _, rfl, hH1.ob, hf_m, _, rfl, A, t, rs, d, false, (room, beat), rfl, hH1, ht1, hin, hk, _, rfl, rfl, _, rfl, ?_⟩
    rw [dV]
    refine iteNDF hv ?_
    refine ⟨_, rfl, _, _, _, rfl, hH1.ob, hf_m, _, rfl, A, t, rs, d, false, (room, beat), n, rfl, hH1, hok, ht1, hkp, hn, l1, l2, l3, fun H2 p bs cs s2 np hp ht2 hh hl => ?_⟩
    refine ⟨p, _, rfl, .inl ⟨SqL.of hp, fun l nl => ⟨_, rfl, fun dd hd => ?_⟩⟩⟩
    have s3 : Same H2 (upd H2 l (.tup (bs.map V.ref))) := same_new (Same.refl _) nl
    have h3 : (upd H2 l (.tup (bs.map V.ref))) l = some (.tup (bs.map V.ref)) := upd_same
    have s4 : Same (upd H2 l (.tup (bs.map V.ref))) (upd (upd H2 l (.tup (bs.map V.ref))) dd (.xd [("way", .ref l)])) := same_new (Same.refl _) hd
    have s02 : Same H H2 := s1.trans s2
    exact k _ dd l bs cs (s02.trans (s3.trans s4)) (none_same s02 (none_same s3 hd)) (none_same s02 nl) upd_same (s4 _ _ h3) (TupsAt.same ht2 fun b t e => s4 _ _ (s3 _ _ e)) hh hl
end
end S
set_option Elab.async false
set_option linter.all false
set_option maxRecDepth 100000
set_option maxHeartbeats 4000000
/-! # the law's bag, take -/
namespace S
open PySem PySem.Spec PyProof.Rows L2 G
def BagL (L : List V) : Prop := ∃ g w n : Int, L = [.int g, .int w, .int n] ∧ 0 ≤ g ∧ 0 ≤ w ∧ w < 2147483648
def BagAt (H : Hp) (p : Addr) : Prop := ∃ L, H p = some (.lst L) ∧ BagL L
section
variable {P : Program} {w : World} {K : PySem.W.Frag} {mg : Str → Option Value} {base : Heap}
theorem ok_L_bag (T : Tx K mg) : CL P w K mg base CX0 1 "_law_bag" ["_law_script", "_law_at"] (fun vs H Q _ => ∃ (a : Addr) (sc : List Int) (i : Int), vs = [.ref a, .int i] ∧ SqL K H a (nsv sc) ∧ 0 ≤ i ∧ i ≤ 4 ∧ ∀ H' p, Same H H' → H p = none → BagAt H' p → Q (.ref p) H') := by
  have nd := sc_L_bag.nd
  refine CL.of0 T.d_L_bag T.g_L_bag sc_L_bag b_L_bag (fun vs H Q E h => ?_) (fun f cdv A outer s H vs Q E hr h => ?_)
  · obtain ⟨a, sc, i, rfl, _⟩ := h; rfl
  · obtain ⟨a, sc, i, rfl, ha, i0, i2, k⟩ := h
    refine ⟨_, pss_cons (ps_set (i := 2) nd rfl (Or.inl rfl) pe_int)
      (C8.pss_cut (ps_if (pt_cmpR op_lt (pv 1) (pe_callB call_len_seq (by rfl) T.f_len PySem.boot_len (pa_cons (pv 0) pa_nil)) (nomark _)) (pss_one (ps_set (i := 2) nd rfl (Or.inl rfl) (pe_ix ix_list (pv 0) (pv 1) (fun _ _ => rfl)))) pss_nil)
      (pss_cons (ps_set (i := 3) nd rfl (Or.inl rfl) pe_int)
      (C8.pss_cut (ps_if (pt_cmpR op_ge (pe_callB call_abs (by rfl) T.f_abs (by decide +kernel) (pa_cons (pv 2) pa_nil)) (pe_op op_pow pe_int pe_int) (nomark _)) (pss_one (ps_set (i := 3) nd rfl (Or.inl rfl) (pe_callB call_abs (by rfl) T.f_abs (by decide +kernel) (pa_cons (pv 2) pa_nil)))) pss_nil)
      (pss_cons (ps_set (i := 4) nd rfl (Or.inl rfl) (pe_lst (pa_cons pe_int (pa_cons pe_int (pa_cons pe_int (pa_cons pe_int (pa_cons pe_int (pa_cons pe_int (pa_cons pe_int (pa_cons pe_int pa_nil))))))))))
      (pss_one (ps_ret (pe_lst (pa_cons (pv 3) (pa_cons (pe_op op_mod (pe_op op_pow (pe_op op_add (pe_op op_add (pe_op op_mod (pv 2) pe_int) (pe_op op_mul pe_int (pv 1))) pe_int) pe_int) (pe_ix ix_list (pv 4) (pe_op op_mod (pv 1) pe_int) (fun _ _ => rfl))) (pa_cons pe_int pa_nil)))))))))), ?_⟩
    refine ⟨fun σ H' => H' = H ∧ ∃ cell : Int, σ = [some (.ref a), some (.int i), some (.int cell), none, none], ?_, ?_⟩
    · refine ⟨_, rfl, _, rfl, _, _, rfl, .inl ha, _, _, rfl, rfl, _, rfl, ?_⟩
      refine ite2 (fun h => ?_) (fun h => ⟨rfl, 0, rfl⟩)
      have h := of_decide_eq_true h
      rw [List.length_map] at h
      obtain ⟨j, rfl⟩ := Int.eq_ofNat_of_zero_le i0
      have hj : j < sc.length := by omega
      exact ⟨_, rfl, _, rfl, _, _, _, .int sc[j], rfl, rfl, ha, atI_nat (by rw [List.getElem?_map, List.getElem?_eq_getElem hj]; rfl), rfl, _, rfl⟩
    · rintro σ H' ⟨rfl, cell, rfl⟩
      refine ⟨fun σ H1 => H1 = H' ∧ ∃ great : Int, 0 ≤ great ∧ σ = [some (.ref a), some (.int i), some (.int cell), some (.int great), none], ?_, ?_⟩
      · refine ⟨_, rfl, _, rfl, _, _, rfl, rfl, ⟨by decide, by decide, by decide⟩, _, _, rfl, rfl, _, rfl, ?_⟩
        refine ite2 (fun h => ?_) (fun h => ⟨rfl, 0, Int.le_refl _, rfl⟩)
        exact ⟨_, rfl, _, rfl, rfl, _, by split <;> omega, rfl⟩
      · rintro σ H1 ⟨rfl, great, hg, rfl⟩
        refine ⟨(by show 8 ≤ sizeLine; decide), fun l hl => ?_⟩
        have hm0 : 0 ≤ cell % 2147483647 := Int.emod_nonneg _ (by decide)
        have hm1 : cell % 2147483647 < 2147483647 := Int.emod_lt_of_pos _ (by decide)
        refine ⟨_, rfl, _, rfl, _, _, rfl, rfl, (by show (0 : Int) < 2147483647; decide), _, rfl, _, _, rfl, rfl, .inl ⟨by decide, by decide⟩, _, _, rfl, rfl, _, _, rfl, rfl, _, _, rfl, rfl, ⟨by decide, by decide, by omega⟩, ?_⟩
        have h8 : ∃ q : Int, atI [V.int 2147483629, V.int 2147483587, V.int 2147483579, V.int 2147483563, V.int 2147483549, V.int 2147483543, V.int 2147483497, V.int 2147483489] (i % 8) = some (.int q) ∧ 0 < q ∧ q < 2147483648 := by
          have : i = 0 ∨ i = 1 ∨ i = 2 ∨ i = 3 ∨ i = 4 := by omega
          rcases this with rfl | rfl | rfl | rfl | rfl
          · exact ⟨_, rfl, by decide, by decide⟩
          · exact ⟨_, rfl, by decide, by decide⟩
          · exact ⟨_, rfl, by decide, by decide⟩
          · exact ⟨_, rfl, by decide, by decide⟩
          · exact ⟨_, rfl, by decide, by decide⟩
        obtain ⟨q, hq, q0, q1⟩ := h8
        refine ⟨_, rfl, _, rfl, _, _, rfl, rfl, (by show (0 : Int) < 8; decide), _, _, _, _, rfl, rfl, SqL.of upd_same, hq, _, _, rfl, rfl, q0, (by show 3 ≤ sizeLine; decide), fun p hp => ?_⟩
        refine k _ p (same_new (same_new (Same.refl _) hl) (by rw [upd_ne (fun z => by rw [z, upd_same] at hp; cases hp)] at hp; exact hp)) (by rw [upd_ne (fun z => by rw [z, upd_same] at hp; cases hp)] at hp; exact hp) ⟨_, upd_same, _, _, _, rfl, hg, Int.emod_nonneg _ (by omega), Int.lt_trans (Int.emod_lt_of_pos _ q0) q1⟩
def spTake : Sp := fun vs H Q _ => ∃ (p : Addr) (m : Int), vs = [.ref p, .int m] ∧ BagAt H p ∧ 0 < m ∧ m.natAbs < 2 ^ 200 ∧ ∀ d L, 0 ≤ d → d < m → BagL L → Q (.int d) (upd H p (.lst L))
theorem ok_L_take (T : Tx K mg) : CL P w K mg base CX0 1 "_law_take" ["_law_bag_here", "_law_many"] spTake := by
  have nd := sc_L_take.nd
  refine CL.of0 T.d_L_take T.g_L_take sc_L_take b_L_take (fun vs H Q E h => ?_) (fun f cdv A outer s H vs Q E hr h => ?_)
  · obtain ⟨p, m, rfl, _⟩ := h; rfl
  · obtain ⟨p, m, rfl, ⟨_, hp, g, w, n, rfl, g0, w0, w1⟩, m0, m1, k⟩ := h
    refine ⟨_, pss_cons (ps_if (pt_cmpR op_gt (pe_ix ix_list (pv 0) pe_int (fun _ _ => rfl)) pe_int (nomark _))
        (pss_cons (ps_set (i := 2) nd rfl (Or.inl rfl) (pe_op op_mod (pe_ix ix_list (pv 0) pe_int (fun _ _ => rfl)) (pv 1)))
        (pss_cons (ps_asg (pe_op op_fdivW (pe_ix ix_list (pv 0) pe_int (fun _ _ => rfl)) (pv 1)) (pg_sub (pv 0) pe_int set_list))
        (pss_one (ps_ret (pv 2))))) pss_nil)
      (pss_cons (ps_asg (pe_op op_add (pe_ix ix_list (pv 0) pe_int (fun _ _ => rfl)) pe_int) (pg_sub (pv 0) pe_int set_list))
      (pss_cons (ps_asg (pe_op op_mod (pe_op op_add (pe_op op_add (pe_op op_mul (pe_ix ix_list (pv 0) pe_int (fun _ _ => rfl)) pe_int) (pe_op op_mul pe_int (pe_ix ix_list (pv 0) pe_int (fun _ _ => rfl)))) pe_int) pe_int) (pg_sub (pv 0) pe_int set_list))
      (pss_one (ps_ret (pe_op op_mod (pe_op op_mod (pe_op op_pow (pe_op op_fdiv (pe_ix ix_list (pv 0) pe_int (fun _ _ => rfl)) pe_int) pe_int) pe_int) (pv 1)))))), ?_⟩
    refine ⟨_, rfl, _, _, _, .int g, rfl, rfl, SqL.of hp, rfl, _, _, rfl, rfl, _, rfl, ?_⟩
    by_cases hg : 0 < g
    · refine iteDT hg ?_
      refine ⟨_, rfl, _, _, _, .int g, rfl, rfl, SqL.of hp, rfl, _, rfl, _, _, rfl, rfl, m0, ?_⟩
      refine ⟨_, rfl, _, _, _, .int g, rfl, rfl, SqL.of hp, rfl, _, rfl, _, _, rfl, rfl, wide_div m0 m1 (by decide) (by decide), _, rfl, _, _, _, 0, rfl, rfl, hp, rfl, ?_⟩
      exact ⟨_, rfl, k _ _ (Int.emod_nonneg _ (by omega)) (Int.emod_lt_of_pos _ m0) ⟨_, _, _, rfl, Int.ediv_nonneg g0 (by omega), w0, w1⟩⟩
    · refine iteDF hg ?_
      refine ⟨_, rfl, _, _, _, .int n, rfl, rfl, SqL.of hp, rfl, _, _, rfl, rfl, _, rfl, _, _, _, 2, rfl, rfl, hp, rfl, ?_⟩
      have h1 : (upd H p (.lst ([V.int g, V.int w, V.int n].set 2 (.int (n + 1))))) p = some (.lst [V.int g, V.int w, V.int (n + 1)]) := upd_same
      have x0 : 0 ≤ (w * 69621 + 6007 * (n + 1) + 19) % 2147483647 := Int.emod_nonneg _ (by decide)
      have x1 : (w * 69621 + 6007 * (n + 1) + 19) % 2147483647 < 2147483647 := Int.emod_lt_of_pos _ (by decide)
      refine ⟨_, rfl, _, _, _, .int w, rfl, rfl, SqL.of h1, rfl, _, _, rfl, rfl, .inr ⟨by decide, by decide⟩, _, rfl, _, _, _, .int (n + 1), rfl, rfl, SqL.of h1, rfl, _, _, rfl, rfl, .inl ⟨by decide, by decide⟩, _, _, rfl, rfl, _, _, rfl, rfl, _, _, rfl, rfl, (by show (0 : Int) < 2147483647; decide), _, rfl, _, _, _, 1, rfl, rfl, h1, rfl, ?_⟩
      rw [upd2]
      have h2 : (upd H p (.lst ([V.int g, V.int w, V.int (n + 1)].set 1 (.int ((w * 69621 + 6007 * (n + 1) + 19) % 2147483647))))) p = some (.lst [V.int g, V.int ((w * 69621 + 6007 * (n + 1) + 19) % 2147483647), V.int (n + 1)]) := upd_same
      refine ⟨_, rfl, _, _, _, .int _, rfl, rfl, SqL.of h2, rfl, _, _, rfl, rfl, ⟨by decide, by decide⟩, _, _, rfl, rfl, ⟨by decide, by decide, by omega⟩, _, _, rfl, rfl, (by show (0 : Int) < 2147483629; decide), _, rfl, _, _, rfl, rfl, m0, ?_⟩
      exact k _ _ (Int.emod_nonneg _ (by omega)) (Int.emod_lt_of_pos _ m0) ⟨_, _, _, rfl, g0, x0, by omega⟩
/-- all but the bag stays -/
def SameB (p : Addr) (H H' : Hp) : Prop := ∀ b o, b ≠ p → H b = some o → H' b = some o
theorem SameB.refl (p : Addr) (H : Hp) : SameB p H H := fun _ _ _ e => e
theorem SameB.trans {p : Addr} {H H1 H2 : Hp} (a : SameB p H H1) (b : SameB p H1 H2) : SameB p H H2 := fun c o n e => b c o n (a c o n e)
theorem SameB.of {p : Addr} {H H' : Hp} (s : Same H H') : SameB p H H' := fun b o _ e => s b o e
theorem SameB.bag {p : Addr} {H : Hp} {o : HO} : SameB p H (upd H p o) := fun b o' n e => by rw [upd_ne n]; exact e
theorem bag_upd {H : Hp} {p : Addr} {L : List V} (h : BagL L) : BagAt (upd H p (.lst L)) p := ⟨L, upd_same, h⟩
theorem BagAt.same {H H' : Hp} {p : Addr} (h : BagAt H p) (s : Same H H') : BagAt H' p := let ⟨L, a, b⟩ := h; ⟨L, s _ _ a, b⟩
theorem bag_none {H : Hp} {p q : Addr} {o : HO} (hb : BagAt H p) (e : upd H p o q = none) : H q = none := none_upd e
theorem nsv_set (l : List Int) (i : Nat) (v : Int) : (nsv l).set i (.int v) = nsv (l.set i v) := List.map_set.symm
end
end S
set_option Elab.async false
set_option linter.all false
set_option maxRecDepth 100000
set_option maxHeartbeats 4000000
/-! # the law's parts -/
namespace S
open PySem PySem.Spec PyProof.Rows L2 G LamX NdefX SrtO
/-- the parts' list: a tuple for each room -/
inductive PartsL (H : Hp) : List RoomD → List Addr → Prop
  | nil : PartsL H [] []
  | cons {r : RoomD} {rs : List RoomD} {a th tr : Addr} {as : List Addr} : H a = some (.tup [.ref th, .int r.size, .int r.first, .ref tr]) → H th = some (.tup (nsv r.hears)) → H tr = some (.tup (nsv r.rule)) → PartsL H rs as → PartsL H (r :: rs) (a :: as)
def PartsAt (H : Hp) (p : Addr) (rs : List RoomD) : Prop := ∃ as, H p = some (.lst (as.map V.ref)) ∧ PartsL H rs as
/-- a web of the law -/
def LawWeb (rs : List RoomD) : Prop := OkWeb rs ∧ rs.length ≤ 5 ∧ ∀ r ∈ rs, r.size ≤ 4
/-- the rooms that the law has made so far, of m rooms with so many stands -/
def prodW (vs l : List Int) : Int := l.foldl (fun f h => f * vs.getD h.toNat 0) 1
def Fit (m : Nat) (vs : List Int) (r : RoomD) : Prop := r.hears.length ≤ 3 ∧ (∀ h ∈ r.hears, 0 ≤ h ∧ h < m) ∧ r.hears.Nodup ∧ 0 ≤ r.first ∧ r.first < r.size ∧ (r.rule.length : Int) = prodW vs r.hears ∧ ∀ s ∈ r.rule, 0 ≤ s ∧ s < r.size
def FitL (m : Nat) (vs : List Int) (i : Nat) (rs : List RoomD) : Prop := rs.map (·.size) = vs.take i ∧ ∀ r ∈ rs, Fit m vs r
theorem fold_prod {rs : List RoomD} {vs : List Int} (e : rs.map (·.size) = vs) : ∀ (l : List Int) (f : Int), (∀ h ∈ l, 0 ≤ h ∧ h < vs.length) → l.foldl (fun f h => f * (rAt rs h).size) f = l.foldl (fun f h => f * vs.getD h.toNat 0) f
  | [], _, _ => rfl
  | h :: l, f, hl => by
    rw [List.foldl_cons, List.foldl_cons]
    have h1 := hl h (List.mem_cons_self ..)
    have e1 : (rAt rs h).size = vs.getD h.toNat 0 := by
      subst e
      rw [List.length_map] at h1
      unfold rAt
      rw [List.getD_eq_getElem?_getD, List.getD_eq_getElem?_getD, List.getElem?_map, List.getElem?_eq_getElem (by omega : h.toNat < rs.length)]
      rfl
    rw [e1]
    exact fold_prod e l _ fun x hx => hl x (List.mem_cons_of_mem _ hx)
theorem prodW_le {vs : List Int} (hv : ∀ x ∈ vs, 1 ≤ x ∧ x ≤ 4) : ∀ (l : List Int) (f B : Int), (∀ h ∈ l, 0 ≤ h ∧ h < vs.length) → 0 ≤ f → f ≤ B → 0 ≤ l.foldl (fun f h => f * vs.getD h.toNat 0) f ∧ l.foldl (fun f h => f * vs.getD h.toNat 0) f ≤ B * 4 ^ l.length
  | [], f, B, _, h0, h1 => by simpa using ⟨h0, h1⟩
  | h :: l, f, B, hl, h0, h1 => by
    have h2 := hl h (List.mem_cons_self ..)
    have hm : vs.getD h.toNat 0 ∈ vs := by
      rw [List.getD_eq_getElem?_getD, List.getElem?_eq_getElem (by omega : h.toNat < vs.length)]
      exact List.getElem_mem _
    obtain ⟨g0, g1⟩ := hv _ hm
    have ih := prodW_le hv l (f * vs.getD h.toNat 0) (B * 4) (fun x hx => hl x (List.mem_cons_of_mem _ hx)) (Int.mul_nonneg h0 (by omega)) (Int.mul_le_mul h1 g1 (by omega) (by omega))
    rw [List.foldl_cons, List.length_cons]
    refine ⟨ih.1, ?_⟩
    have : B * 4 * 4 ^ l.length = B * 4 ^ (l.length + 1) := by rw [Int.pow_succ, Int.mul_assoc, Int.mul_comm 4]
    rw [← this]
    exact ih.2
theorem FitL.web {m : Nat} {vs : List Int} {rs : List RoomD} (h : FitL m vs m rs) (vl : vs.length = m) (hv : ∀ x ∈ vs, 1 ≤ x ∧ x ≤ 4) (m1 : 1 ≤ m) (m5 : m ≤ 5) : LawWeb rs := by
  obtain ⟨h1, h2⟩ := h
  have e : rs.map (·.size) = vs := by rw [h1, ← vl, List.take_length]
  have hl : rs.length = m := by rw [← vl, ← e, List.length_map]
  have hs : ∀ r ∈ rs, 1 ≤ r.size ∧ r.size ≤ 4 := fun r hr => hv _ (by rw [← e]; exact List.mem_map_of_mem hr)
  refine ⟨⟨by omega, by omega, fun r hr => ?_⟩, by omega, fun r hr => (hs r hr).2⟩
  obtain ⟨a1, a2, a3, a4, a5, a6, a7⟩ := h2 r hr
  have hb : ∀ h ∈ r.hears, 0 ≤ h ∧ h < vs.length := fun x hx => by have := a2 x hx; omega
  have hp := prodW_le hv r.hears 1 1 hb (by decide) (by decide)
  have hp3 : (4 : Int) ^ r.hears.length ≤ 64 := by
    have : (4 : Nat) ^ r.hears.length ≤ 4 ^ 3 := Nat.pow_le_pow_right (by decide) a1
    have h2 : ((4 ^ r.hears.length : Nat) : Int) ≤ ((4 ^ 3 : Nat) : Int) := Int.ofNat_le.mpr this
    rw [Int.natCast_pow] at h2
    exact h2
  refine ⟨a1, fun x hx => by have := a2 x hx; omega, a3, ⟨(hs r hr).1, by have := (hs r hr).2; omega⟩, ⟨a4, by omega⟩, ?_, ?_, fun s hs' => by have := a7 s hs'; omega⟩
  · unfold rowsF
    rw [fold_prod e r.hears 1 hb]
    exact a6.symm
  · have : (r.rule.length : Int) ≤ 2000 := by
      rw [a6]
      unfold prodW
      omega
    omega
theorem erase_nsv : ∀ (l : List Int) (k : Nat), (nsv l).eraseIdx k = nsv (l.eraseIdx k)
  | [], _ => rfl
  | _ :: _, 0 => rfl
  | a :: l, k + 1 => congrArg (V.int a :: ·) (erase_nsv l k)
theorem erase_perm {α : Type} : ∀ (l : List α) (k : Nat) (h : k < l.length), (l[k] :: l.eraseIdx k).Perm l
  | _ :: _, 0, _ => List.Perm.refl _
  | a :: l, k + 1, h => (List.Perm.swap a _ _).trans (.cons a (erase_perm l k (Nat.lt_of_succ_lt_succ h)))
theorem PartsL.mono {H H' : Hp} (k : ∀ b t, H b = some (.tup t) → H' b = some (.tup t)) : ∀ {rs as}, PartsL H rs as → PartsL H' rs as
  | _, _, .nil => .nil
  | _, _, .cons a b c r => .cons (k _ _ a) (k _ _ b) (k _ _ c) (PartsL.mono k r)
theorem PartsL.app {H : Hp} : ∀ {rs as rs2 as2}, PartsL H rs as → PartsL H rs2 as2 → PartsL H (rs ++ rs2) (as ++ as2)
  | _, _, _, _, .nil, h => h
  | _, _, _, _, .cons a b c r, h => .cons a b c (PartsL.app r h)
theorem PartsL.len {H : Hp} : ∀ {rs as}, PartsL H rs as → as.length = rs.length
  | _, _, .nil => rfl
  | _, _, .cons _ _ _ r => congrArg (· + 1) (PartsL.len r)
theorem seqIx {k n : Nat} (h : k < n) : seqIndex? (k : Int) n = some k := by
  have h0 : ¬ ((k : Int) < 0) := by omega
  simp only [seqIndex?, if_neg h0]
  simp [h]
def spParts : Sp := fun vs H Q _ => ∃ (p : Addr), vs = [.ref p, .int 5, .int 4] ∧ BagAt H p ∧
  ∀ H' t rs, SameB p H H' → BagAt H' p → H t = none → LawWeb rs → PartsAt H' t rs → Q (.ref t) H'
section
variable {P : Program} {w : World} {K : PySem.W.Frag} {mg : Str → Option Value} {base : Heap}
theorem ok_L_parts (T : Tx K mg) : CL P w K mg base CX0 2 "_law_parts" ["_law_bag_here", "_law_most", "_law_widest"] spParts := by
  have G1 := ok_L_take (P := P) (w := w) (base := base) T
  have nd := sc_L_parts.nd
  refine CL.of0 T.d_L_parts T.g_L_parts sc_L_parts b_L_parts (fun vs H Q E h => ?_) (fun f cdv A outer s H vs Q E hr h => ?_)
  · obtain ⟨p, rfl, _⟩ := h; rfl
  · obtain ⟨p, rfl, hb, k⟩ := h
    refine ⟨_, (pss_cons (ps_set (i := 3) nd rfl (Or.inl rfl) (pe_op op_add pe_int (pe_cl G1 hr (by decide) pass0 (pa_cons (pv 0) (pa_cons (pv 1) pa_nil)))))
      (pss_cons (ps_set (i := 4) nd rfl (Or.inr rfl) (pe_lc (own := [("_law_spot", 6)]) (g := gName 6) (tt := tYes) rfl nd (pi_range1 rfl T.f_range (pa_cons (pv 3) pa_nil)) (blkOk_by (N := N_L_parts) (sc := defScope s_L_parts) (by decide +kernel))
          (fun _ _ _ _ _ => pg_name (i := 6) nd rfl (Or.inl rfl)) (fun _ _ _ _ _ => pts_nil) (fun _ _ _ _ _ => pe_op op_add pe_int (pe_cl G1 hr (by decide) pass0 (pa_cons (pv 0) (pa_cons (pv 2) pa_nil))))))
      (C8.pss_cut (ps_if (pt_cmpR op_eq (pe_cl G1 hr (by decide) pass0 (pa_cons (pv 0) (pa_cons pe_int pa_nil))) pe_int (nomark _)) (pss_one (ps_set (i := 4) nd rfl (Or.inr rfl) (pe_lc (own := [("_law_spot", 6)]) (g := gName 6) (tt := tYes) rfl nd (pi_range1 rfl T.f_range (pa_cons (pv 3) pa_nil)) (blkOk_by (N := N_L_parts) (sc := defScope s_L_parts) (by decide +kernel))
          (fun _ _ _ _ _ => pg_name (i := 6) nd rfl (Or.inl rfl)) (fun _ _ _ _ _ => pts_nil) (fun _ _ _ _ _ => pe_int)))) pss_nil)
      (pss_cons (ps_set (i := 5) nd rfl (Or.inl rfl) (pe_lst pa_nil))
      (pss_cons (ps_for PassesOwn.never rfl (pi_range1 rfl T.f_range (pa_cons (pv 3) pa_nil)) (pg_name (i := 6) nd rfl (Or.inr rfl)) (pss_cons (ps_par3 (i := 7) (j := 8) (l := 9) rfl nd rfl rfl rfl (by decide) (by decide) (by decide) rfl rfl rfl (pa_cons (pe_listRg rfl rfl T.f_list (prg_1 rfl T.f_range (pv 3))) (pa_cons (pe_lst pa_nil) (pa_cons pe_int pa_nil))) rfl)
      (pss_cons (ps_for PassesOwn.never rfl (pi_range1 rfl T.f_range (pa_cons (pe_callB (call_min2 rfl) (by rfl) T.f_min (by decide +kernel) (pa_cons (pv 3) (pa_cons (pe_ix ix_list (pe_lst (pa_cons pe_int (pa_cons pe_int (pa_cons pe_int (pa_cons pe_int (pa_cons pe_int (pa_cons pe_int pa_nil))))))) (pe_cl G1 hr (by decide) pass0 (pa_cons (pv 0) (pa_cons pe_int pa_nil))) (fun _ _ => rfl)) pa_nil))) pa_nil)) (pg_name (i := 10) nd rfl (Or.inl rfl)) (pss_cons (ps_expr (pe_bm PySem.F.plainAttrs_list PySem.F.slot_list_append PySem.F.type_list_append mt_append (pv 8) (pa_cons (pe_bm PySem.F.plainAttrs_list PySem.F.slot_list_pop PySem.F.type_list_pop mt_popAt (pv 7) (pa_cons (pe_cl G1 hr (by decide) pass0 (pa_cons (pv 0) (pa_cons (pe_callB call_len_seq (by rfl) T.f_len PySem.boot_len (pa_cons (pv 7) pa_nil)) pa_nil))) pa_nil)) pa_nil)))
      (pss_one (ps_set (i := 9) nd rfl (Or.inl rfl) (pe_op op_mul (pv 9) (pe_ix ix_list (pv 4) (pe_ix ix_list (pv 8) (pe_un un_neg pe_int) (fun _ _ => rfl)) (fun _ _ => rfl)))))))
      (pss_cons (ps_set (i := 11) nd rfl (Or.inl rfl) (pe_callTy call_tuple_of (by rfl) T.f_tuple (by decide +kernel) (pa_cons (pe_lc (own := [("_law_line", 12)]) (g := gName 12) (tt := tYes) rfl nd (pi_range1 rfl T.f_range (pa_cons (pv 9) pa_nil)) (blkOk_by (N := N_L_parts) (sc := defScope s_L_parts) (by decide +kernel))
            (fun _ _ _ _ _ => pg_name (i := 12) nd rfl (Or.inl rfl)) (fun _ _ _ _ _ => pts_nil) (fun _ _ _ _ _ => pe_cl G1 hr (by decide) pass0 (pa_cons (pv 0) (pa_cons (pe_ix (ix_listK K) (pv 4) (pv 6) (fun _ _ => rfl)) pa_nil)))) pa_nil)))
      (pss_one (ps_expr (pe_bm PySem.F.plainAttrs_list PySem.F.slot_list_append PySem.F.type_list_append mt_append (pv 5) (pa_cons (pe_tup (pa_cons (pe_callTy call_tuple_of (by rfl) T.f_tuple (by decide +kernel) (pa_cons (pv 8) pa_nil)) (pa_cons (pe_ix ix_list (pv 4) (pv 6) (fun _ _ => rfl)) (pa_cons (pe_cl G1 hr (by decide) pass0 (pa_cons (pv 0) (pa_cons (pe_ix ix_list (pv 4) (pv 6) (fun _ _ => rfl)) pa_nil))) (pa_cons (pv 11) pa_nil))))) pa_nil))))))))
      (pss_one (ps_ret (pv 5)))))))), ?_⟩
    refine ⟨_, rfl, _, rfl, p, 5, rfl, hb, by decide, by decide, fun d L d0 d1 hL => ⟨_, _, rfl, rfl, ?_⟩⟩
    have b1 := bag_upd (H := H) (p := p) hL
    have s1 : SameB p H (upd H p (.lst L)) := SameB.bag
    generalize upd H p (.lst L) = H1 at s1 b1 ⊢
    obtain ⟨m, hm⟩ : ∃ m : Nat, 1 + d = (m : Int) := ⟨(1 + d).toNat, by omega⟩
    have m1 : 1 ≤ m := by omega
    have m5 : m ≤ 5 := by omega
    dsimp only
    rw [hm]
    clear hm d0 d1
    refine ⟨_, rfl, _, rfl, by omega, by omega, fun D hD => ?_⟩
    have hD0 : H D = none := by
      cases e : H D with
      | none => rfl
      | some o =>
        have Dp : D ≠ p := fun z => by obtain ⟨_, q, _⟩ := b1; rw [z, q] at hD; cases hD
        rw [s1 _ _ Dp e] at hD
        cases hD
    have Dp : D ≠ p := fun z => by obtain ⟨_, q, _⟩ := b1; rw [z, q] at hD; cases hD
    refine lc_range (lo := 0) (n := m) (fun i Hx => SameB p H Hx ∧ BagAt Hx p ∧ ∃ ws : List Int, ws.length = i ∧ Hx D = some (.lst (nsv ws)) ∧ ∀ x ∈ ws, 1 ≤ x ∧ x ≤ 4)
      ⟨fun b o n e => by rw [upd_ne (ne_of_none e hD0)]; exact s1 _ _ n e, let ⟨L, a1, a2⟩ := b1; ⟨L, by rw [upd_ne Dp.symm]; exact a1, a2⟩, [], rfl, upd_same, fun x hx => by cases hx⟩ (fun i H2 hi h => ?_) (fun H2 h => ?_)
    · obtain ⟨s2, b2, ws, wl, hw, ww⟩ := h
      refine ⟨rfl, yes_ (iteT ⟨_, rfl, _, rfl, p, 4, rfl, b2, by decide, by decide, fun v L2 v0 v1 hL2 => ⟨_, _, rfl, rfl, _, (by rw [upd_ne Dp]; exact hw), (by rw [List.length_map, sizeL]; omega), ?_⟩⟩)⟩
      refine ⟨fun b o n e => by rw [upd_ne (ne_of_none e hD0), upd_ne n]; exact s2 _ _ n e, ⟨L2, by rw [upd_ne Dp.symm, upd_same], hL2⟩, ws ++ [1 + v], by rw [List.length_append, wl]; rfl, by rw [upd_same]; unfold nsv; rw [List.map_append]; rfl, fun x hx => ?_⟩
      rcases List.mem_append.mp hx with hx | hx
      · exact ww x hx
      · rw [List.mem_singleton.mp hx]
        omega
    · obtain ⟨s2, b2, ws, wl, hw, ww⟩ := h
      refine ⟨fun σ H' => SameB p H H' ∧ BagAt H' p ∧ ∃ (D : Addr) (ws : List Int), ws.length = m ∧ H D = none ∧ D ≠ p ∧ H' D = some (.lst (nsv ws)) ∧ (∀ x ∈ ws, 1 ≤ x ∧ x ≤ 4) ∧ σ = [some (.ref p), some (.int 5), some (.int 4), some (.int (m : Int)), some (.ref D), none, none, none, none, none, none, none, none], ?_, ?_⟩
      · refine ⟨_, rfl, p, 3, rfl, b2, by decide, by decide, fun v L2 v0 v1 hL2 => ?_⟩
        have hD2 : (upd H2 p (.lst L2)) D = some (.lst (nsv ws)) := by rw [upd_ne Dp]; exact hw
        have s2' : SameB p H (upd H2 p (.lst L2)) := s2.trans SameB.bag
        have b2' : BagAt (upd H2 p (.lst L2)) p := bag_upd hL2
        generalize upd H2 p (.lst L2) = H3 at hD2 s2' b2' ⊢
        refine ⟨rfl, _, rfl, ite2 (fun h => ?_) (fun h => ⟨s2', b2', D, ws, wl, hD0, Dp, hD2, ww, rfl⟩)⟩
        refine ⟨_, rfl, _, rfl, by omega, by omega, fun F hF => ?_⟩
        have Fp : F ≠ p := fun z => by obtain ⟨_, q, _⟩ := b2'; rw [z, q] at hF; cases hF
        have hF0 : H F = none := by
          cases e : H F with
          | none => rfl
          | some o => rw [s2' _ _ Fp e] at hF; cases hF
        refine lc_range (lo := 0) (n := m) (fun i Hx => (∀ b o, b ≠ F → H3 b = some o → Hx b = some o) ∧ Hx F = some (.lst (nsv (List.replicate i 2))))
          ⟨fun b o n e => by rw [upd_ne n]; exact e, upd_same⟩ (fun i H4 hi h => ?_) (fun H4 h => ?_)
        · obtain ⟨s4, h4⟩ := h
          refine ⟨rfl, yes_ (iteT ⟨_, h4, (by rw [List.length_map, List.length_replicate, sizeL]; omega), fun b o n e => by rw [upd_ne n]; exact s4 _ _ n e, ?_⟩)⟩
          rw [upd_same, List.replicate_succ']
          unfold nsv
          rw [List.map_append]
          rfl
        · obtain ⟨s4, h4⟩ := h
          refine ⟨fun b o n e => s4 _ _ (ne_of_none e hF0) (s2' _ _ n e), ?_, F, _, List.length_replicate .., hF0, Fp, h4, fun x hx => by rw [(List.mem_replicate.mp hx).2]; omega, rfl⟩
          obtain ⟨L, a1, a2⟩ := b2'
          exact ⟨L, s4 _ _ Fp.symm a1, a2⟩
      · rintro σ H3 ⟨s3, b3, E1, vs, vl, hE0, Ep, hE, hv, rfl⟩
        refine ⟨(by show 0 ≤ sizeLine; decide), fun M hM => ?_⟩
        have Mp : M ≠ p := fun z => by obtain ⟨_, q, _⟩ := b3; rw [z, q] at hM; cases hM
        have M0 : H M = none := by
          cases e : H M with
          | none => rfl
          | some o => rw [s3 _ _ Mp e] at hM; cases hM
        have ME : M ≠ E1 := (ne_of_none hE hM).symm
        refine ⟨_, rfl, _, rfl, by omega, by omega, ?_⟩
        refine for_range (lo := 0) (n := m) (fun i σ Hx => SameB p H Hx ∧ BagAt Hx p ∧ Hx E1 = some (.lst (nsv vs)) ∧ (∃ rs as, Hx M = some (.lst (as.map V.ref)) ∧ PartsL Hx rs as ∧ FitL m vs i rs) ∧ ∃ u6 u7 u8 u9 u10 u11 u12, σ = [some (.ref p), some (.int 5), some (.int 4), some (.int (m : Int)), some (.ref E1), some (.ref M), u6, u7, u8, u9, u10, u11, u12])
          ⟨fun b o n e => by rw [upd_ne (ne_of_none e M0)]; exact s3 _ _ n e, let ⟨L, a1, a2⟩ := b3; ⟨L, by rw [upd_ne Mp.symm]; exact a1, a2⟩, (by rw [upd_ne ME.symm]; exact hE), ⟨[], [], upd_same, .nil, rfl, fun r hr => by cases hr⟩, _, _, _, _, _, _, _, rfl⟩ (fun i σ H4 hi h => ?_) (fun σ H4 h => ?_)
        · obtain ⟨s4, b4, hE4, ⟨rs, as, hM4, hPL, hF⟩, u6, u7, u8, u9, u10, u11, u12, rfl⟩ := h
          refine ⟨_, rfl, _, rfl, RgOk.of_le (by omega) (by omega) (by omega) (by omega), fun Lf hLf => ⟨(by show 0 ≤ sizeLine; decide), fun Er hEr => ?_⟩⟩
          have hLf4 : H4 Lf = none := hLf
          have hEr4 : H4 Er = none := none_upd hEr
          have Lfp : Lf ≠ p := fun z => by obtain ⟨_, q, _⟩ := b4; rw [z, q] at hLf4; cases hLf4
          have Erp : Er ≠ p := fun z => by obtain ⟨_, q, _⟩ := b4; rw [z, q] at hEr4; cases hEr4
          have ErL : Er ≠ Lf := fun z => by rw [z, upd_same] at hEr; cases hEr
          have f4 : ∀ b, H4 b = none → b ≠ p → H b = none := fun b q n => by
            cases e : H b with
            | none => rfl
            | some o => rw [s4 _ _ n e] at q; cases q
          obtain ⟨H5, e5⟩ : ∃ H5, H5 = upd (upd H4 Lf (.lst (rgV 0 m))) Er (.lst []) := ⟨_, rfl⟩
          have o5 : Same H4 H5 := by rw [e5]; exact same_new (same_new (Same.refl _) hLf4) hEr4
          have hL5 : H5 Lf = some (.lst (nsv ((List.range m).map fun i : Nat => (i : Int)))) := by
            rw [e5, upd_ne ErL.symm, upd_same]
            unfold rgV nsv
            rw [List.map_map, show ((m : Int) - 0).toNat = m by omega]
            congr 2
            exact List.map_congr_left fun j _ => by show V.int (0 + (j : Int)) = V.int (j : Int); rw [Int.zero_add]
          have hE5 : H5 Er = some (.lst (nsv [])) := by rw [e5, upd_same]; rfl
          rw [← e5]
          clear e5
          have hE15 := o5 _ _ hE4
          have hM5 := o5 _ _ hM4
          have b5 := b4.same o5
          refine ⟨_, _, _, rfl, ?_⟩
          refine ⟨_, rfl, (by show 6 ≤ sizeLine; decide), fun t6 h6 => ?_⟩
          have t6p : t6 ≠ p := fun z => by obtain ⟨_, q, _⟩ := b5; rw [z, q] at h6; cases h6
          have n6 : Same H5 (upd H5 t6 (.lst [.int 1, .int 2, .int 3, .int 2, .int 1, .int 0])) := same_new (Same.refl _) h6
          have h66 : (upd H5 t6 (.lst [.int 1, .int 2, .int 3, .int 2, .int 1, .int 0])) t6 = some (.lst [.int 1, .int 2, .int 3, .int 2, .int 1, .int 0]) := upd_same
          have o6 := o5.trans n6
          have hL6 := n6 _ _ hL5
          have hE6 := n6 _ _ hE5
          have hE16 := n6 _ _ hE15
          have hM6 := n6 _ _ hM5
          have b6 := b5.same n6
          clear b5 hM5 hE15 hE5 hL5
          generalize upd H5 t6 (.lst [.int 1, .int 2, .int 3, .int 2, .int 1, .int 0]) = H6 at h66 o6 hL6 hE6 hE16 hM6 b6 n6 ⊢
          refine ⟨_, rfl, p, 6, rfl, b6, by decide, by decide, fun v L2 v0 v1 hL2 => ?_⟩
          have hv6 : ∃ q : Int, atI [V.int 1, V.int 2, V.int 3, V.int 2, V.int 1, V.int 0] v = some (.int q) ∧ 0 ≤ q ∧ q ≤ 3 := by
            have : v = 0 ∨ v = 1 ∨ v = 2 ∨ v = 3 ∨ v = 4 ∨ v = 5 := by omega
            rcases this with rfl | rfl | rfl | rfl | rfl | rfl
            · exact ⟨_, rfl, by decide, by decide⟩
            · exact ⟨_, rfl, by decide, by decide⟩
            · exact ⟨_, rfl, by decide, by decide⟩
            · exact ⟨_, rfl, by decide, by decide⟩
            · exact ⟨_, rfl, by decide, by decide⟩
            · exact ⟨_, rfl, by decide, by decide⟩
          obtain ⟨q, hq, q0, q3⟩ := hv6
          refine ⟨t6, _, _, _, rfl, rfl, SqL.of (by rw [upd_ne t6p]; exact h66), hq, ?_⟩
          obtain ⟨c, hc, cm, c3⟩ : ∃ c : Nat, (if q < (m : Int) then q else (m : Int)) = (c : Int) ∧ c ≤ m ∧ c ≤ 3 := by
            refine ⟨(if q < (m : Int) then q else (m : Int)).toNat, ?_, ?_, ?_⟩ <;> split <;> omega
          refine ⟨_, _, rfl, ?_⟩
          rw [hc]
          refine ⟨_, rfl, by omega, by omega, ?_⟩
          have Lf0 := f4 Lf hLf4 Lfp
          have Er0 := f4 Er hEr4 Erp
          have t60 : ∀ b tt, H4 b = some (.tup tt) → (upd H6 p (.lst L2)) b = some (.tup tt) := fun b tt e => by
            have bp : b ≠ p := fun z => by obtain ⟨_, q, _⟩ := b4; rw [z, q] at e; cases e
            rw [upd_ne bp]
            exact o6 _ _ e
          refine for_range (lo := 0) (n := c) (fun t σ Hx => SameB p H Hx ∧ BagAt Hx p ∧ Hx E1 = some (.lst (nsv vs)) ∧ Hx M = some (.lst (as.map V.ref)) ∧ (∀ b tt, H4 b = some (.tup tt) → Hx b = some (.tup tt)) ∧
              (∃ lv ears : List Int, Hx Lf = some (.lst (nsv lv)) ∧ Hx Er = some (.lst (nsv ears)) ∧ ears.length = t ∧ lv.length + ears.length = m ∧ (ears ++ lv).Nodup ∧ (∀ h ∈ ears ++ lv, 0 ≤ h ∧ h < (m : Int)) ∧
                ∃ u10 u11 u12, σ = [some (.ref p), some (.int 5), some (.int 4), some (.int (m : Int)), some (.ref E1), some (.ref M), some (.int (0 + (i : Int))), some (.ref Lf), some (.ref Er), some (.int (prodW vs ears)), u10, u11, u12]))
            ⟨(s4.trans (SameB.of o6)).trans SameB.bag, bag_upd hL2, ?_, ?_, t60, (List.range m).map fun i : Nat => (i : Int), [], ?_, ?_, rfl, ?_, ?_, ?_, _, _, _, rfl⟩ (fun t σ H7 ht h => ?_) (fun σ H7 h => ?_)
          · rw [upd_ne (fun z => Ep z)]; exact hE16
          · rw [upd_ne Mp]; exact hM6
          · rw [upd_ne Lfp]; exact hL6
          · rw [upd_ne Erp]; exact hE6
          · rw [List.length_map, List.length_range]; rfl
          · rw [List.nil_append]
            exact List.pairwise_map.mpr (List.nodup_range.imp fun n z => n (by omega))
          · intro h hh
            rw [List.nil_append] at hh
            obtain ⟨j, hj, rfl⟩ := List.mem_map.mp hh
            have := List.mem_range.mp hj
            omega
          · obtain ⟨s7, b7, hE7, hM7, t7, lv, ears, hL7, hR7, el, lel, hnd, hbd, u10, u11, u12, rfl⟩ := h
            have lpos : 0 < lv.length := by omega
            have lvm : lv.length ≤ 5 := by omega
            refine ⟨_, rfl, .inl ⟨rfl, _, SqL.of hR7⟩, ?_⟩
            refine ⟨_, rfl, .inl ⟨rfl, _, SqL.of hL7⟩, ?_⟩
            refine ⟨_, rfl, _, rfl, Lf, _, rfl, .inl (SqL.of hL7), ?_⟩
            refine ⟨p, _, rfl, b7, by rw [List.length_map]; omega, by rw [List.length_map]; omega, fun v L3 x0 x1 hL3 => ?_⟩
            rw [List.length_map] at x1
            obtain ⟨kk, rfl⟩ := Int.eq_ofNat_of_zero_le x0
            have hk : kk < lv.length := by omega
            have hL8 : (upd H7 p (.lst L3)) Lf = some (.lst (nsv lv)) := by rw [upd_ne Lfp]; exact hL7
            have hR8 : (upd H7 p (.lst L3)) Er = some (.lst (nsv ears)) := by rw [upd_ne Erp]; exact hR7
            refine ⟨Lf, _, _, kk, .int lv[kk], rfl, rfl, hL8, by omega, by omega, seqIx (by rw [List.length_map]; exact hk), by rw [List.getElem?_map, List.getElem?_eq_getElem hk]; rfl, ?_⟩
            have hR9 : (upd (upd H7 p (.lst L3)) Lf (.lst ((nsv lv).eraseIdx kk))) Er = some (.lst (nsv ears)) := by rw [upd_ne ErL]; exact hR8
            refine ⟨Er, _, _, rfl, rfl, hR9, by rw [List.length_map, sizeL]; omega, ?_⟩
            have E1L : E1 ≠ Lf := ne_of_none hE4 hLf4
            have E1R : E1 ≠ Er := ne_of_none hE4 hEr4
            have ML : M ≠ Lf := ne_of_none hM4 hLf4
            have MR : M ≠ Er := ne_of_none hM4 hEr4
            obtain ⟨He, ee⟩ : ∃ He, He = upd (upd (upd H7 p (.lst L3)) Lf (.lst ((nsv lv).eraseIdx kk))) Er (.lst (nsv ears ++ [.int lv[kk]])) := ⟨_, rfl⟩
            have hRe : He Er = some (.lst (nsv (ears ++ [lv[kk]]))) := by rw [ee, upd_same]; unfold nsv; rw [List.map_append]; rfl
            have hLe : He Lf = some (.lst (nsv (lv.eraseIdx kk))) := by rw [ee, upd_ne ErL.symm, upd_same]; rw [erase_nsv]
            have hE1e : He E1 = some (.lst (nsv vs)) := by rw [ee, upd_ne E1R, upd_ne E1L, upd_ne Ep]; exact hE7
            have hMe : He M = some (.lst (as.map V.ref)) := by rw [ee, upd_ne MR, upd_ne ML, upd_ne Mp]; exact hM7
            have hbe : BagAt He p := ⟨L3, by rw [ee, upd_ne Erp.symm, upd_ne Lfp.symm, upd_same], hL3⟩
            have hse : SameB p H He := fun b o n e => by rw [ee, upd_ne (ne_of_none e Er0), upd_ne (ne_of_none e Lf0), upd_ne n]; exact s7 _ _ n e
            have hte : ∀ b tt, H4 b = some (.tup tt) → He b = some (.tup tt) := fun b tt e => by
              have bp : b ≠ p := fun z => by obtain ⟨_, q, _⟩ := b4; rw [z, q] at e; cases e
              rw [ee, upd_ne (ne_of_none e hEr4), upd_ne (ne_of_none e hLf4), upd_ne bp]
              exact t7 _ _ e
            rw [← ee]
            clear ee hR9 hL8 hR8
            have hlm : lv[kk] ∈ lv := List.getElem_mem _
            have hlb := hbd _ (List.mem_append_right _ hlm)
            obtain ⟨e, hle⟩ := Int.eq_ofNat_of_zero_le hlb.1
            have hev : e < vs.length := by omega
            have hvb := hv _ (List.getElem_mem hev)
            refine ⟨_, rfl, _, rfl, _, rfl, _, rfl, Er, _, _, .int lv[kk], rfl, rfl, SqL.of hRe, atI_neg1 (by simp [nsv]), E1, _, _, .int vs[e], rfl, rfl, SqL.of hE1e, ?_, _, _, rfl, rfl, .inr ⟨by omega, by omega⟩, ?_⟩
            · rw [hle]
              exact atI_nat (by rw [List.getElem?_map, List.getElem?_eq_getElem hev]; rfl)
            · have pm : ((ears ++ [lv[kk]]) ++ lv.eraseIdx kk).Perm (ears ++ lv) := by
                rw [List.append_assoc]
                exact List.Perm.append_left ears (erase_perm lv kk hk)
              have hpe : prodW vs (ears ++ [lv[kk]]) = prodW vs ears * vs[e] := by
                unfold prodW
                rw [List.foldl_append, List.foldl_cons, List.foldl_nil, hle, Int.toNat_natCast, List.getD_eq_getElem?_getD, List.getElem?_eq_getElem hev]
                rfl
              have le1 : (lv.eraseIdx kk).length = lv.length - 1 := List.length_eraseIdx_of_lt hk
              refine ⟨hse, hbe, hE1e, hMe, hte, lv.eraseIdx kk, ears ++ [lv[kk]], hLe, hRe, by rw [List.length_append, el]; rfl, by rw [le1, List.length_append]; show lv.length - 1 + (ears.length + 1) = m; omega, pm.nodup_iff.mpr hnd, fun h hh => hbd h (pm.mem_iff.mp hh), _, _, _, by rw [hpe]; rfl⟩
          · obtain ⟨s7, b7, hE7, hM7, t7, lv, ears, hL7, hR7, el, lel, hnd, hbd, u10, u11, u12, rfl⟩ := h
            have hvl : ∀ h ∈ ears, 0 ≤ h ∧ h < (vs.length : Int) := fun h hh => by have := hbd h (List.mem_append_left _ hh); omega
            have hp := prodW_le hv ears 1 1 hvl (by decide) (by decide)
            have hp3 : (4 : Int) ^ ears.length ≤ 64 := by
              have : (4 : Nat) ^ ears.length ≤ 4 ^ 3 := Nat.pow_le_pow_right (by decide) (by omega)
              have h2 : ((4 ^ ears.length : Nat) : Int) ≤ ((4 ^ 3 : Nat) : Int) := Int.ofNat_le.mpr this
              rw [Int.natCast_pow] at h2
              exact h2
            obtain ⟨ln, hln⟩ := Int.eq_ofNat_of_zero_le hp.1
            have hln2 : prodW vs ears = (ln : Int) := hln
            have hln3 : ln ≤ 64 := by have := hp.2; rw [hln] at this; omega
            rw [hln2]
            refine ⟨_, rfl, _, rfl, by omega, by omega, fun D hD => ?_⟩
            have Dp : D ≠ p := fun z => by obtain ⟨_, q, _⟩ := b7; rw [z, q] at hD; cases hD
            have hiv : i < vs.length := by omega
            have hvi := hv _ (List.getElem_mem hiv)
            have DE : E1 ≠ D := ne_of_none hE7 hD
            refine lc_range (lo := 0) (n := ln) (fun j Hx => BagAt Hx p ∧ (∀ b o, b ≠ p → b ≠ D → H7 b = some o → Hx b = some o) ∧ ∃ tb : List Int, tb.length = j ∧ Hx D = some (.lst (nsv tb)) ∧ ∀ x ∈ tb, 0 ≤ x ∧ x < vs[i])
              ⟨let ⟨L, a1, a2⟩ := b7; ⟨L, by rw [upd_ne Dp.symm]; exact a1, a2⟩, fun b o n1 n2 e => by rw [upd_ne n2]; exact e, [], rfl, upd_same, fun x hx => by cases hx⟩ (fun j H8 hj h => ?_) (fun H8 h => ?_)
            · obtain ⟨b8, k8, tb, tl, ht8, htb⟩ := h
              have hE8 := k8 _ _ Ep DE hE7
              refine ⟨rfl, yes_ (iteT ⟨_, rfl, _, rfl, _, rfl, E1, _, _, .int vs[i], rfl, rfl, SqL.of hE8, ?_, p, _, rfl, b8, by omega, by omega, fun v L9 v0 v1 hL9 => ⟨_, (by rw [upd_ne Dp]; exact ht8), (by rw [List.length_map, sizeL]; omega), ⟨L9, by rw [upd_ne Dp.symm, upd_same], hL9⟩, fun b o n1 n2 e => by rw [upd_ne n2, upd_ne n1]; exact k8 _ _ n1 n2 e, tb ++ [v], by rw [List.length_append, tl]; rfl, by rw [upd_same]; unfold nsv; rw [List.map_append]; rfl, fun x hx => ?_⟩⟩)⟩
              · rw [Int.zero_add]
                exact atI_nat (by rw [List.getElem?_map, List.getElem?_eq_getElem hiv]; rfl)
              · rcases List.mem_append.mp hx with hx | hx
                · exact htb x hx
                · rw [List.mem_singleton.mp hx]
                  exact ⟨v0, v1⟩
            · obtain ⟨b8, k8, tb, tl, ht8, htb⟩ := h
              refine ⟨D, _, rfl, .inl ⟨SqL.of ht8, fun tr ntr => ?_⟩⟩
              have n9 : Same H8 (upd H8 tr (.tup (nsv tb))) := same_new (Same.refl _) ntr
              have h9 : (upd H8 tr (.tup (nsv tb))) tr = some (.tup (nsv tb)) := upd_same
              have b9 := b8.same n9
              have hM8 := k8 _ _ Mp (ne_of_none hM7 hD) hM7
              have hR8 := k8 _ _ Erp (ne_of_none hR7 hD) hR7
              have hE8 := k8 _ _ Ep DE hE7
              have hM9 := n9 _ _ hM8
              have hR9 := n9 _ _ hR8
              have hE9 := n9 _ _ hE8
              generalize upd H8 tr (.tup (nsv tb)) = H9 at n9 h9 b9 hM9 hR9 hE9 ⊢
              refine ⟨_, rfl, .inl ⟨rfl, _, SqL.of hM9⟩, ?_⟩
              refine ⟨_, rfl, Er, _, rfl, .inl ⟨SqL.of hR9, fun th nth => ?_⟩⟩
              have n10 : Same H9 (upd H9 th (.tup (nsv ears))) := same_new (Same.refl _) nth
              have h10 : (upd H9 th (.tup (nsv ears))) th = some (.tup (nsv ears)) := upd_same
              have b10 := b9.same n10
              have hM10 := n10 _ _ hM9
              have hE10 := n10 _ _ hE9
              have h910 := n10 _ _ h9
              have hat : atI (nsv vs) (0 + (i : Int)) = some (.int vs[i]) := by
                rw [Int.zero_add]
                exact atI_nat (by rw [List.getElem?_map, List.getElem?_eq_getElem hiv]; rfl)
              generalize upd H9 th (.tup (nsv ears)) = H10 at n10 h10 b10 hM10 hE10 h910 ⊢
              refine ⟨_, rfl, _, rfl, E1, _, _, .int vs[i], rfl, rfl, SqL.of hE10, hat, ?_⟩
              refine ⟨_, rfl, _, rfl, _, rfl, E1, _, _, .int vs[i], rfl, rfl, SqL.of hE10, hat, p, _, rfl, b10, by omega, by omega, fun fi Lx f0 f1 hLx => ?_⟩
              refine ⟨_, rfl, (by show 4 ≤ sizeLine; decide), fun a na => ?_⟩
              have pl := hPL.len
              have rl : rs.length = i := by have := congrArg List.length hF.1; rw [List.length_map, List.length_take] at this; omega
              have ap : a ≠ p := fun z => by rw [z, upd_same] at na; cases na
              have na10 : H10 a = none := none_upd na
              have aM : M ≠ a := ne_of_none hM10 na10
              refine ⟨M, _, _, rfl, rfl, (by rw [upd_ne aM, upd_ne Mp]; exact hM10), (by rw [List.length_map, sizeL]; omega), ?_⟩
              have k10 : ∀ b o, b ≠ p → b ≠ D → H7 b = some o → H10 b = some o := fun b o n1 n2 e => n10 _ _ (n9 _ _ (k8 _ _ n1 n2 e))
              have D0 : H D = none := by
                cases e : H D with
                | none => rfl
                | some o => rw [s7 _ _ Dp e] at hD; cases hD
              have a0 : H a = none := by
                cases e : H a with
                | none => rfl
                | some o => rw [k10 _ _ ap (ne_of_none e D0) (s7 _ _ ap e)] at na10; cases na10
              have tpp : ∀ b tt, H10 b = some (.tup tt) → b ≠ p ∧ b ≠ M ∧ b ≠ a := fun b tt e => ⟨(fun z => by obtain ⟨_, q, _⟩ := b10; rw [z, q] at e; cases e), (fun z => by rw [z, hM10] at e; cases e), ne_of_none e na10⟩
              have kt : ∀ b tt, H10 b = some (.tup tt) → (upd (upd (upd H10 p (.lst Lx)) a (.tup [.ref th, .int vs[i], .int fi, .ref tr])) M (.lst (as.map V.ref ++ [.ref a]))) b = some (.tup tt) := fun b tt e => by
                obtain ⟨q1, q2, q3⟩ := tpp b tt e
                rw [upd_ne q2, upd_ne q3, upd_ne q1]
                exact e
              refine ⟨fun b o n e => by rw [upd_ne (ne_of_none e M0), upd_ne (ne_of_none e a0), upd_ne n]; exact k10 _ _ n (ne_of_none e D0) (s7 _ _ n e), ⟨Lx, by rw [upd_ne Mp.symm, upd_ne ap.symm, upd_same], hLx⟩, (by rw [upd_ne ME.symm, upd_ne (ne_of_none hE10 na10), upd_ne Ep]; exact hE10), ⟨rs ++ [⟨ears, vs[i], fi, tb⟩], as ++ [a], (by rw [upd_same, List.map_append]; rfl), PartsL.app (hPL.mono fun b tt e => ?_) (.cons (by rw [upd_ne aM.symm, upd_same]) (kt _ _ h10) (kt _ _ h910) .nil), ?_⟩, _, _, _, _, _, _, _, rfl⟩
              · have bp : b ≠ p := fun z => by obtain ⟨_, q, _⟩ := b4; rw [z, q] at e; cases e
                have e7 := t7 _ _ e
                exact kt _ _ (k10 _ _ bp (ne_of_none e7 hD) e7)
              · refine ⟨by rw [List.map_append, hF.1, List.take_add_one, List.getElem?_eq_getElem hiv]; rfl, fun r hr => ?_⟩
                rcases List.mem_append.mp hr with hr | hr
                · exact hF.2 r hr
                · rw [List.mem_singleton.mp hr]
                  exact ⟨by show ears.length ≤ 3; omega, fun h hh => hbd h (List.mem_append_left _ hh), (List.nodup_append.mp hnd).1, f0, f1, by show (tb.length : Int) = prodW vs ears; rw [hln2, tl], htb⟩
        · obtain ⟨s4, b4, hE4, ⟨rs, as, hM4, hPL, hF⟩, u6, u7, u8, u9, u10, u11, u12, rfl⟩ := h
          exact ⟨_, rfl, k _ M rs s4 b4 M0 (hF.web vl hv m1 m5) ⟨as, hM4, hPL⟩⟩
end
end S
set_option Elab.async false
set_option linter.all false
set_option maxRecDepth 100000
set_option maxHeartbeats 4000000
/-! # what the walks of the law share -/
namespace S
open PySem PySem.Spec PyProof.Rows L2 G LamX NdefX
def RoomsL (K : PySem.W.Frag) (H : Hp) (D : Addr) (rs : List RoomD) : Prop := ∃ as : List Addr, H D = some (.lst (as.map V.ref)) ∧ as.length = rs.length ∧ ∀ (i : Nat) (x : Addr) (r : RoomD), as[i]? = some x → rs[i]? = some r → RoomAt K H x r
section
variable {K : PySem.W.Frag}
theorem RoomAt.up {H : Hp} {D y : Addr} {r : RoomD} {xs : List V} {o : HO} (h : RoomAt K H y r) (hD : H D = some (.lst xs)) : RoomAt K (upd H D o) y r := by
  obtain ⟨dx, th, tr, h1, h2, h3⟩ := h
  exact ⟨dx, th, tr, by rw [upd_ne (ne_of h1 hD (fun z => nomatch z))]; exact h1, by rw [upd_ne (ne_of h2 hD (fun z => nomatch z))]; exact h2, by rw [upd_ne (ne_of h3 hD (fun z => nomatch z))]; exact h3⟩
theorem rooms_one {Hb : Hp} {D y : Addr} {r : RoomD} (hy : RoomAt K Hb y r) (hD : Hb D = none) : RoomsL K (upd Hb D (.lst [.ref y])) D [r] := by
  have s : Same Hb (upd Hb D (.lst [.ref y])) := same_new (Same.refl _) hD
  refine ⟨[y], upd_same, rfl, fun i x q e1 e2 => ?_⟩
  match i, e1, e2 with
  | 0, e1, e2 =>
    cases e1
    cases e2
    exact hy.same s
theorem rooms_more {Ha Hb : Hp} {D y : Addr} {rs : List RoomD} {r : RoomD} (hL : RoomsL K Ha D rs) (sab : Same Ha Hb) (hy : RoomAt K Hb y r) (hn : rs.length ≤ 10) :
    ∃ xs : List V, Hb D = some (.lst xs) ∧ SqL K Ha D xs ∧ xs.length < sizeLine ∧ RoomsL K (upd Hb D (.lst (xs ++ [.ref y]))) D (rs ++ [r]) := by
  obtain ⟨as, a1, a2, a3⟩ := hL
  have b1 := sab _ _ a1
  refine ⟨as.map V.ref, b1, SqL.of a1, by rw [List.length_map, a2, sizeL]; omega, as ++ [y], by rw [upd_same, List.map_append]; rfl, by rw [List.length_append, List.length_append, a2]; rfl, fun i x q e1 e2 => ?_⟩
  by_cases hi : i < as.length
  · rw [List.getElem?_append_left hi] at e1
    rw [List.getElem?_append_left (by omega)] at e2
    exact RoomAt.up ((a3 i x q e1 e2).same sab) b1
  · rw [List.getElem?_append_right (by omega)] at e1
    rw [List.getElem?_append_right (by omega)] at e2
    have z1 : i - as.length = 0 := by
      have := (List.getElem?_eq_some_iff.mp e1).1
      simpa using this
    have z2 : i - rs.length = 0 := by omega
    rw [z1] at e1
    rw [z2] at e2
    cases e1
    cases e2
    exact RoomAt.up hy b1
theorem room_made {H H2 : Hp} {th tr x dx : Addr} {hs rl : List Int} {sz fi : Int} (s : Same H H2) (hth : H2 th = some (.tup (nsv hs))) (htr : H2 tr = some (.tup (nsv rl))) (nx : H2 x = none) (nd : H2 dx = none) :
    Same H (upd (upd H2 dx (.own x)) x (.ins (cRoom K) dx (rf th tr sz fi))) ∧ RoomAt K (upd (upd H2 dx (.own x)) x (.ins (cRoom K) dx (rf th tr sz fi))) x ⟨hs, sz, fi, rl⟩ := by
  have s2 : Same H2 (upd (upd H2 dx (.own x)) x (.ins (cRoom K) dx (rf th tr sz fi))) := same_new (same_new (Same.refl _) nd) nx
  exact ⟨s.trans s2, ⟨dx, th, tr, upd_same, s2 _ _ hth, s2 _ _ htr⟩⟩
theorem web_made {Hc H7 : Hp} {t x dx : Addr} {rs : List RoomD} {as : List Addr} (hL : H7 = H7) (ht : Hc t = none) (h2 : as.length = rs.length) (h3 : ∀ (i : Nat) (y : Addr) (r : RoomD), as[i]? = some y → rs[i]? = some r → RoomAt K Hc y r) (hwx : (upd Hc t (.tup (as.map V.ref))) x = none) (hwd : (upd Hc t (.tup (as.map V.ref))) dx = none) (ne : dx ≠ x) (s7 : Same (upd (upd (upd Hc t (.tup (as.map V.ref))) dx (.own x)) x (.ins (cWeb K) dx [])) H7) :
    Same Hc (upd H7 x (.ins (cWeb K) dx (wf t))) ∧ WebAt K (upd H7 x (.ins (cWeb K) dx (wf t))) x rs := by
  have st : Same Hc (upd Hc t (.tup (as.map V.ref))) := same_new (Same.refl _) ht
  have hRt : RoomsAt K (upd Hc t (.tup (as.map V.ref))) t rs := ⟨as, upd_same, h2, fun i y r g1 g2 => (h3 i y r g1 g2).same st⟩
  have s8 : Same (upd Hc t (.tup (as.map V.ref))) (upd H7 x (.ins (cWeb K) dx (wf t))) := same_made hwx hwd ne s7 (o' := .ins (cWeb K) dx (wf t))
  exact ⟨st.trans s8, dx, t, upd_same, hRt.same s8⟩
theorem web_ready {Hc : Hp} {t x dx : Addr} {rs : List RoomD} {as : List Addr} (ht : Hc t = none) (h2 : as.length = rs.length) (h3 : ∀ (i : Nat) (y : Addr) (r : RoomD), as[i]? = some y → rs[i]? = some r → RoomAt K Hc y r) (hwx : (upd Hc t (.tup (as.map V.ref))) x = none) (hwd : (upd Hc t (.tup (as.map V.ref))) dx = none) :
    RoomsAt K (upd (upd (upd Hc t (.tup (as.map V.ref))) dx (.own x)) x (.ins (cWeb K) dx [])) t rs := by
  have st : Same Hc (upd Hc t (.tup (as.map V.ref))) := same_new (Same.refl _) ht
  have hRt : RoomsAt K (upd Hc t (.tup (as.map V.ref))) t rs := ⟨as, upd_same, h2, fun i y r g1 g2 => (h3 i y r g1 g2).same st⟩
  exact hRt.same (same_new (same_new (Same.refl _) hwd) hwx)
/-! ### the bag's heaps -/
theorem BagAt.ne {H : Hp} {p b : Addr} {o : HO} (h : BagAt H p) (e : H b = some o) (n : ∀ xs, o ≠ .lst xs := by intro xs z; cases z) : b ≠ p := by
  obtain ⟨L, h, _⟩ := h
  exact ne_of e h (n L)
theorem SameB.get {H H' : Hp} {p b : Addr} {o : HO} (s : SameB p H H') (h : BagAt H p) (e : H b = some o) (n : ∀ xs, o ≠ .lst xs := by intro xs z; cases z) : H' b = some o := s b o (h.ne e n) e
theorem SameB.web {H H' : Hp} {p x : Addr} {rs : List RoomD} (s : SameB p H H') (h : BagAt H p) (hW : WebAt K H x rs) : WebAt K H' x rs := by
  obtain ⟨dx, t, h1, as, h2, h3, h4⟩ := hW
  refine ⟨dx, t, s.get h h1, as, s.get h h2, h3, fun i a r h5 h6 => ?_⟩
  obtain ⟨dy, th, tr, g1, g2, g3⟩ := h4 i a r h5 h6
  exact ⟨dy, th, tr, s.get h g1, s.get h g2, s.get h g3⟩
theorem SameB.tabs {H H' : Hp} {p : Addr} {T : List (Addr × Str)} (s : SameB p H H') (h : BagAt H p) (t : Tabs T H) : Tabs T H' := fun q hq => by
  obtain ⟨ps, h1, h2, h3⟩ := t q hq
  refine ⟨ps, s.get h h1, h2, fun pos cv hc => ?_⟩
  obtain ⟨c, e1, e2⟩ := h3 pos cv hc
  exact ⟨c, e1, s.get h e2⟩
/-- all but the bag and the tables of the code stays -/
def XB (p : Addr) (H H' : Hp) : Prop := ∀ b o, b ≠ p → H b = some o → (∀ ps, o ≠ .tbl ps) → H' b = some o
theorem XB.of {p : Addr} {H H' : Hp} (s : SameB p H H') : XB p H H' := fun b o n e _ => s b o n e
theorem XB.ext {p : Addr} {H H' : Hp} (s : ExtN H H') : XB p H H' := fun b o _ e n => s b o e n
theorem XB.trans {p : Addr} {H H1 H2 : Hp} (a : XB p H H1) (b : XB p H1 H2) : XB p H H2 := fun c o n e z => b c o n (a c o n e z) z
theorem XB.toN {p : Addr} {H0 H H' : Hp} (s : XB p H H') (s0 : ExtN H0 H) (hp : H0 p = none) : ExtN H0 H' := fun b o e n => s b o (ne_of_none e hp) (s0 b o e n) n
theorem BagAt.ext {H H' : Hp} {p : Addr} (h : BagAt H p) (s : ExtN H H') : BagAt H' p := let ⟨L, a, b⟩ := h; ⟨L, extN_get s a, b⟩
/-! ### lists of tuples of numbers, side by side -/
theorem dpAll_tups {H : Hp} : ∀ {ls : List (List Int)} {bs : List Addr}, TupsAt H (ls.map nsv) bs → DpAll K H (bs.map V.ref) (ls.map iD)
  | [], [], _ => .nil
  | l :: ls, b :: bs, h => by
    cases h with
    | cons h1 h2 => exact .cons (.tup (SqT.of h1) (dp_ints l)) (dpAll_tups h2)
where dp_ints : ∀ l : List Int, DpAll K H (nsv l) (l.map PyData.int)
  | [] => .nil
  | a :: l => .cons (.int a) (dp_ints l)
theorem eqv_tups (ls : List (List Int)) : PyData.eqv (.list (ls.map iD)) (.list (ls.map iD)) = true := PySem.SeqAt.eqv_refl _ (by simp [PyData.canLay0, lay_tups])
theorem kb_sfr {f : Addr} {fd : FuncData} (F : RInit K f fd) : ∃ its mv, KBn K fd psR 2 ["size", "first", "rule"] (fun us ws => g5b us its mv ws) (fun vs zs => g5b vs (d_Room_init.dvs K) (([] : List (Str × V)).map (·.2)) zs) := by
  refine F.kbinds 2 ["size", "first", "rule"] [] g5b dvs_ne kws_ne (fun q hq => nomatch hq) (fun h1 h2 h3 h4 => h1.append (h3.append h4)) (fun T D doc pm an cdv ct us its mv ws h1 h2 h3 h4 => ?_)
  match us, its, mv, ws, h1, h2, h3, h4 with
  | [a, b], [i], [], [c, e, g], _, _, _, _ =>
    exact ⟨_, rfl, rfl⟩
end
theorem PS.pk {P : Program} {w : World} {K : PySem.W.Frag} {mg : Str → Option Value} {base : Heap} {k : Nat} {x : Str} {sp : Sp} (c : PS P w K mg base k x sp) : PK P w K mg base k x sp := by
  obtain ⟨f, fd, F, hm, kp, ⟨mv, kb⟩, _⟩ := c.ex
  exact ⟨f, fd, mv, F, hm, kp, kb⟩
section
variable {X : Cx} {k j : Nat} {x : Str} {sp : Sp} {p pos : Pos} {e : Expr} {es : List Expr} {t : TA}
/-- called without pokes -/
theorem pe_psd (c : PS X.prog X.w X.K X.mg X.base k x sp) (hr : Room j X.A) (hj : k ≤ j) (ha : PA X (e :: es) t) (hg : Gl X x := by rfl)
    (hdb : (x == ("__debug__" : Str)) = false := by decide) (he : starEach (e :: es) X.env = (false, eval e X.env) :: starEach es X.env := by rfl) (hpl : (backTo pos (starEach es X.env)).any (·.1) = false := by rfl) :
    PE X (.Call (.Name x p) (e :: es) [] pos) (L2.tCall sp [.non] C8.E0 t) := by
  obtain ⟨f, fd, F, hm, kp, _, ds, hd, hb⟩ := c.ex
  exact L2.pe_call F (hr.mono hj) hg hm kp hb hd pass0 ha hdb he hpl
end
end S
set_option Elab.async false
set_option linter.all false
set_option maxRecDepth 100000
set_option maxHeartbeats 4000000
/-! # the law's net -/
namespace S
open PySem PySem.Spec PyProof.Rows L2 G LamX NdefX SrtO
theorem PartsL.get {H : Hp} : ∀ {rs : List RoomD} {as : List Addr} {j : Nat} {a : Addr} {r : RoomD}, PartsL H rs as → as[j]? = some a → rs[j]? = some r → ∃ th tr, H a = some (.tup [.ref th, .int r.size, .int r.first, .ref tr]) ∧ H th = some (.tup (nsv r.hears)) ∧ H tr = some (.tup (nsv r.rule))
  | _, _, _, _, _, .nil, e, _ => by cases e
  | _, _, 0, _, _, .cons a b c _, e1, e2 => by
    cases e1
    cases e2
    exact ⟨_, _, a, b, c⟩
  | _, _, _ + 1, _, _, .cons _ _ _ r, e1, e2 => PartsL.get r e1 e2
section
variable {P : Program} {w : World} {K : PySem.W.Frag} {mg : Str → Option Value} {base : Heap}
def spNet (K : PySem.W.Frag) : Sp := fun vs H Q _ => ∃ (t : Addr) (rs : List RoomD), vs = [.ref t] ∧ PartsAt H t rs ∧ LawWeb rs ∧ ∀ H' x, Same H H' → H x = none → WebAt K H' x rs → Q (.ref x) H'
theorem ok_L_net (T : Tx K mg) (hI : C8.InsC K (cRoom K)) : CL P w K mg base CX0 10 "_law_net" ["_law_parts_here"] (spNet K) := by
  obtain ⟨fR, fdR, MR, FR, GR⟩ := ok_Room_init (P := P) (w := w) (base := base) T
  obtain ⟨its3, mv3, kb3⟩ := kb_sfr FR
  have GE := ok_Web_init (P := P) (w := w) (base := base) T hI
  have nd := sc_L_net.nd
  refine CL.of0 T.d_L_net T.g_L_net sc_L_net b_L_net (fun vs H Q E h => ?_) (fun f cdv A outer s H vs Q E hr h => ?_)
  · obtain ⟨t, rs, rfl, _⟩ := h; rfl
  · obtain ⟨t, rs, rfl, hP, hw, k⟩ := h
    refine ⟨_, (pss_one (ps_ret (pe_kl GE hr (by decide) pass0 (pa_cons (pe_callTy call_tuple_of (by rfl) T.f_tuple (by decide +kernel) (pa_cons (pe_lc (own := [("_law_ears", 1), ("_law_wide", 2), ("_law_begin", 3), ("_law_table", 4)]) (g := gTup K 4 (gCons (gName 1) (gCons (gName 2) (gCons (gName 3) (gCons (gName 4) gNil))))) (tt := tYes) rfl nd (pi_list (pv 0)) (blkOk_by (N := N_L_net) (sc := defScope s_L_net) (by decide +kernel))
          (fun _ _ _ _ _ => pg_tup (by rfl) (pgs_cons (pg_name (i := 1) nd rfl (Or.inl rfl)) (pgs_cons (pg_name (i := 2) nd rfl (Or.inl rfl)) (pgs_cons (pg_name (i := 3) nd rfl (Or.inl rfl)) (pgs_cons (pg_name (i := 4) nd rfl (Or.inl rfl)) pgs_nil))))) (fun _ _ _ _ _ => pts_nil)
          (fun _ _ _ _ _ => pe_makeK MR GR (hr.mono (by decide)) rfl T.g_Room kb3 pass0 (pa_cons (pv 1) pa_nil) (pk_cons (pv 2) (pk_cons (pv 3) (pk_cons (pv 4) pk_nil))))) pa_nil)) pa_nil)))), ?_⟩
    obtain ⟨as, ht, hPL⟩ := hP
    obtain ⟨hok, h5, _⟩ := id hw
    have pl := hPL.len
    refine ⟨_, rfl, t, rfl, ⟨_, SqL.of ht⟩, fun D hD => ?_⟩
    refine lc_it (walk_list (xs := as.map V.ref)) (fun j Hx => Same H Hx ∧ RoomsL K Hx D (rs.take j)) ⟨same_new (Same.refl _) hD, [], upd_same, rfl, fun i x r e => by cases e⟩ (fun j H' _ h => SqL.of (h.1 _ _ ht)) (fun j y H1 H2 hj h hy => ?_) (fun H1 h => ?_)
    · obtain ⟨rfl, hx⟩ := hy
      obtain ⟨s1, hRL⟩ := h
      rw [List.length_map] at hj
      have hjr : j < rs.length := by omega
      obtain ⟨a, ha, rfl⟩ : ∃ a, as[j]? = some a ∧ y = .ref a := by
        rw [List.getElem?_map] at hx
        cases e : as[j]? with
        | none => rw [e] at hx; cases hx
        | some a => rw [e] at hx; exact ⟨a, rfl, (Option.some.inj hx).symm⟩
      obtain ⟨th, tr, e1, e2, e3⟩ := hPL.get ha (List.getElem?_eq_getElem hjr)
      refine ⟨a, _, rfl, SqT.of (s1 _ _ e1), rfl, _, _, rfl, _, _, rfl, _, _, rfl, _, _, rfl, rfl, ?_⟩
      refine ⟨rfl, yes_ (iteT ⟨_, rfl, _, rfl, _, rfl, _, rfl, rfl, rfl, fun x dx nx nd' ne => ?_⟩)⟩
      refine ⟨x, dx, th, tr, _, _, rfl, upd_same, rfl, ?_⟩
      rw [upd2]
      obtain ⟨q1, q2⟩ := room_made (K := K) (hs := rs[j].hears) (rl := rs[j].rule) (sz := rs[j].size) (fi := rs[j].first) (Same.refl _) (s1 _ _ e2) (s1 _ _ e3) nx nd'
      obtain ⟨xs, m1, m2, m3, m4⟩ := rooms_more hRL q1 q2 (by rw [List.length_take]; omega)
      refine ⟨xs, m1, m3, same_new (s1.trans q1) hD, ?_⟩
      rw [List.take_add_one, List.getElem?_eq_getElem hjr]
      exact m4
    · obtain ⟨s1, hRL⟩ := h
      rw [List.length_map, pl, List.take_length] at hRL
      obtain ⟨bs, e1, e2, e3⟩ := hRL
      refine ⟨D, _, rfl, .inl ⟨SqL.of e1, fun tt htt => ?_⟩⟩
      intro wx wdx nwx nwd wne
      refine ⟨wx, wdx, tt, rs, rfl, upd_same, web_ready htt e2 e3 nwx nwd, hok, fun H7 s7 => ⟨rfl, ?_⟩⟩
      obtain ⟨sW, hW⟩ := web_made (K := K) rfl htt e2 e3 nwx nwd wne s7
      exact k _ wx (s1.trans sW) (none_same s1 (none_upd nwx)) hW
end
end S
set_option Elab.async false
set_option linter.all false
set_option maxRecDepth 100000
set_option maxHeartbeats 4000000
/-! # houses by their invariant: look, copy, poke -/
namespace S
open PySem PySem.Spec PyProof.Rows L2 G LamX NdefX SrtO
/-- a house that is as its invariant says -/
structure HOk (P : Program) (w : World) (K : PySem.W.Frag) (H : Hp) (A : HA) (rs : List RoomD) (m : Nat) (d : HouseD) : Prop where
  hc : HC K H A rs d false
  ok : OkWeb rs
  iv : HInv rs m d
  ap : Apart P w rs.length m
  m1 : m ≤ 61
section
variable {P : Program} {w : World} {K : PySem.W.Frag} {mg : Str → Option Value} {base : Heap}
theorem HOk.ext {H H' : Hp} {A : HA} {rs : List RoomD} {m : Nat} {d : HouseD} (h : HOk P w K H A rs m d) (e : ExtN H H') : HOk P w K H' A rs m d := ⟨h.hc.ext e, h.ok, h.iv, h.ap, h.m1⟩
theorem HOk.same {H H' : Hp} {A : HA} {rs : List RoomD} {m : Nat} {d : HouseD} (h : HOk P w K H A rs m d) (e : Same H H') : HOk P w K H' A rs m d := h.ext (ExtN.of e)
theorem HOk.box {H : Hp} {A : HA} {rs : List RoomD} {m : Nat} {d : HouseD} (h : HOk P w K H A rs m d) : rs.length * m ≤ 732 := Nat.le_trans (Nat.mul_le_mul h.ok.2.1 h.m1) (by decide)
theorem HOk.pl {H : Hp} {A : HA} {rs : List RoomD} {m : Nat} {d : HouseD} (h : HOk P w K H A rs m d) : d.pins.length ≤ 732 := Nat.le_trans (box_len1 h.iv.pn h.iv.pb) h.box
theorem HOk.rl {H : Hp} {A : HA} {rs : List RoomD} {m : Nat} {d : HouseD} (h : HOk P w K H A rs m d) : d.run.length ≤ 732 := Nat.le_trans (box_len1 h.iv.rn fun e he => (h.iv.rb e he).1) h.box
theorem HOk.ph {H : Hp} {A : HA} {rs : List RoomD} {m : Nat} {d : HouseD} (h : HOk P w K H A rs m d) : (d.pins.map fun e => DT2.hashT P w (cK e.1)).Nodup := h.ap.nd1 h.iv.pn h.iv.pb
def spLookI (P : Program) (w : World) (K : PySem.W.Frag) : Sp := fun vs H Q _ => ∃ (A : HA) (rs : List RoomD) (m : Nat) (d : HouseD) (room beat : Int), vs = [.ref A.x, .int room, .int beat] ∧ HOk P w K H A rs m d ∧ ((room, beat) : Cell) ∈ boxL rs.length m ∧ Tabs (TBS K) H ∧
  ∀ H' d', OutN A H H' → Tabs (TBS K) H' → HOk P w K H' A rs m d' → d'.pins = d.pins → d'.looked = addC d.looked (room, beat) → (∀ c, Need rs (kH d) [(room, beat)] c → seenH d' c = true) → Q (.int (wv rs d.pins (room, beat))) H'
theorem ok_H_lookI (T : Tx K mg) (L : LT K mg base) : ML P w K mg base CX0 9 (cHouse K) "look" ["self", "room", "beat"] (spLookI P w K) := by
  obtain ⟨f, fd, c, m, F, b⟩ := (ok_H_look (P := P) (w := w) T L).ex
  refine ⟨f, fd, c, m, F.imp fun vs H Q E h => ?_, b⟩
  obtain ⟨A, rs, m, d, room, beat, rfl, hO, hb, hT, k⟩ := h
  obtain ⟨U, R, L⟩ := look_plan (w := w) (P := P) hO.ok hO.iv hO.m1 hO.ap hb
  obtain ⟨bi, b0, b1⟩ := box_in.mp hb
  have bm := hO.m1
  have mem61 : ∀ e : Cell, e ∈ boxL rs.length m → e.2 ∈ (List.range 61).map fun i : Nat => (i : Int) := fun e he => by
    obtain ⟨_, e0, e1⟩ := box_in.mp he
    exact List.mem_map.mpr ⟨e.2.toNat, List.mem_range.mpr (by omega), by omega⟩
  have eR := ranL_eq rs R d
  refine ⟨A, rs, d, room, beat, (List.range 61).map fun i : Nat => (i : Int), U, R, rfl, hO.hc, hO.ok, bi, b0, ?_, Nat.le_trans hO.pl (by decide), Nat.le_trans hO.rl (by decide), by simp, fun e he => mem61 _ (hO.iv.pb e he), fun e he => mem61 _ (hO.iv.rb e he).1, hT, ?_, L.uo, L.rp, L.rs', L.ro, L.kh, ?_, fun H' o t hc => ?_⟩
  · have : beat < (m : Int) := b1
    omega
  · have := (cntC_le (rs := rs) (kn := kH d) (c := (room, beat)) bi beat.toNat).2
    have b0 : 0 ≤ beat := b0
    have b1 : beat < (m : Int) := b1
    have h2 : rs.length * beat.toNat ≤ 12 * 61 := Nat.mul_le_mul hO.ok.2.1 (by omega)
    have h3 : ((rs.length * beat.toNat : Nat) : Int) = (rs.length : Int) * (beat.toNat : Int) := by simp
    omega
  · rw [eR]
    exact Nat.le_trans (Nat.le_trans (box_len hO.iv.ln fun c hc => (hO.iv.lb c hc).1) hO.box) (by decide)
  · rw [L.st]
    refine k H' _ o t ⟨hc, hO.ok, L.iv, hO.ap, hO.m1⟩ ?_ ?_ L.se
    · rw [eR]
    · rw [eR]
def spCopyI (P : Program) (w : World) (K : PySem.W.Frag) : Sp := fun vs H Q _ => ∃ (A : HA) (rs : List RoomD) (m : Nat) (d : HouseD), vs = [.ref A.x] ∧ HOk P w K H A rs m d ∧
  ∀ H' (B : HA), Same H H' → (∀ q ∈ B.own, H q = none) → HOk P w K H' B rs m d → Q (.ref B.x) H'
theorem ok_H_copyI (T : Tx K mg) : ML P w K mg base CX0 4 (cHouse K) "copy" ["self"] (spCopyI P w K) := by
  obtain ⟨f, fd, c, m, F, b⟩ := (ok_H_copy (P := P) (w := w) (base := base) T).ex
  refine ⟨f, fd, c, m, F.imp fun vs H Q E h => ?_, b⟩
  obtain ⟨A, rs, m, d, rfl, hO, k⟩ := h
  have I := hO.iv
  have al : d.asked.length ≤ 732 := by rw [I.ak, List.length_map]; exact hO.rl
  have an : (d.asked.map fun c => DT2.hashT P w (cK c)).Nodup := hO.ap.nd (by rw [I.ak]; exact I.rn) fun c hc => by
    rw [I.ak] at hc
    obtain ⟨e, he, rfl⟩ := List.mem_map.mp hc
    exact (I.rb e he).1
  exact ⟨A, rs, d, rfl, hO.hc, hO.ok.2.1, I.kp, hO.ph, Nat.le_trans hO.pl (by decide), hO.ap.nd1 I.rn fun e he => (I.rb e he).1, Nat.le_trans hO.rl (by decide), an, Nat.le_trans al (by decide),
    hO.ap.nd I.hn fun c hc => (I.hb c hc).1, Nat.le_trans (Nat.le_trans (box_len I.hn fun c hc => (I.hb c hc).1) hO.box) (by decide), hO.ap.nd I.ln fun c hc => (I.lb c hc).1, Nat.le_trans (Nat.le_trans (box_len I.ln fun c hc => (I.lb c hc).1) hO.box) (by decide),
    fun H' B s n hc => k H' B s n ⟨hc, hO.ok, I, hO.ap, hO.m1⟩⟩
def spPokeI (P : Program) (w : World) (K : PySem.W.Frag) : Sp := fun vs H Q _ => ∃ (A : HA) (rs : List RoomD) (m : Nat) (d : HouseD) (room beat v : Int), vs = [.ref A.x, .int room, .int beat, .int v] ∧ HOk P w K H A rs m d ∧ ((room, beat) : Cell) ∈ boxL rs.length m ∧ 0 ≤ v ∧ v < (rAt rs room).size ∧
  (seenH d (room, beat) = true → wv rs d.pins (room, beat) = v ∧ ∀ H', Same H H' → Q (.bl false) H') ∧
  (seenH d (room, beat) = false → ∀ H', OutS A H H' → HOk P w K H' A rs m { d with pins := putE d.pins (room, beat) v } → Q (.bl true) H')
theorem ok_H_pokeI (T : Tx K mg) : ML P w K mg base CX0 5 (cHouse K) "poke" ["self", "room", "beat", "stand"] (spPokeI P w K) := by
  obtain ⟨f, fd, c, m, F, b⟩ := (ok_H_poke (P := P) (w := w) (base := base) T).ex
  refine ⟨f, fd, c, m, F.imp fun vs H Q E h => ?_, b⟩
  obtain ⟨A, rs, m, d, room, beat, v, rfl, hO, hb, v0, v1, ks, kf⟩ := h
  obtain ⟨bi, b0, b1⟩ := box_in.mp hb
  have bm := hO.m1
  refine ⟨A, rs, d, room, beat, v, rfl, hO.hc, bi, b0, ?_, v0, v1, Nat.le_trans hO.pl (by decide), fun hs => ?_, fun hs H' o hc => kf hs H' o ⟨hc, hO.ok, hO.iv.poke hs hb v0 v1, hO.ap, hO.m1⟩⟩
  · have : beat < (m : Int) := b1
    omega
  · obtain ⟨e, k⟩ := ks hs
    have hk := (hO.iv.seen_kH hs).2
    exact ⟨hk, by rw [hO.iv.stH b0 hk]; exact e, k⟩
def spPokeSI (P : Program) (w : World) (K : PySem.W.Frag) : Sp := fun vs H Q E => ∃ (A : HA) (rs : List RoomD) (m : Nat) (d : HouseD) (room beat v : Int), vs = [.ref A.x, .int room, .int beat, .int v] ∧ HOk P w K H A rs m d ∧ ((room, beat) : Cell) ∈ boxL rs.length m ∧ 0 ≤ v ∧ v < (rAt rs room).size ∧
  seenH d (room, beat) = true ∧ wv rs d.pins (room, beat) ≠ v ∧
  ∀ H' dd tp bs (cs : List Cell), Same H H' → H dd = none → H tp = none → H' dd = some (.xd [("way", .ref tp)]) → H' tp = some (.tup (bs.map V.ref)) → TupsAt H' (cs.map cV) bs → (∃ a, cs.head? = some a ∧ a ∈ d.looked) → cs.getLast? = some (room, beat) → E (.ref (cSeen K)) (some dd) H'
theorem ok_H_pokeSI (T : Tx K mg) (SN : SNx K mg) : ML P w K mg base (L2.CX P w) 6 (cHouse K) "poke" ["self", "room", "beat", "stand"] (spPokeSI P w K) := by
  obtain ⟨f, fd, c, m, F, b⟩ := (ok_H_poke_seen (P := P) (w := w) (base := base) T SN).ex
  refine ⟨f, fd, c, m, F.imp fun vs H Q E h => ?_, b⟩
  obtain ⟨A, rs, m, d, room, beat, v, rfl, hO, hb, v0, v1, hs, hv, k⟩ := h
  obtain ⟨bi, b0, b1⟩ := box_in.mp hb
  have bm := hO.m1
  have hk := (hO.iv.seen_kH hs).2
  obtain ⟨n, n1, w1, w2, w3⟩ := hO.iv.way hO.ok hO.m1 hs
  refine ⟨A, rs, d, room, beat, v, n, rfl, hO.hc, hO.ok, bi, b0, ?_, v0, v1, hs, hk, ?_, hO.iv.kp, n1, w1, w2, w3, k⟩
  · have : beat < (m : Int) := b1
    omega
  · rw [hO.iv.stH b0 hk]
    exact hv
def spFreeI (P : Program) (w : World) (K : PySem.W.Frag) : Sp := fun vs H Q _ => ∃ (A : HA) (rs : List RoomD) (m : Nat) (d : HouseD) (room beat : Int), vs = [.ref A.x, .int room, .int beat] ∧ HOk P w K H A rs m d ∧ ((room, beat) : Cell) ∈ boxL rs.length m ∧ ∀ H', Same H H' → Q (.bl (!seenH d (room, beat))) H'
theorem ok_H_freeI (T : Tx K mg) : ML P w K mg base CX0 5 (cHouse K) "is_free" ["self", "room", "beat"] (spFreeI P w K) := by
  obtain ⟨f, fd, c, m, F, b⟩ := (ok_H_is_free (P := P) (w := w) (base := base) T).ex
  refine ⟨f, fd, c, m, F.imp fun vs H Q E h => ?_, b⟩
  obtain ⟨A, rs, m, d, room, beat, rfl, hO, hb, k⟩ := h
  obtain ⟨bi, b0, b1⟩ := box_in.mp hb
  have bm := hO.m1
  refine ⟨A, rs, d, room, beat, rfl, hO.hc, bi, b0, ?_, k⟩
  have : beat < (m : Int) := b1
  omega
def spPokesI (P : Program) (w : World) (K : PySem.W.Frag) : Sp := fun vs H Q _ => ∃ (A : HA) (rs : List RoomD) (m : Nat) (d : HouseD), vs = [.ref A.x] ∧ HOk P w K H A rs m d ∧ ∀ p, H p = none → Q (.ref p) (upd H p (.dT (d.pins.map entI)))
theorem ok_H_pokesI (T : Tx K mg) : ML P w K mg base CX0 2 (cHouse K) "pokes" ["self"] (spPokesI P w K) := by
  obtain ⟨f, fd, c, m, F, b⟩ := (ok_H_pokes (P := P) (w := w) (base := base) T).ex
  refine ⟨f, fd, c, m, F.imp fun vs H Q E h => ?_, b⟩
  obtain ⟨A, rs, m, d, rfl, hO, k⟩ := h
  exact ⟨A, rs, d, rfl, hO.hc, hO.ph, k⟩
def spWebI (P : Program) (w : World) (K : PySem.W.Frag) : Sp := fun vs H Q _ => ∃ (A : HA) (rs : List RoomD) (m : Nat) (d : HouseD), vs = [.ref A.x] ∧ HOk P w K H A rs m d ∧ Q (.ref A.wb) H
theorem ok_H_webI (T : Tx K mg) : ML P w K mg base CX0 1 (cHouse K) "web" ["self"] (spWebI P w K) := by
  obtain ⟨f, fd, c, m, F, b⟩ := (ok_H_web (P := P) (w := w) (base := base) T).ex
  refine ⟨f, fd, c, m, F.imp fun vs H Q E h => ?_, b⟩
  obtain ⟨A, rs, m, d, rfl, hO, k⟩ := h
  exact ⟨A, rs, d, false, rfl, hO.hc, k⟩
/-! ### the law's pins -/
def spPins : Sp := fun vs H Q _ => ∃ (p t : Addr) (rs : List RoomD), vs = [.ref p, .ref t, .int 5, .int 5] ∧ BagAt H p ∧ PartsAt H t rs ∧ LawWeb rs ∧
  ∀ H' pk es, SameB p H H' → BagAt H' p → H pk = none → H' pk = some (.dT (es.map entI)) → (∀ e ∈ es, e.1 ∈ boxL rs.length 6) → PinsOk rs es → (es.map (·.1)).Nodup → es.length ≤ 6 → Q (.ref pk) H'
theorem PartsL.rAt {H : Hp} {rs : List RoomD} {as : List Addr} (h : PartsL H rs as) {j : Nat} (hj : j < rs.length) : ∃ a th tr, as[j]? = some a ∧ H a = some (.tup [.ref th, .int (S.rAt rs (j : Int)).size, .int (S.rAt rs (j : Int)).first, .ref tr]) := by
  have hl := h.len
  have hja : j < as.length := by omega
  obtain ⟨th, tr, e, _⟩ := h.get (List.getElem?_eq_getElem hja) (List.getElem?_eq_getElem hj)
  refine ⟨as[j], th, tr, List.getElem?_eq_getElem hja, ?_⟩
  have : S.rAt rs (j : Int) = rs[j] := by
    unfold S.rAt
    rw [Int.toNat_natCast, List.getD_eq_getElem?_getD, List.getElem?_eq_getElem hj]
    rfl
  rw [this]
  exact e
theorem PartsAt.sameB {p : Addr} {H H' : Hp} {t : Addr} {rs : List RoomD} (h : PartsAt H t rs) (tp : t ≠ p) (hb : BagAt H p) (s : SameB p H H') : PartsAt H' t rs := by
  obtain ⟨as, ht, hPL⟩ := h
  exact ⟨as, s t _ tp ht, hPL.mono fun b t e => s.get hb e⟩
theorem ok_L_pins (T : Tx K mg) : CL P w K mg base CX0 2 "_law_pins" ["_law_bag_here", "_law_parts_here", "_law_many", "_law_last"] spPins := by
  have G1 := ok_L_take (P := P) (w := w) (base := base) T
  have nd := sc_L_pins.nd
  refine CL.of0 T.d_L_pins T.g_L_pins sc_L_pins b_L_pins (fun vs H Q E h => ?_) (fun f cdv A outer s H vs Q E hr h => ?_)
  · obtain ⟨p, t, rs, rfl, _⟩ := h; rfl
  · obtain ⟨p, t, rs, rfl, hb, hP, hw, k⟩ := h
    refine ⟨_, (pss_cons (ps_set (i := 4) nd rfl (Or.inl rfl) pe_dnewT)
      (pss_cons (ps_for PassesOwn.never rfl (pi_range1 rfl T.f_range (pa_cons (pe_cl G1 hr (by decide) pass0 (pa_cons (pv 0) (pa_cons (pe_op op_add (pv 2) pe_int) pa_nil))) pa_nil)) (pg_name (i := 5) nd rfl (Or.inl rfl)) (pss_cons (ps_set (i := 6) nd rfl (Or.inl rfl) (pe_cl G1 hr (by decide) pass0 (pa_cons (pv 0) (pa_cons (pe_callB call_len_seq (by rfl) T.f_len PySem.boot_len (pa_cons (pv 1) pa_nil)) pa_nil))))
      (pss_one (ps_dput (hu_of hr) (pv 4) (pe_tup (pa_cons (pv 6) (pa_cons (pe_cl G1 hr (by decide) pass0 (pa_cons (pv 0) (pa_cons (pe_op op_add (pv 3) pe_int) pa_nil))) pa_nil))) (pe_cl G1 hr (by decide) pass0 (pa_cons (pv 0) (pa_cons (pe_ix ix_tup (pe_ix ix_list (pv 1) (pv 6) (fun _ _ => rfl)) pe_int (fun _ _ => rfl)) pa_nil))) rfl))))
      (pss_one (ps_ret (pv 4))))), ?_⟩
    intro pk hpk
    have pkp : pk ≠ p := fun z => by obtain ⟨_, q, _⟩ := hb; rw [z, q] at hpk; cases hpk
    have b1 : BagAt (upd H pk (.dT [])) p := let ⟨L, a1, a2⟩ := hb; ⟨L, by rw [upd_ne pkp.symm]; exact a1, a2⟩
    have s1 : SameB p H (upd H pk (.dT [])) := fun b o n e => by rw [upd_ne (ne_of_none e hpk)]; exact e
    have h1 : (upd H pk (.dT [])) pk = some (.dT (([] : List Ent).map entI)) := upd_same
    generalize upd H pk (.dT []) = H1 at b1 s1 h1 ⊢
    have rl : rs.length ≤ 5 := hw.2.1
    have r1 : 1 ≤ rs.length := hw.1.1
    obtain ⟨as, ht, hPL⟩ := id hP
    have al := hPL.len
    have tp : t ≠ p := fun z => by
      obtain ⟨_, q, ⟨g1, g2, g3, rfl, _⟩⟩ := hb
      rw [z, q] at ht
      injection ht with ht
      injection ht with ht
      cases as with
      | nil => cases ht
      | cons a as => injection ht with ht; cases ht
    refine ⟨_, rfl, _, rfl, _, _, rfl, rfl, p, 6, rfl, b1, by decide, by decide, fun d L d0 d1 hL => ⟨_, rfl, by omega, by omega, ?_⟩⟩
    refine for_range (lo := 0) (n := d.toNat) (fun i σ Hx => SameB p H Hx ∧ BagAt Hx p ∧ (∃ es : List Ent, Hx pk = some (.dT (es.map entI)) ∧ (∀ e ∈ es, e.1 ∈ boxL rs.length 6) ∧ PinsOk rs es ∧ (es.map (·.1)).Nodup ∧ es.length ≤ i) ∧ ∃ u5 u6, σ = [some (.ref p), some (.ref t), some (.int 5), some (.int 5), some (.ref pk), u5, u6])
      ⟨s1.trans SameB.bag, bag_upd hL, ⟨[], by rw [upd_ne pkp]; exact h1, fun _ h => (nomatch h), fun _ h => (nomatch h), List.nodup_nil, Nat.zero_le _⟩, _, _, rfl⟩ (fun i σ H2 hi h => ?_) (fun σ H2 h => ?_)
    · obtain ⟨s2, b2, ⟨es, he, hbx, hpo, hnd, hel⟩, u5, u6, rfl⟩ := h
      have ht2 := s2 t _ tp ht
      have sb0 : SameB p H2 H2 := fun _ _ _ e => e
      refine ⟨_, rfl, _, rfl, t, _, rfl, .inl (SqL.of ht2), p, _, rfl, b2, by rw [List.length_map]; omega, by rw [List.length_map]; omega, fun v L3 v0 v1 hL3 => ?_⟩
      rw [List.length_map] at v1
      obtain ⟨j, rfl⟩ := Int.eq_ofNat_of_zero_le v0
      have hj : j < rs.length := by omega
      have b3 := bag_upd (H := H2) (p := p) hL3
      have s3 : SameB p H (upd H2 p (.lst L3)) := s2.trans SameB.bag
      have he3 : (upd H2 p (.lst L3)) pk = some (.dT (es.map entI)) := by rw [upd_ne pkp]; exact he
      generalize upd H2 p (.lst L3) = H3 at b3 s3 he3 ⊢
      have ht3 := s3 t _ tp ht
      have hPL3 : PartsL H3 rs as := hPL.mono fun b tt e => s3.get hb e
      obtain ⟨a, th, tr, ea, ha⟩ := hPL3.rAt hj
      have hr0 := (ok_room hw.1 (r := (j : Int)) ⟨by omega, by omega⟩).2.2.2.1
      refine ⟨_, rfl, _, rfl, _, rfl, t, _, _, .ref a, rfl, rfl, SqL.of ht3, atI_nat (by rw [List.getElem?_map, ea]; rfl), a, _, _, .int (rAt rs (j : Int)).size, rfl, rfl, SqT.of ha, rfl, p, _, rfl, b3, by omega, by omega, fun v2 L4 w0 w1 hL4 => ?_⟩
      have b4 := bag_upd (H := H3) (p := p) hL4
      have s4 : SameB p H (upd H3 p (.lst L4)) := s3.trans SameB.bag
      have he4 : (upd H3 p (.lst L4)) pk = some (.dT (es.map entI)) := by rw [upd_ne pkp]; exact he3
      generalize upd H3 p (.lst L4) = H4 at b4 s4 he4 ⊢
      refine ⟨_, rfl, _, rfl, _, rfl, _, rfl, _, _, rfl, rfl, p, 6, rfl, b4, by decide, by decide, fun v3 L5 x0 x1 hL5 => ⟨(by show 2 ≤ sizeLine; decide), fun tt htt => ?_⟩⟩
      have b5 := bag_upd (H := H4) (p := p) hL5
      have s5 : SameB p H (upd H4 p (.lst L5)) := s4.trans SameB.bag
      have he5 : (upd H4 p (.lst L5)) pk = some (.dT (es.map entI)) := by rw [upd_ne pkp]; exact he4
      generalize upd H4 p (.lst L5) = H5 at b5 s5 he5 htt ⊢
      have n6 : Same H5 (upd H5 tt (.tup [.int (j : Int), .int v3])) := same_new (Same.refl _) htt
      have he6 := n6 _ _ he5
      have b6 := b5.same n6
      have s6 := s5.trans (SameB.of n6)
      have h6 : (upd H5 tt (.tup [.int (j : Int), .int v3])) tt = some (.tup (cV ((j : Int), v3))) := upd_same
      generalize upd H5 tt (.tup [.int (j : Int), .int v3]) = H6 at he6 b6 s6 h6 ⊢
      refine ⟨pk, _, rfl, DPut.t (k := cK ((j : Int), v3)) he6 h6 (by rw [List.length_map, sizeL]; omega), ?_⟩
      rw [putK_E]
      refine ⟨fun b o n e => by rw [upd_ne (ne_of_none e hpk)]; exact s6 _ _ n e, let ⟨L, a1, a2⟩ := b6; ⟨L, by rw [upd_ne pkp.symm]; exact a1, a2⟩, ⟨_, upd_same, fun e he => ?_, hpo.put w0 w1, by rw [putE_keys]; exact addC_nd hnd, ?_⟩, _, _, rfl⟩
      · rcases putE_mem he with rfl | he
        · exact box_in.mpr ⟨⟨by dsimp only; omega, by dsimp only; omega⟩, x0, x1⟩
        · exact hbx e he
      · have := congrArg List.length (putE_keys es ((j : Int), v3) v2)
        rw [List.length_map] at this
        have h2 : (addC (es.map (·.1)) ((j : Int), v3)).length ≤ es.length + 1 := by
          unfold addC
          split
          · rw [List.length_map]; omega
          · rw [List.length_append, List.length_map]; exact Nat.le_refl _
        omega
    · obtain ⟨s2, b2, ⟨es, he, hbx, hpo, hnd, hel⟩, u5, u6, rfl⟩ := h
      exact ⟨_, rfl, k H2 pk es s2 b2 hpk he hbx hpo hnd (by omega)⟩
end
end S
set_option Elab.async false
set_option linter.all false
set_option maxRecDepth 100000
set_option maxHeartbeats 4000000
/-! # the law's poked, sways_right -/
namespace S
open PySem PySem.Spec PyProof.Rows L2 G LamX NdefX SrtO
section
variable {P : Program} {w : World} {K : PySem.W.Frag} {mg : Str → Option Value} {base : Heap}
def spPoked (P : Program) (w : World) (K : PySem.W.Frag) : Sp := fun vs H Q _ => ∃ (A : HA) (ts ta : Addr) (rs : List RoomD) (m : Nat) (d : HouseD) (s aim : Cell) (v : Int), vs = [.ref A.x, .ref ts, .int v, .ref ta] ∧ HOk P w K H A rs m d ∧ H ts = some (.tup (cV s)) ∧ H ta = some (.tup (cV aim)) ∧ s ∈ boxL rs.length m ∧ aim ∈ boxL rs.length m ∧ 0 ≤ v ∧ v < (rAt rs s.1).size ∧ seenH d s = false ∧ Tabs (TBS K) H ∧
  ∀ H', ExtN H H' → Tabs (TBS K) H' → Q (.int (wv rs (putE d.pins s v) aim)) H'
theorem outN_new {H H1 H' : Hp} {B : HA} (s : Same H H1) (n : ∀ q ∈ B.own, H q = none) (o : OutN B H1 H') : ExtN H H' := fun b x e z => o b x (fun h => by rw [n b h] at e; cases e) (s b x e) z
theorem ok_L_poked (T : Tx K mg) (L : LT K mg base) : CL P w K mg base CX0 10 "_law_poked" ["_law_house", "_law_spot", "_law_mark", "_law_aim"] (spPoked P w K) := by
  have GC := ok_H_copyI (P := P) (w := w) (base := base) T
  have GP := ok_H_pokeI (P := P) (w := w) (base := base) T
  have GL := ok_H_lookI (P := P) (w := w) T L
  have nd := sc_L_poked.nd
  refine CL.of0 T.d_L_poked T.g_L_poked sc_L_poked b_L_poked (fun vs H Q E h => ?_) (fun f cdv A' outer s H vs Q E hr h => ?_)
  · obtain ⟨A, ts, ta, rs, m, d, s, aim, v, rfl, _⟩ := h; rfl
  · obtain ⟨A, ts, ta, rs, m, d, s, aim, v, rfl, hO, hts, hta, sb, ab, v0, v1, hs, hT, k⟩ := h
    refine ⟨_, (pss_cons (ps_set (i := 4) nd rfl (Or.inl rfl) (pe_ml0 GC hr (by decide) pass0 (pv 0)))
      (pss_cons (ps_expr (pe_ml GP hr (by decide) pass0 (pv 4) (pa_cons (pe_ix ix_tup (pv 1) pe_int (fun _ _ => rfl)) (pa_cons (pe_ix ix_tup (pv 1) pe_int (fun _ _ => rfl)) (pa_cons (pv 2) pa_nil)))))
      (pss_one (ps_ret (pe_ml GL hr (by decide) pass0 (pv 4) (pa_cons (pe_ix ix_tup (pv 3) pe_int (fun _ _ => rfl)) (pa_cons (pe_ix ix_tup (pv 3) pe_int (fun _ _ => rfl)) pa_nil))))))), ?_⟩
    refine ⟨_, rfl, _, _, _, rfl, hO.hc.ob, hf_m, A, rs, m, d, rfl, hO, fun H1 B s1 nB hB => ?_⟩
    have hts1 := s1 _ _ hts
    have hta1 := s1 _ _ hta
    refine ⟨_, rfl, _, _, _, rfl, hB.hc.ob, hf_m, _, rfl, ts, _, _, .int s.1, rfl, rfl, SqT.of hts1, rfl, _, rfl, ts, _, _, .int s.2, rfl, rfl, SqT.of hts1, rfl, _, rfl, B, rs, m, d, s.1, s.2, v, rfl, hB, sb, v0, v1, (fun z => by rw [hs] at z; cases z), fun _ H2 o2 h2 => ?_⟩
    have hta2 := o2 _ _ (hB.hc.notin hta1 (fun _ _ _ z => nomatch z) (fun _ z => nomatch z)) hta1
    have t1 : Tabs (TBS K) H1 := hT.ext s1
    have t2 := hB.hc.out_tabs t1 o2
    refine ⟨_, rfl, _, _, _, rfl, h2.hc.ob, hf_m, _, rfl, ta, _, _, .int aim.1, rfl, rfl, SqT.of hta2, rfl, _, rfl, ta, _, _, .int aim.2, rfl, rfl, SqT.of hta2, rfl, B, rs, m, _, aim.1, aim.2, rfl, h2, ab, t2, fun H3 d' o3 t3 _ _ _ _ => ?_⟩
    exact k H3 (outN_new s1 nB ((OutN.of o2).trans o3)) t3
/-- what is told of a swayer -/
structure FoundOk (rs : List RoomD) (m : Nat) (es : List Ent) (aim : Cell) (was : Int) (l : List Int) : Prop where
  ex : ∃ (k : Cell) (o t : Int), l = [k.1, k.2, o, t] ∧ k ∈ boxL rs.length m ∧ 0 ≤ o ∧ o < (rAt rs k.1).size ∧ t = wv rs (putE es k o) aim ∧ t ≠ was
def spSways (P : Program) (w : World) (K : PySem.W.Frag) : Sp := fun vs H Q _ => ∃ (A : HA) (fl ta : Addr) (rs : List RoomD) (m : Nat) (d : HouseD) (aim : Cell) (was : Int) (ls : List (List Int)) (bs : List Addr), vs = [.ref A.x, .ref fl, .ref ta, .int was] ∧ HOk P w K H A rs m d ∧ H fl = some (.lst (bs.map V.ref)) ∧ TupsAt H (ls.map nsv) bs ∧ H ta = some (.tup (cV aim)) ∧ aim ∈ boxL rs.length m ∧ (∀ c, seenH d c = false) ∧
  (∀ l ∈ ls, FoundOk rs m d.pins aim was l) ∧ Tabs (TBS K) H ∧ ∀ H', ExtN H H' → Tabs (TBS K) H' → Q (.bl true) H'
theorem TupsAt.ext {H H' : Hp} {ts : List (List V)} {bs : List Addr} (h : TupsAt H ts bs) (e : ExtN H H') : TupsAt H' ts bs := h.same fun b t q => extN_get e q
theorem ok_L_sways (T : Tx K mg) (L : LT K mg base) : CL P w K mg base CX0 11 "_law_sways_right" ["_law_house", "_law_found", "_law_aim", "_law_was"] (spSways P w K) := by
  have GP := ok_L_poked (P := P) (w := w) T L
  have nd := sc_L_sways_right.nd
  refine CL.of0 T.d_L_sways_right T.g_L_sways_right sc_L_sways_right b_L_sways_right (fun vs H Q E h => ?_) (fun f cdv A' outer s H vs Q E hr h => ?_)
  · obtain ⟨A, fl, ta, rs, m, d, aim, was, ls, bs, rfl, _⟩ := h; rfl
  · obtain ⟨A, fl, ta, rs, m, d, aim, was, ls, bs, rfl, hO, hfl, hbs, hta, ab, hs, hls, hT, k⟩ := h
    refine ⟨_, (pss_cons (ps_for PassesOwn.never rfl (pi_list (pv 1)) (pg_tup (by rfl) (pgs_cons (pg_name (i := 4) nd rfl (Or.inl rfl)) (pgs_cons (pg_name (i := 5) nd rfl (Or.inl rfl)) (pgs_cons (pg_name (i := 6) nd rfl (Or.inl rfl)) (pgs_cons (pg_name (i := 7) nd rfl (Or.inl rfl)) pgs_nil))))) (pss_one (ps_if (PW.pt (pw_or (pt_cmpR op_eq (pv 7) (pv 3) (nomark _)) (pw_or1 (pt_cmpR op_ne (pe_cl GP hr (by decide) pass0 (pa_cons (pv 0) (pa_cons (pe_tup (pa_cons (pv 4) (pa_cons (pv 5) pa_nil))) (pa_cons (pv 6) (pa_cons (pv 2) pa_nil))))) (pv 7) (nomark _))))) pss_never pss_nil)))
      (pss_one (ps_ret pe_bl))), ?_⟩
    have lbs : bs.length = ls.length := by
      have := Paired.length hbs
      rw [List.length_map] at this
      exact this.symm
    refine ⟨_, rfl, fl, rfl, ⟨_, SqL.of hfl⟩, ?_⟩
    refine for_list (xs := bs.map V.ref) (fun i σ Hx => ExtN H Hx ∧ Tabs (TBS K) Hx ∧ ∃ u4 u5 u6 u7, σ = [some (.ref A.x), some (.ref fl), some (.ref ta), some (.int was), u4, u5, u6, u7]) ⟨ExtN.refl _, hT, _, _, _, _, rfl⟩ (fun i σ Hx _ h => SqL.of (extN_get h.1 hfl)) (fun i x σ Hx hx h => ?_) (fun σ Hx h => ?_)
    · obtain ⟨e1, t1, u4, u5, u6, u7, rfl⟩ := h
      obtain ⟨b, hb, rfl⟩ : ∃ b, bs[i]? = some b ∧ x = .ref b := by
        rw [List.getElem?_map] at hx
        cases e : bs[i]? with
        | none => rw [e] at hx; cases hx
        | some b => rw [e] at hx; exact ⟨b, rfl, (Option.some.inj hx).symm⟩
      obtain ⟨tp, htp, htb⟩ := L2.DX.pget hbs hb
      rw [List.getElem?_map] at htp
      obtain ⟨l, hl, rfl⟩ := Option.map_eq_some_iff.mp htp
      obtain ⟨c, o, t, rfl, cb, o0, o1, rfl, ht⟩ := (hls l (List.mem_of_getElem? hl)).ex
      have htb1 := extN_get e1 htb
      refine ⟨b, _, rfl, SqT.of htb1, rfl, _, _, rfl, _, _, rfl, _, _, rfl, _, _, rfl, rfl, ?_⟩
      refine ⟨_, rfl, _, rfl, rfl, _, rfl, ?_⟩
      rw [dV, decide_eq_false ht]
      refine iteF ?_
      refine ⟨_, rfl, _, rfl, _, rfl, (by show 2 ≤ sizeLine; decide), fun tt htt => ⟨_, rfl, _, rfl, ?_⟩⟩
      have n2 : Same Hx (upd Hx tt (.tup [.int c.1, .int c.2])) := same_new (Same.refl _) htt
      have h2 : (upd Hx tt (.tup [.int c.1, .int c.2])) tt = some (.tup (cV c)) := upd_same
      have e2 : ExtN H (upd Hx tt (.tup [.int c.1, .int c.2])) := e1.trans (ExtN.of n2)
      have t2 : Tabs (TBS K) (upd Hx tt (.tup [.int c.1, .int c.2])) := t1.ext n2
      generalize upd Hx tt (.tup [.int c.1, .int c.2]) = H2 at h2 e2 t2 ⊢
      refine ⟨A, tt, ta, rs, m, d, c, aim, o, rfl, hO.ext e2, h2, extN_get e2 hta, cb, ab, o0, o1, hs c, t2, fun H3 e3 t3 => ?_⟩
      refine ⟨_, rfl, rfl, _, rfl, ?_⟩
      rw [dV]
      refine iteNDT rfl ?_
      exact ⟨e2.trans e3, t3, _, _, _, _, rfl⟩
    · obtain ⟨e1, t1, u4, u5, u6, u7, rfl⟩ := h
      exact k Hx e1 t1
end
end S
set_option Elab.async false
set_option linter.all false
set_option maxRecDepth 100000
set_option maxHeartbeats 4000000
/-! # the law's else_right -/
namespace S
open PySem PySem.Spec PyProof.Rows L2 G LamX NdefX SrtO
theorem BagAt.neL {H : Hp} {p b : Addr} {xs : List V} (h : BagAt H p) (e : H b = some (.lst xs)) (n : ∀ i j k : Int, xs ≠ [.int i, .int j, .int k]) : b ≠ p := fun z => by
  obtain ⟨L, q, g, w, m, rfl, _⟩ := h
  rw [z, q] at e
  cases e
  exact n _ _ _ rfl
theorem refs_ne {bs : List Addr} (i j k : Int) : bs.map V.ref ≠ [.int i, .int j, .int k] := fun z => by
  cases bs with
  | nil => cases z
  | cons a bs =>
    injection z with z
    cases z
theorem XB.get {p : Addr} {H H' : Hp} {b : Addr} {o : HO} (s : XB p H H') (h : BagAt H p) (e : H b = some o) (n : ∀ xs, o ≠ .lst xs := by intro xs z; cases z) (n2 : ∀ ps, o ≠ .tbl ps := by intro ps z; cases z) : H' b = some o := s b o (h.ne e n) e n2
theorem XB.getL {p : Addr} {H H' : Hp} {b : Addr} {bs : List Addr} (s : XB p H H') (h : BagAt H p) (e : H b = some (.lst (bs.map V.ref))) : H' b = some (.lst (bs.map V.ref)) := s b _ (h.neL e refs_ne) e (fun _ z => nomatch z)
theorem XB.web {K : PySem.W.Frag} {H H' : Hp} {p x : Addr} {rs : List RoomD} (s : XB p H H') (h : BagAt H p) (hW : WebAt K H x rs) : WebAt K H' x rs := by
  obtain ⟨dx, t, h1, as, h2, h3, h4⟩ := hW
  refine ⟨dx, t, s.get h h1, as, s.get h h2, h3, fun i a r h5 h6 => ?_⟩
  obtain ⟨dy, th, tr, g1, g2, g3⟩ := h4 i a r h5 h6
  exact ⟨dy, th, tr, s.get h g1, s.get h g2, s.get h g3⟩
theorem XB.hc {K : PySem.W.Frag} {H H' : Hp} {p : Addr} {A : HA} {rs : List RoomD} {d : HouseD} {b : Bool} (s : XB p H H') (h : BagAt H p) (c : HC K H A rs d b) : HC K H' A rs d b := by
  have n1 : A.ro ≠ p := h.neL c.ro fun _ _ _ z => by cases z
  have n2 : A.ft ≠ p := h.neL c.ft fun _ _ _ z => by
    cases hl : rs.length with
    | zero => rw [hl] at z; cases z
    | succ n =>
      rw [hl, List.replicate_succ] at z
      injection z with z
      cases z
  exact ⟨s.get h c.ob, s.web h c.wb, s.get h c.pn, s.get h c.rn, s.get h c.ak, s.get h c.hd, s.get h c.lk, s.get h c.kp, s _ _ n1 c.ro (fun _ z => nomatch z), s _ _ n2 c.ft (fun _ z => nomatch z), c.nd⟩
theorem XB.hok {P : Program} {w : World} {K : PySem.W.Frag} {H H' : Hp} {p : Addr} {A : HA} {rs : List RoomD} {m : Nat} {d : HouseD} (s : XB p H H') (h : BagAt H p) (c : HOk P w K H A rs m d) : HOk P w K H' A rs m d := ⟨s.hc h c.hc, c.ok, c.iv, c.ap, c.m1⟩
theorem XB.parts {H H' : Hp} {p t : Addr} {rs : List RoomD} (s : XB p H H') (h : BagAt H p) (c : PartsAt H t rs) : PartsAt H' t rs := by
  obtain ⟨as, ht, hPL⟩ := c
  exact ⟨as, s.getL h ht, hPL.mono fun b t e => s.get h e⟩
theorem XB.tups {H H' : Hp} {p : Addr} {ts : List (List V)} {bs : List Addr} (s : XB p H H') (h : BagAt H p) (c : TupsAt H ts bs) : TupsAt H' ts bs := c.same fun b t e => s.get h e
theorem XB.bag {H : Hp} {p : Addr} {o : HO} : XB p H (upd H p o) := XB.of SameB.bag
theorem XB.new {H : Hp} {p q : Addr} {o : HO} (n : H q = none) : XB p H (upd H q o) := XB.of (SameB.of (same_new (Same.refl _) n))
section
variable {P : Program} {w : World} {K : PySem.W.Frag} {mg : Str → Option Value} {base : Heap}
theorem sl_tupK {X : Cx} (K : PySem.W.Frag) (hK : X.K = K := by rfl) : SlR X (rSlT K) := by
  subst hK
  exact sl_tup
structure ElseIn (P : Program) (w : World) (K : PySem.W.Frag) (H : Hp) (p : Addr) (A : HA) (t fl ta : Addr) (rs : List RoomD) (d : HouseD) (aim : Cell) (was : Int) (ls : List (List Int)) (ks : List Cell) (bs : List Addr) (U : List Cell) : Prop where
  hb : BagAt H p
  hO : HOk P w K H A rs 8 d
  hP : PartsAt H t rs
  hw : LawWeb rs
  hfl : H fl = some (.lst (bs.map V.ref))
  hbs : TupsAt H (ls.map nsv) bs
  hta : H ta = some (.tup (cV aim))
  ab : aim ∈ boxL rs.length 8
  a6 : aim.2 ≤ 6
  hs : ∀ c, seenH d c = false
  uo : UOk rs (knP d.pins) aim U
  kl : ks.length = ls.length
  ll : ls.length ≤ 100000
  kk : ∀ (i : Nat) (c : Cell), ks[i]? = some c → ∃ o t, ls[i]? = some [c.1, c.2, o, t]
  el : ∀ (s : Cell) (v : Int), s ∈ boxL rs.length 8 → 0 ≤ v → v < (rAt rs s.1).size → s ∉ ks → (knP d.pins s = true ∨ s ∉ U) → wv rs (putE d.pins s v) aim = was
def spElse (P : Program) (w : World) (K : PySem.W.Frag) : Sp := fun vs H Q _ => ∃ (p : Addr) (A : HA) (t fl ta : Addr) (rs : List RoomD) (d : HouseD) (aim : Cell) (was : Int) (ls : List (List Int)) (ks : List Cell) (bs : List Addr) (U : List Cell), vs = [.ref p, .ref A.x, .ref t, .ref fl, .ref ta, .int was] ∧ ElseIn P w K H p A t fl ta rs d aim was ls ks bs U ∧ Tabs (TBS K) H ∧
  ∀ H', XB p H H' → BagAt H' p → Tabs (TBS K) H' → Q (.bl true) H'
theorem ok_L_else (T : Tx K mg) (L : LT K mg base) : CL P w K mg base CX0 11 "_law_else_right" ["_law_bag_here", "_law_house", "_law_parts_here", "_law_found", "_law_aim", "_law_was"] (spElse P w K) := by
  have G1 := ok_L_take (P := P) (w := w) (base := base) T
  have GP := ok_L_poked (P := P) (w := w) T L
  have GN := ok_needed (P := P) (w := w) T L
  have GW := ok_H_webI (P := P) (w := w) (base := base) T
  have GK := ok_H_pokesI (P := P) (w := w) (base := base) T
  have nd := sc_L_else_right.nd
  refine CL.of0 T.d_L_else_right T.g_L_else_right sc_L_else_right b_L_else_right (fun vs H Q E h => ?_) (fun f cdv A' outer s H vs Q E hr h => ?_)
  · obtain ⟨p, A, t, fl, ta, rs, d, aim, was, ls, ks, bs, U, rfl, _⟩ := h; rfl
  · obtain ⟨p, A, t, fl, ta, rs, d, aim, was, ls, ks, bs, U, rfl, I, hT, k⟩ := h
    refine ⟨_, (pss_cons (ps_setLc (i := 6) (own := [("_law_one", 11)]) (g := gName 11) (tt := tYes) rfl nd rfl rfl (sw_true rfl rfl rfl (by decide +kernel)) (pi_list (pv 3)) (blkOk_by (N := N_L_else_right) (sc := defScope s_L_else_right) (by decide +kernel))
          (fun _ _ _ _ _ => pg_name (i := 11) nd rfl (Or.inl rfl)) (fun _ _ _ _ _ => pts_nil) (fun _ _ _ _ _ => pe_slice (sl_tupK K) (pv 11) po_none (po_some pe_int)))
      (pss_cons (ps_for PassesOwn.never rfl (pi_range1 rfl T.f_range (pa_cons pe_int pa_nil)) (pg_name (i := 7) nd rfl (Or.inl rfl)) (pss_cons (ps_set (i := 8) nd rfl (Or.inl rfl) (pe_tup (pa_cons (pe_cl G1 hr (by decide) pass0 (pa_cons (pv 0) (pa_cons (pe_callB call_len_seq (by rfl) T.f_len PySem.boot_len (pa_cons (pv 2) pa_nil)) pa_nil))) (pa_cons (pe_cl G1 hr (by decide) pass0 (pa_cons (pv 0) (pa_cons pe_int pa_nil))) pa_nil))))
      (pss_cons (ps_set (i := 9) nd rfl (Or.inl rfl) (pe_pk GN hr (by decide) (pa_cons (pe_ml0 GW hr (by decide) pass0 (pv 1)) (pa_cons (pe_ix ix_tup (pv 4) pe_int (fun _ _ => rfl)) (pa_cons (pe_ix ix_tup (pv 4) pe_int (fun _ _ => rfl)) pa_nil))) (pk_cons (pe_ml0 GK hr (by decide) pass0 (pv 1)) pk_nil)))
      (C8.pss_cut (ps_set (i := 10) nd rfl (Or.inl rfl) (pe_or (pe_cmpR op_eq (pe_ix ix_tup (pv 8) pe_int (fun _ _ => rfl)) pe_int (nomark _)) (pe_one (pe_cmp (pc_din (hu_of hr) (pv 8) (pe_ml0 GK hr (by decide) pass0 (pv 1)))))))
      (pss_one (ps_if (PW.pt (pw_and (pt_cmpR (op_notInD (hu65 hr)) (pv 8) (pv 6) (by rfl)) (pw_and1 (PW.pt (pw_or (pt_val (pv 10)) (pw_or1 (pt_cmpR (op_notInD (hu65 hr)) (pv 8) (pv 9) (by rfl)))))))) (pss_one (ps_if (pt_cmpR op_ne (pe_cl GP hr (by decide) pass0 (pa_cons (pv 1) (pa_cons (pv 8) (pa_cons (pe_cl G1 hr (by decide) pass0 (pa_cons (pv 0) (pa_cons (pe_ix ix_tup (pe_ix ix_list (pv 2) (pe_ix ix_tup (pv 8) pe_int (fun _ _ => rfl)) (fun _ _ => rfl)) pe_int (fun _ _ => rfl)) pa_nil))) (pa_cons (pv 4) pa_nil))))) (pv 5) (nomark _)) pss_never pss_nil)) pss_nil))))))
      (pss_one (ps_ret pe_bl)))), ?_⟩
    have lbs : bs.length = ls.length := by
      have := Paired.length I.hbs
      rw [List.length_map] at this
      exact this.symm
    have kl := I.kl
    refine ⟨_, rfl, fl, rfl, ⟨_, SqL.of I.hfl⟩, fun D hD => ?_⟩
    refine lc_tups (walk_list (xs := bs.map V.ref)) (fun i => (ks[i]?).bind fun c => some (cV c)) ?_ hD (fun H' s' => SqL.of (s' _ _ I.hfl)) (fun i y H1 H2 acc Nx hi s1 hacc hlen hy k1 k0 => ?_) (fun H1 b2 s1 h1 ht1 => ?_)
    · rw [List.length_map, lbs]
      exact Nat.le_trans I.ll (by decide)
    · obtain ⟨rfl, hx⟩ := hy
      obtain ⟨b, hb, rfl⟩ : ∃ b, bs[i]? = some b ∧ y = .ref b := by
        rw [List.getElem?_map] at hx
        cases e : bs[i]? with
        | none => rw [e] at hx; cases hx
        | some b => rw [e] at hx; exact ⟨b, rfl, (Option.some.inj hx).symm⟩
      obtain ⟨tp, htp, htb⟩ := L2.DX.pget I.hbs hb
      rw [List.getElem?_map] at htp
      obtain ⟨l, hl, rfl⟩ := Option.map_eq_some_iff.mp htp
      have hik : i < ks.length := by
        have := (List.getElem?_eq_some_iff.mp hb).1
        omega
      have hke := List.getElem?_eq_getElem hik
      generalize ks[i] = c at hke
      obtain ⟨o, t', e2⟩ := I.kk i c hke
      rw [hl] at e2
      cases e2
      rw [hke] at k1
      refine ⟨rfl, yes_ (iteT ⟨_, rfl, _, rfl, b, _, rfl, SqT.of (s1 _ _ htb), (fun z => ?_), fun q nq => ?_⟩)⟩
      · have z2 : HT.sIx 4 4 (some 2) = 4 := z.2
        exact absurd z2 (by decide)
      · have s3 := same_new (Same.refl _) (o := .tup [.int c.1, .int c.2]) nq
        exact ⟨acc, s3 _ _ hacc, hlen, k1 q _ _ rfl upd_same s3⟩
    · have e2 : (List.range (bs.map V.ref).length).filterMap (fun i => (ks[i]?).bind fun c => some (cV c)) = ks.map cV := by
        rw [List.length_map, lbs, ← kl, filterMap_range, filterMap_some]
      rw [e2] at ht1
      have hb1 := I.hb.same s1
      have hO1 := I.hO.same s1
      have hP1 := XB.parts (XB.of (SameB.of s1)) I.hb I.hP
      have hT1 := hT.ext s1
      have hta1 := s1 _ _ I.hta
      have hw := I.hw
      have rl : rs.length ≤ 5 := hw.2.1
      have r1 : 1 ≤ rs.length := hw.1.1
      have Dp : D ≠ p := fun z => by obtain ⟨_, q, _⟩ := I.hb; rw [z, q] at hD; cases hD
      refine ⟨6, rfl, by decide, by decide, ?_⟩
      refine for_range (lo := 0) (n := 6) (fun i σ Hx => XB p H1 Hx ∧ BagAt Hx p ∧ Tabs (TBS K) Hx ∧ ∃ u7 u8 u9 u10, σ = [some (.ref p), some (.ref A.x), some (.ref t), some (.ref fl), some (.ref ta), some (.int was), some (.ref D), u7, u8, u9, u10, none]) ⟨XB.of fun _ _ _ e => e, hb1, hT1, _, _, _, _, rfl⟩ (fun i σ H2 hi h => ?_) (fun σ H2 h => ?_)
      · obtain ⟨x2, hb2, t2, u7, u8, u9, u10, rfl⟩ := h
        have hP2 := x2.parts hb1 hP1
        obtain ⟨as, ht2, hPL2⟩ := id hP2
        have al := hPL2.len
        refine ⟨_, rfl, _, rfl, t, _, rfl, .inl (SqL.of ht2), p, _, rfl, hb2, by rw [List.length_map]; omega, by rw [List.length_map]; omega, fun v L3 v0 v1 hL3 => ?_⟩
        rw [List.length_map] at v1
        obtain ⟨j, rfl⟩ := Int.eq_ofNat_of_zero_le v0
        have hj : j < rs.length := by omega
        have hb3 := bag_upd (H := H2) (p := p) hL3
        have x3 : XB p H1 (upd H2 p (.lst L3)) := x2.trans XB.bag
        have t3 : Tabs (TBS K) (upd H2 p (.lst L3)) := SameB.tabs (p := p) SameB.bag hb2 t2
        generalize upd H2 p (.lst L3) = H3 at hb3 x3 t3 ⊢
        refine ⟨_, rfl, p, 8, rfl, hb3, by decide, by decide, fun v4 L4 w0 w1 hL4 => ⟨(by show 2 ≤ sizeLine; decide), fun ts hts => ?_⟩⟩
        have hb4 := bag_upd (H := H3) (p := p) hL4
        have x4 : XB p H1 (upd H3 p (.lst L4)) := x3.trans XB.bag
        have t4 : Tabs (TBS K) (upd H3 p (.lst L4)) := SameB.tabs (p := p) SameB.bag hb3 t3
        generalize upd H3 p (.lst L4) = H4 at hb4 x4 t4 hts ⊢
        have n5 : Same H4 (upd H4 ts (.tup [.int (j : Int), .int v4])) := same_new (Same.refl _) hts
        have h5 : (upd H4 ts (.tup [.int (j : Int), .int v4])) ts = some (.tup (cV ((j : Int), v4))) := upd_same
        have hb5 := hb4.same n5
        have x5 : XB p H1 _ := x4.trans (XB.of (SameB.of n5))
        have t5 := t4.ext n5
        generalize upd H4 ts (.tup [.int (j : Int), .int v4]) = H5 at n5 h5 hb5 x5 t5 ⊢
        have hO5 := x5.hok hb1 hO1
        have hta5 := x5.get hb1 hta1
        have sbx : (((j : Int), v4) : Cell) ∈ boxL rs.length 8 := box_in.mpr ⟨⟨by dsimp only; omega, by dsimp only; omega⟩, w0, w1⟩
        obtain ⟨ai, a0, a1⟩ := box_in.mp I.ab
        have a6 := I.a6
        refine ⟨_, rfl, _, _, _, rfl, hO5.hc.ob, hf_m, A, rs, 8, d, rfl, hO5, _, rfl, ta, _, _, .int aim.1, rfl, rfl, SqT.of hta5, rfl, _, rfl, ta, _, _, .int aim.2, rfl, rfl, SqT.of hta5, rfl, ?_⟩
        refine ⟨_, rfl, _, _, _, rfl, hO5.hc.ob, hf_m, A, rs, 8, d, rfl, hO5, fun pk hpk => ⟨rfl, rfl, ?_⟩⟩
        have n6 : Same H5 (upd H5 pk (.dT (d.pins.map entI))) := same_new (Same.refl _) hpk
        have h6 : (upd H5 pk (.dT (d.pins.map entI))) pk = some (.dT (d.pins.map entI)) := upd_same
        have hO6 := hO5.same n6
        have x6 : XB p H1 _ := x5.trans (XB.of (SameB.of n6))
        have t6 := t5.ext n6
        have hb6 := hb5.same n6
        have h56 := n6 _ _ h5
        generalize upd H5 pk (.dT (d.pins.map entI)) = H6 at n6 h6 hO6 x6 t6 hb6 h56 ⊢
        refine ⟨A.wb, rs, aim.1, aim.2, .ref pk, d.pins, U, rfl, hO6.hc.wb, hO6.ok, ai, a0, by omega, .inr ⟨pk, rfl, h6⟩, Nat.le_trans hO6.pl (by decide), t6, ?_, I.uo, fun H7 q zb zs e7 t7 zp zw hq hzt => ?_⟩
        · have := (cntC_le (rs := rs) (kn := knP d.pins) (c := (aim.1, aim.2)) ai aim.2.toNat).2
          have h3 : rs.length * aim.2.toNat ≤ 5 * 6 := Nat.mul_le_mul rl (by omega)
          have h4 : ((rs.length * aim.2.toNat : Nat) : Int) = (rs.length : Int) * (aim.2.toNat : Int) := by simp
          omega
        have hO7 := hO6.ext e7
        have x7 : XB p H1 H7 := x6.trans (XB.ext e7)
        have hb7 := hb6.ext e7
        have h57 := extN_get e7 h56
        have hta7 := x7.get hb1 hta1
        have htq : TupsAt H7 (zs.map cV) zb := hzt
        refine ⟨fun σ H' => XB p H7 H' ∧ BagAt H' p ∧ Tabs (TBS K) H' ∧ σ = [some (.ref p), some (.ref A.x), some (.ref t), some (.ref fl), some (.ref ta), some (.int was), some (.ref D), some (.int (0 + (i : Int))), some (.ref ts), some (.ref q), some (.bl (knP d.pins ((j : Int), v4))), none], ?_, ?_⟩
        · refine ⟨_, rfl, ts, _, _, .int v4, rfl, rfl, SqT.of h57, rfl, rfl, _, rfl, ?_⟩
          rw [dV]
          by_cases z : v4 = 0
          · rw [decide_eq_true z]
            refine iteT ⟨XB.of fun _ _ _ e => e, hb7, t7, ?_⟩
            rw [show knP d.pins ((j : Int), v4) = true from knP_iff.mpr (.inl z)]
            rfl
          · rw [decide_eq_false z]
            refine iteF ⟨_, rfl, _, rfl, _, _, _, rfl, hO7.hc.ob, hf_m, A, rs, 8, d, rfl, hO7, fun pk2 hpk2 => ?_⟩
            have n8 : Same H7 (upd H7 pk2 (.dT (d.pins.map entI))) := same_new (Same.refl _) hpk2
            refine ⟨pk2, _, rfl, DGet.t (k := cK ((j : Int), v4)) upd_same (n8 _ _ h57), ?_⟩
            rw [valV_ent, Option.isSome_map]
            refine ⟨XB.of (SameB.of n8), hb7.same n8, t7.ext n8, ?_⟩
            rw [show knP d.pins ((j : Int), v4) = (lkP d.pins ((j : Int), v4)).isSome by unfold knP; rw [decide_eq_false (show ¬ (((j : Int), v4) : Cell).2 = 0 from z), Bool.false_or]]
            rfl
        · rintro σ H8 ⟨x78, hb8, t8, rfl⟩
          have x8 : XB p H1 H8 := x7.trans x78
          have h58 := x78.get hb7 h57
          have hO8 := x78.hok hb7 hO7
          have hD8 := x8 D _ Dp h1 (fun _ z => nomatch z)
          have hDt8 := x8.tups hb1 ht1
          have hq8 := x78.getL hb7 hq
          have hqt8 := x78.tups hb7 htq
          have hta8 := x8.get hb1 hta1
          refine ⟨_, rfl, _, rfl, cD ((j : Int), v4), _, .tup (SqT.of h58) (.cons (.int _) (.cons (.int _) .nil)), .lst (SqL.of hD8) (dpAll_cells hDt8), shaped_cell _, shaped_cells _, _, rfl, ?_⟩
          rw [any_cell]
          have zmem : ∀ c, c ∈ zs ↔ c ∈ U := fun c => zp.mem_iff
          by_cases q1 : (((j : Int), v4) : Cell) ∈ ks
          · rw [decide_eq_true q1]
            refine iteF ?_
            exact ⟨x8, hb8, t8, _, _, _, _, rfl⟩
          rw [decide_eq_false q1]
          refine iteT ⟨_, rfl, _, rfl, ?_⟩
          cases e : knP d.pins ((j : Int), v4) with
          | true =>
            refine iteT ?_
            have hcase : knP d.pins ((j : Int), v4) = true ∨ (((j : Int), v4) : Cell) ∉ U := .inl e
            obtain ⟨as8, ht8, hPL8⟩ := x8.parts hb1 hP1
            obtain ⟨a, th, tr, ea, ha⟩ := hPL8.rAt hj
            have hr0 := (ok_room hw.1 (r := (j : Int)) ⟨by omega, by omega⟩).2.2.2.1
            refine ⟨_, rfl, _, rfl, _, rfl, _, rfl, _, rfl, ts, _, _, .int (j : Int), rfl, rfl, SqT.of h58, rfl, t, _, _, .ref a, rfl, rfl, SqL.of ht8, atI_nat (by rw [List.getElem?_map, ea]; rfl), a, _, _, .int (rAt rs (j : Int)).size, rfl, rfl, SqT.of ha, rfl, p, _, rfl, hb8, by omega, by omega, fun v5 L9 y0 y1 hL9 => ?_⟩
            have hb9 := bag_upd (H := H8) (p := p) hL9
            have x89 : XB p H8 (upd H8 p (.lst L9)) := XB.bag
            have t9 : Tabs (TBS K) (upd H8 p (.lst L9)) := SameB.tabs (p := p) SameB.bag hb8 t8
            generalize upd H8 p (.lst L9) = H9 at hb9 x89 t9 ⊢
            have hta9 := x89.get hb8 hta8
            refine ⟨_, rfl, A, ts, ta, rs, 8, d, ((j : Int), v4), aim, v5, rfl, x89.hok hb8 hO8, x89.get hb8 h58, hta9, sbx, I.ab, y0, y1, I.hs _, t9, fun H10 e10 t10 => ?_⟩
            rw [I.el _ v5 sbx y0 y1 q1 hcase]
            refine ⟨_, rfl, rfl, _, rfl, ?_⟩
            rw [dV]
            refine iteNDT rfl ?_
            exact ⟨(x8.trans x89).trans (XB.ext e10), hb9.ext e10, t10, _, _, _, _, rfl⟩
          | false =>
            refine iteF ⟨_, rfl, _, rfl, cD ((j : Int), v4), _, .tup (SqT.of h58) (.cons (.int _) (.cons (.int _) .nil)), .lst (SqL.of hq8) (dpAll_cells hqt8), shaped_cell _, shaped_cells _, _, rfl, ?_⟩
            rw [any_cell]
            by_cases q2 : (((j : Int), v4) : Cell) ∈ zs
            · rw [decide_eq_true q2]
              exact iteF ⟨x8, hb8, t8, _, _, _, _, rfl⟩
            rw [decide_eq_false q2]
            refine iteT ?_
            have hcase : knP d.pins ((j : Int), v4) = true ∨ (((j : Int), v4) : Cell) ∉ U := .inr fun z => q2 ((zmem _).mpr z)
            obtain ⟨as8, ht8, hPL8⟩ := x8.parts hb1 hP1
            obtain ⟨a, th, tr, ea, ha⟩ := hPL8.rAt hj
            have hr0 := (ok_room hw.1 (r := (j : Int)) ⟨by omega, by omega⟩).2.2.2.1
            refine ⟨_, rfl, _, rfl, _, rfl, _, rfl, _, rfl, ts, _, _, .int (j : Int), rfl, rfl, SqT.of h58, rfl, t, _, _, .ref a, rfl, rfl, SqL.of ht8, atI_nat (by rw [List.getElem?_map, ea]; rfl), a, _, _, .int (rAt rs (j : Int)).size, rfl, rfl, SqT.of ha, rfl, p, _, rfl, hb8, by omega, by omega, fun v5 L9 y0 y1 hL9 => ?_⟩
            have hb9 := bag_upd (H := H8) (p := p) hL9
            have x89 : XB p H8 (upd H8 p (.lst L9)) := XB.bag
            have t9 : Tabs (TBS K) (upd H8 p (.lst L9)) := SameB.tabs (p := p) SameB.bag hb8 t8
            generalize upd H8 p (.lst L9) = H9 at hb9 x89 t9 ⊢
            have hta9 := x89.get hb8 hta8
            refine ⟨_, rfl, A, ts, ta, rs, 8, d, ((j : Int), v4), aim, v5, rfl, x89.hok hb8 hO8, x89.get hb8 h58, hta9, sbx, I.ab, y0, y1, I.hs _, t9, fun H10 e10 t10 => ?_⟩
            rw [I.el _ v5 sbx y0 y1 q1 hcase]
            refine ⟨_, rfl, rfl, _, rfl, ?_⟩
            rw [dV]
            refine iteNDT rfl ?_
            exact ⟨(x8.trans x89).trans (XB.ext e10), hb9.ext e10, t10, _, _, _, _, rfl⟩
      · obtain ⟨x2, hb2, t2, u7, u8, u9, u10, rfl⟩ := h
        exact k H2 ((XB.of (SameB.of s1)).trans x2) hb2 t2
end
end S
set_option Elab.async false
set_option linter.all false
set_option maxRecDepth 100000
set_option maxHeartbeats 4000000
/-! # the law's seen_right -/
namespace S
open PySem PySem.Spec PyProof.Rows L2 G LamX NdefX SrtO
section
variable {X : Cx} {CX : CXT} {k j : Nat} {C : Addr} {ps : List Str} {sp : Sp} {E : L2.St → XK} {m : Str} {p pos apos : Pos} {e o : Expr} {es : List Expr} {ta : TE} {t : TA}
theorem op_neDK {X : Cx} (K : PySem.W.Frag) (hu : X.A.units + 64 < cLine) (hK : X.K = K := by rfl) : OpR X (compareOp .NotEq) (rNeD K) := by
  subst hK
  exact op_neD hu
/-- a method's call whose error is taken at the slots -/
def tMethS (C : Addr) (m : Str) (sp : Sp) (E : L2.St → XK) (ta : TE) (t : TA) : TE := fun σ H Q => ta σ H fun x H1 => ∃ a dx fs, x = .ref a ∧ H1 a = some (.ins C dx fs) ∧ fs.lookup m = none ∧ t σ H1 fun vs H2 => sp (x :: vs) H2 Q (E σ)
theorem pe_mlS {pl : Sem Bool} (c : ML X.prog X.w X.K X.mg X.base CX k C m ps sp) (hr : Room j X.A) (hk : k ≤ j) (hx : ∀ σ, PassesAt CX X σ (E σ)) (he : PE X o ta) (ha : PA X (e :: es) t)
    (hst : starEach (e :: es) X.env = (false, eval e X.env) :: starEach es X.env := by rfl) (hpl : (backTo pos (starEach es X.env)).any (·.1) = false := by rfl)
    (ht : eval (.Call (.Attribute o m apos) (e :: es) [] pos) X.env = (do
      let ov ← eval o X.env
      standAt apos.atName
      let (f, first) ← holding [ov] (getMethod ov m pl)
      callWith pos f first (backTo pos (starEach (e :: es) X.env)) (backToKw pos (keywordEach [] X.env))) := by rfl) :
    PE X (.Call (.Attribute o m apos) (e :: es) [] pos) (tMethS C m sp E ta t) := by
  obtain ⟨f, fd, hc, hm, F, hb⟩ := c.ex
  refine ⟨fun pins s σ H Q I h => ?_⟩
  refine PySem.W.methodCall_KW (pl := pl) (thn (he.run pins s σ H _ I h) fun u s1 ⟨x, H1, I1, rx, a, dx, fs, ex, ea, l, q⟩ => ?_) ht
  subst ex
  obtain rfl : u = Value.ref a := rx
  refine getmeth_ok I1 ea hc hm l ?_
  refine PySem.W.callWith_K (first := [.ref a]) (h₀ := X.base) I.ok.mod.kin hm.kp (thn (ha.run pos pins s1 σ H1 _ I1 q) fun us s2 ⟨vs, H2, I2, r, q2⟩ => ⟨I2.kIn, ?_⟩) hst hpl
  exact run_fnS (us := .ref a :: us) (vs := .ref a :: vs) F (hr.mono hk) hb (hx σ) I2 (.cons rfl r) q2
end
section
variable {P : Program} {w : World} {K : PySem.W.Frag} {mg : Str → Option Value} {base : Heap}
structure SeenIn (P : Program) (w : World) (K : PySem.W.Frag) (H : Hp) (A : HA) (fl ta : Addr) (rs : List RoomD) (m : Nat) (d : HouseD) (aim : Cell) (ls : List (List Int)) (bs : List Addr) : Prop where
  hO : HOk P w K H A rs m d
  hfl : H fl = some (.lst (bs.map V.ref))
  hbs : TupsAt H (ls.map nsv) bs
  hta : H ta = some (.tup (cV aim))
  lk : d.looked = [aim]
  ex : ∀ l ∈ ls, ∃ (k : Cell) (o t : Int), l = [k.1, k.2, o, t] ∧ k ∈ boxL rs.length m ∧ 0 ≤ o ∧ o < (rAt rs k.1).size ∧ seenH d k = true ∧ wv rs d.pins k ≠ o
def spSeenR (P : Program) (w : World) (K : PySem.W.Frag) : Sp := fun vs H Q _ => ∃ (A : HA) (fl ta : Addr) (rs : List RoomD) (m : Nat) (d : HouseD) (aim : Cell) (ls : List (List Int)) (bs : List Addr), vs = [.ref A.x, .ref fl, .ref ta] ∧ SeenIn P w K H A fl ta rs m d aim ls bs ∧ ∀ H', Same H H' → Q (.bl true) H'
theorem ok_L_seen (T : Tx K mg) (SN : SNx K mg) (hX : XfC K (cSeen K)) : CL P w K mg base CX0 7 "_law_seen_right" ["_law_house", "_law_found", "_law_aim"] (spSeenR P w K) := by
  have GF := ok_H_freeI (P := P) (w := w) (base := base) T
  have GP := ok_H_pokeSI (P := P) (w := w) (base := base) T SN
  have nd := sc_L_seen_right.nd
  refine CL.of0 T.d_L_seen_right T.g_L_seen_right sc_L_seen_right b_L_seen_right (fun vs H Q E h => ?_) (fun f cdv A' outer s H vs Q E hr h => ?_)
  · obtain ⟨A, fl, ta, rs, m, d, aim, ls, bs, rfl, _⟩ := h; rfl
  · obtain ⟨A, fl, ta, rs, m, d, aim, ls, bs, rfl, I, k⟩ := h
    refine ⟨_, (pss_cons (ps_for PassesOwn.never rfl (pi_list (pv 1)) (pg_tup (by rfl) (pgs_cons (pg_name (i := 3) nd rfl (Or.inl rfl)) (pgs_cons (pg_name (i := 4) nd rfl (Or.inl rfl)) (pgs_cons (pg_name (i := 5) nd rfl (Or.inl rfl)) (pgs_cons (pg_name (i := 6) nd rfl (Or.inl rfl)) pgs_nil))))) (pss_cons (ps_if (pt_val (pe_ml GF hr (by decide) pass0 (pv 0) (pa_cons (pv 3) (pa_cons (pv 4) pa_nil)))) pss_never pss_nil)
      (pss_one (ps_try_as (i := 7) (Wout := fun _ _ _ _ => False) rfl rfl nd rfl rfl ⟨rfl, by decide, Or.inl T.g_Seen⟩ L2.takes0
            (fun W pn xe tk _ => (pss_cons (ps_expr (by exact (pe_mlS (E := WE W) GP hr (by decide) (fun σ => passAt tk σ) (pv 0) (by exact (pa_cons (pv 3) (pa_cons (pv 4) (pa_cons (pv 5) pa_nil))))))) pss_never))
            (fun a oe cls d pn hz hf => pss_one (ps_if (PW.pt (pw_or (pt_cmpR (by exact op_neDK K hr.units) (pe_ix (ix_tupK K) (pe_xf hX SN.noN hz hf (pv 7)) pe_int (fun _ _ => rfl)) (pv 2) (nomark _)) (pw_or1 (pt_cmpR (by exact op_neDK K hr.units) (pe_ix (ix_tupK K) (pe_xf hX SN.noN hz hf (pv 7)) (pe_un un_neg pe_int) (fun _ _ => rfl)) (pe_tup (pa_cons (pv 3) (pa_cons (pv 4) pa_nil))) (nomark _))))) pss_never pss_nil))))))
      (pss_one (ps_ret pe_bl))), ?_⟩
    refine ⟨_, rfl, fl, rfl, ⟨_, SqL.of I.hfl⟩, ?_⟩
    refine for_list (xs := bs.map V.ref) (fun i σ Hx => Same H Hx ∧ ∃ u3 u4 u5 u6, σ = [some (.ref A.x), some (.ref fl), some (.ref ta), u3, u4, u5, u6, none]) ⟨Same.refl _, _, _, _, _, rfl⟩ (fun i σ Hx _ h => SqL.of (h.1 _ _ I.hfl)) (fun i x σ Hx hx h => ?_) (fun σ Hx h => ?_)
    · obtain ⟨s1, u3, u4, u5, u6, rfl⟩ := h
      obtain ⟨b, hb, rfl⟩ : ∃ b, bs[i]? = some b ∧ x = .ref b := by
        rw [List.getElem?_map] at hx
        cases e : bs[i]? with
        | none => rw [e] at hx; cases hx
        | some b => rw [e] at hx; exact ⟨b, rfl, (Option.some.inj hx).symm⟩
      obtain ⟨tp, htp, htb⟩ := L2.DX.pget I.hbs hb
      rw [List.getElem?_map] at htp
      obtain ⟨l, hl, rfl⟩ := Option.map_eq_some_iff.mp htp
      obtain ⟨c, o, t, rfl, cb, o0, o1, hs, hv⟩ := I.ex l (List.mem_of_getElem? hl)
      refine ⟨b, _, rfl, SqT.of (s1 _ _ htb), rfl, _, _, rfl, _, _, rfl, _, _, rfl, _, _, rfl, rfl, ?_⟩
      have hO1 := I.hO.same s1
      refine ⟨_, rfl, _, _, _, rfl, hO1.hc.ob, hf_m, _, rfl, _, rfl, A, rs, m, d, c.1, c.2, rfl, hO1, cb, fun H2 s2 => ⟨_, rfl, ?_⟩⟩
      rw [show seenH d (c.1, c.2) = true from hs]
      refine iteF ?_
      have hO2 := hO1.same s2
      refine ⟨_, rfl, _, _, _, rfl, hO2.hc.ob, hf_m, _, rfl, _, rfl, _, rfl, A, rs, m, d, c.1, c.2, o, rfl, hO2, cb, o0, o1, hs, hv, fun H3 dd tq b2 cs s3 nd ntp hdd htq hcs hhead hlast => ?_⟩
      have s13 := s1.trans (s2.trans s3)
      have hta3 := s13 _ _ I.hta
      obtain ⟨a0, ha0, hal⟩ := hhead
      rw [I.lk, List.mem_singleton] at hal
      subst hal
      have bl2 := Paired.length hcs
      rw [List.length_map] at bl2
      refine ⟨true, SN.te, fun _ a ha => ⟨_, rfl, rfl, rfl, dd, _, .ref tq, rfl, hdd, by kernel_rfl, ?_⟩, fun q => nomatch q⟩
      have cpos : 0 < cs.length := by
        cases cs with
        | nil => cases ha0
        | cons z cs => exact Nat.succ_pos _
      have hg0 : cs[0]? = some a0 := by
        rw [← ha0]
        cases cs <;> rfl
      have hgl : cs[cs.length - 1]? = some c := by
        rw [← List.getLast?_eq_getElem?]
        exact hlast
      have at3 : ∀ (j : Nat) (e : Cell), cs[j]? = some e → ∃ q, b2[j]? = some q ∧ H3 q = some (.tup (cV e)) := fun j e he => by
        have hj : j < b2.length := by
          have := (List.getElem?_eq_some_iff.mp he).1
          omega
        obtain ⟨tp, htp, hq⟩ := L2.DX.pget hcs (List.getElem?_eq_getElem hj)
        rw [List.getElem?_map, he] at htp
        cases htp
        exact ⟨_, List.getElem?_eq_getElem hj, hq⟩
      obtain ⟨q0, hq0, ht0⟩ := at3 0 a0 hg0
      obtain ⟨ql, hql, htl⟩ := at3 _ c hgl
      refine ⟨tq, _, _, .ref q0, rfl, rfl, SqT.of htq, atI_nat (j := 0) (by rw [List.getElem?_map, hq0]; rfl), _, rfl, cD a0, cD a0, .tup (SqT.of ht0) (.cons (.int _) (.cons (.int _) .nil)), .tup (SqT.of hta3) (.cons (.int _) (.cons (.int _) .nil)), shaped_cell _, shaped_cell _, _, rfl, ?_⟩
      rw [eqv_cell, decide_eq_true rfl]
      refine iteF ?_
      refine ⟨_, rfl, rfl, rfl, dd, _, .ref tq, rfl, hdd, by kernel_rfl, _, rfl, tq, _, _, .ref ql, rfl, rfl, SqT.of htq, ?_, _, rfl, _, rfl, (by show 2 ≤ sizeLine; decide), fun tt ntt => ?_⟩
      · refine atI_neg1 ?_
        rw [List.length_map, List.getElem?_map, ← bl2, hql]
        rfl
      have s4 : Same H3 (upd H3 tt (.tup [.int c.1, .int c.2])) := same_new (Same.refl _) ntt
      refine ⟨cD c, cD c, .tup (SqT.of (s4 _ _ htl)) (.cons (.int _) (.cons (.int _) .nil)), .tup (SqT.of upd_same) (.cons (.int _) (.cons (.int _) .nil)), shaped_cell _, shaped_cell _, _, rfl, ?_⟩
      rw [eqv_cell, decide_eq_true rfl]
      refine iteF ?_
      exact ⟨s13.trans s4, _, _, _, _, rfl⟩
    · obtain ⟨s1, u3, u4, u5, u6, rfl⟩ := h
      exact k Hx s1
end
end S
set_option Elab.async false
set_option linter.all false
set_option maxRecDepth 100000
set_option maxHeartbeats 4000000
/-! # the law -/
namespace S
open PySem PySem.Spec PyProof.Rows L2 G LamX NdefX SrtO
theorem sqL_ext {K : PySem.W.Frag} {H H' : Hp} {a : Addr} {xs : List V} (e : ExtN H H') (h : SqL K H a xs) : SqL K H' a xs := by
  rcases h with (h | ⟨o, h⟩) | h
  · exact .inl (.inl (extN_get e h))
  · exact .inl (.inr ⟨o, extN_get e h⟩)
  · exact .inr h
/-- one turn of the law: the bag, the parts, the house -/
structure TurnAt (P : Program) (w : World) (K : PySem.W.Frag) (Hc Hx : Hp) (p : Addr) (A : HA) (t : Addr) (rs : List RoomD) (d : HouseD) : Prop where
  ex : ExtN Hc Hx
  hb : BagAt Hx p
  hP : PartsAt Hx t rs
  hO : HOk P w K Hx A rs 8 d
  tb : Tabs (TBS K) Hx
section
variable {P : Program} {w : World} {K : PySem.W.Frag} {mg : Str → Option Value} {base : Heap} {Hc Hx Hy : Hp} {p t : Addr} {A : HA} {rs : List RoomD} {d d' : HouseD}
theorem TurnAt.same (h : TurnAt P w K Hc Hx p A t rs d) (s : Same Hx Hy) : TurnAt P w K Hc Hy p A t rs d := ⟨h.ex.trans (ExtN.of s), h.hb.same s, XB.parts (XB.of (SameB.of s)) h.hb h.hP, h.hO.same s, h.tb.ext s⟩
theorem TurnAt.xb (h : TurnAt P w K Hc Hx p A t rs d) (np : Hc p = none) (s : XB p Hx Hy) (b : BagAt Hy p) (tb : Tabs (TBS K) Hy) : TurnAt P w K Hc Hy p A t rs d := ⟨s.toN h.ex np, b, s.parts h.hb h.hP, s.hok h.hb h.hO, tb⟩
theorem TurnAt.take (h : TurnAt P w K Hc Hx p A t rs d) (np : Hc p = none) {L : List V} (hL : BagL L) : TurnAt P w K Hc (upd Hx p (.lst L)) p A t rs d := h.xb np XB.bag (bag_upd hL) (SameB.tabs SameB.bag h.hb h.tb)
theorem TurnAt.ext (h : TurnAt P w K Hc Hx p A t rs d) (s : ExtN Hx Hy) (tb : Tabs (TBS K) Hy) : TurnAt P w K Hc Hy p A t rs d := ⟨h.ex.trans s, h.hb.ext s, XB.parts (XB.ext s) h.hb h.hP, h.hO.ext s, tb⟩
theorem TurnAt.out (h : TurnAt P w K Hc Hx p A t rs d) (nA : ∀ b o, Hc b = some o → (∀ ps, o ≠ .tbl ps) → b ∉ A.own) (s : OutN A Hx Hy) (o : HOk P w K Hy A rs 8 d') (tb : Tabs (TBS K) Hy) : TurnAt P w K Hc Hy p A t rs d' := by
  have kl : ∀ (b : Addr) (xs : List V), Hx b = some (.lst xs) → Hy b = some (.lst xs) := fun b xs e => s b _ (h.hO.hc.notin e (fun _ _ _ z => nomatch z) (fun _ z => nomatch z)) e (fun _ z => nomatch z)
  have kt : ∀ (b : Addr) (xs : List V), Hx b = some (.tup xs) → Hy b = some (.tup xs) := fun b xs e => s b _ (h.hO.hc.notin e (fun _ _ _ z => nomatch z) (fun _ z => nomatch z)) e (fun _ z => nomatch z)
  obtain ⟨L, e, hL⟩ := h.hb
  obtain ⟨as, ht, hPL⟩ := h.hP
  exact ⟨fun b x e n => s b x (nA b x e n) (h.ex b x e n) n, ⟨L, kl _ _ e, hL⟩, ⟨as, kl _ _ ht, hPL.mono fun b t e => kt b t e⟩, o, tb⟩
def spLaw (K : PySem.W.Frag) : Sp := fun vs H Q _ => ∃ (a : Addr) (sc : List Int), vs = [.ref a] ∧ SqL K H a (sc.map V.int) ∧ sc.length ≤ 63 ∧ Tabs (TBS K) H ∧ ∀ H', Q (.bl true) H'
theorem ok_law (T : Tx K mg) (L : LT K mg base) (hI : C8.InsC K (cRoom K)) (SN : SNx K mg) (hX : XfC K (cSeen K)) (AP : ∀ n, n ≤ 5 → Apart P w n 8) {f0 : Addr} {fd0 : FuncData} (F0 : FunD K "law" "law" (defArgs s_law) (defBody s_law) (defScope s_law) [] [] f0 fd0) : FnOk P w K mg base CX0 12 f0 fd0 ["_law_script"] (spLaw K) := by
  have GB := ok_L_bag (P := P) (w := w) (base := base) T
  have G1 := ok_L_take (P := P) (w := w) (base := base) T
  have GP := ok_L_parts (P := P) (w := w) (base := base) T
  have GN := ok_L_net (P := P) (w := w) (base := base) T hI
  have GH := ok_House_init (P := P) (w := w) (base := base) T
  have GI := ok_L_pins (P := P) (w := w) (base := base) T
  have GK := ok_H_pokeI (P := P) (w := w) (base := base) T
  have GW := ok_H_webI (P := P) (w := w) (base := base) T
  have GQ := ok_H_pokesI (P := P) (w := w) (base := base) T
  have GS := (ok_swayers (P := P) (w := w) T L).pk
  have GC := ok_H_copyI (P := P) (w := w) (base := base) T
  have GL := ok_H_lookI (P := P) (w := w) T L
  have GF := ok_H_freeI (P := P) (w := w) (base := base) T
  have G2 := ok_L_sways (P := P) (w := w) T L
  have G3 := ok_L_else (P := P) (w := w) T L
  have G4 := ok_L_seen (P := P) (w := w) (base := base) T SN hX
  have nd := sc_law.nd
  refine fn_body0 F0 sc_law (fun vs H Q E h => ?_) (fun f cdv A' outer s H vs Q E hr h => ?_)
  · obtain ⟨a, sc, rfl, _⟩ := h; rfl
  · obtain ⟨a, sc, rfl, ha, h63, hT, k⟩ := h
    refine ⟨_, (pss_cons (ps_for PassesOwn.never rfl (pi_range1 rfl T.f_range (pa_cons (pe_op op_add pe_int (pe_callB (call_min2 rfl) (by rfl) T.f_min (by decide +kernel) (pa_cons pe_int (pa_cons (pe_callB call_len_seq (by rfl) T.f_len PySem.boot_len (pa_cons (pv 0) pa_nil)) pa_nil)))) pa_nil)) (pg_name (i := 1) nd rfl (Or.inl rfl)) (pss_cons (ps_set (i := 2) nd rfl (Or.inl rfl) (pe_cl GB hr (by decide) pass0 (pa_cons (pv 0) (pa_cons (pv 1) pa_nil))))
      (pss_cons (ps_set (i := 3) nd rfl (Or.inl rfl) (pe_cl GP hr (by decide) pass0 (pa_cons (pv 2) (pa_cons pe_int (pa_cons pe_int pa_nil)))))
      (pss_cons (ps_par (i := 4) (j := 5) rfl nd rfl rfl (by decide) rfl rfl (pa_cons (pe_kl GH hr (by decide) pass0 (pa_cons (pe_cl GN hr (by decide) pass0 (pa_cons (pv 3) pa_nil)) pa_nil)) (pa_cons (pe_cl GI hr (by decide) pass0 (pa_cons (pv 2) (pa_cons (pv 3) (pa_cons pe_int (pa_cons pe_int pa_nil))))) pa_nil)) rfl)
      (pss_cons (ps_for PassesOwn.never rfl (pi_list (pe_callB (DT2.cr_sortedDT rfl) (by rfl) T.f_sorted (by decide +kernel) (pa_cons (pv 5) pa_nil))) (pg_name (i := 6) nd rfl (Or.inl rfl)) (pss_one (ps_expr (pe_ml GK hr (by decide) pass0 (pv 4) (pa_cons (pe_ix ix_tup (pv 6) pe_int (fun _ _ => rfl)) (pa_cons (pe_ix ix_tup (pv 6) pe_int (fun _ _ => rfl)) (pa_cons (pe_dget (hu_of hr) (pv 5) (pv 6) (fun _ _ => rfl)) pa_nil)))))))
      (pss_cons (ps_set (i := 7) nd rfl (Or.inl rfl) (pe_tup (pa_cons (pe_cl G1 hr (by decide) pass0 (pa_cons (pv 2) (pa_cons (pe_callB call_len_seq (by rfl) T.f_len PySem.boot_len (pa_cons (pv 3) pa_nil)) pa_nil))) (pa_cons (pe_cl G1 hr (by decide) pass0 (pa_cons (pv 2) (pa_cons pe_int pa_nil))) pa_nil))))
      (pss_cons (ps_set (i := 8) nd rfl (Or.inl rfl) (pe_pk GS hr (by decide) (pa_cons (pe_ml0 GW hr (by decide) pass0 (pv 4)) (pa_cons (pe_ix ix_tup (pv 7) pe_int (fun _ _ => rfl)) (pa_cons (pe_ix ix_tup (pv 7) pe_int (fun _ _ => rfl)) pa_nil))) (pk_cons (pe_ml0 GQ hr (by decide) pass0 (pv 4)) pk_nil)))
      (pss_cons (ps_set (i := 9) nd rfl (Or.inl rfl) (pe_ml GL hr (by decide) pass0 (pe_ml0 GC hr (by decide) pass0 (pv 4)) (pa_cons (pe_ix ix_tup (pv 7) pe_int (fun _ _ => rfl)) (pa_cons (pe_ix ix_tup (pv 7) pe_int (fun _ _ => rfl)) pa_nil))))
      (pss_cons (ps_if (PW.pt (pw_or (pt_not (pt_val (pe_cl G2 hr (by decide) pass0 (pa_cons (pv 4) (pa_cons (pv 8) (pa_cons (pv 7) (pa_cons (pv 9) pa_nil))))))) (pw_or1 (pt_not (pt_val (pe_cl G3 hr (by decide) pass0 (pa_cons (pv 2) (pa_cons (pv 4) (pa_cons (pv 3) (pa_cons (pv 8) (pa_cons (pv 7) (pa_cons (pv 9) pa_nil)))))))))))) pss_never pss_nil)
      (pss_cons (ps_if (PW.pt (pw_or (pt_not (pt_val (pe_ml GF hr (by decide) pass0 (pv 4) (pa_cons (pe_ix ix_tup (pv 7) pe_int (fun _ _ => rfl)) (pa_cons (pe_ix ix_tup (pv 7) pe_int (fun _ _ => rfl)) pa_nil))))) (pw_or1 (pt_cmpR op_ne (pe_ml GL hr (by decide) pass0 (pv 4) (pa_cons (pe_ix ix_tup (pv 7) pe_int (fun _ _ => rfl)) (pa_cons (pe_ix ix_tup (pv 7) pe_int (fun _ _ => rfl)) pa_nil))) (pv 9) (nomark _))))) pss_never pss_nil)
      (pss_one (ps_if (pt_not (pt_val (pe_cl G4 hr (by decide) pass0 (pa_cons (pv 4) (pa_cons (pv 8) (pa_cons (pv 7) pa_nil)))))) pss_never pss_nil))))))))))))
      (pss_one (ps_ret pe_bl))), ?_⟩
    refine ⟨_, rfl, _, _, rfl, .inl ha, _, _, rfl, _, _, rfl, rfl, _, rfl, (by split <;> omega), (by split <;> omega), ?_⟩
    rw [List.length_map]
    refine for_range (lo := 0) (n := (1 + (if (sc.length : Int) < 3 then (sc.length : Int) else 3)).toNat) (fun i σ Hc => ExtN H Hc ∧ Tabs (TBS K) Hc ∧ ∃ u1 u2 u3 u4 u5 u6 u7 u8 u9, σ = [some (.ref a), u1, u2, u3, u4, u5, u6, u7, u8, u9]) ⟨ExtN.refl _, hT, _, _, _, _, _, _, _, _, _, rfl⟩ (fun i σ Hc hi hp => ?_) (fun σ Hc hp => ?_)
    · obtain ⟨eC, tC, u1, u2, u3, u4, u5, u6, u7, u8, u9, rfl⟩ := hp
      have hi4 : i ≤ 4 := by
        have : (1 + (if (sc.length : Int) < 3 then (sc.length : Int) else 3)).toNat ≤ 4 := by split <;> omega
        omega
      refine ⟨_, rfl, _, rfl, a, sc, _, rfl, sqL_ext eC ha, by omega, by omega, fun Hb p sb p0 hb => ?_⟩
      -- parts, web, house, pins
      refine ⟨_, rfl, p, rfl, hb, fun H1 t rs s1 b1 t0 hw hP1 => ?_⟩
      have rl : rs.length ≤ 5 := hw.2.1
      have r1 : 1 ≤ rs.length := hw.1.1
      have tp : t ≠ p := fun z => by obtain ⟨_, q, _⟩ := hb; rw [z, q] at t0; cases t0
      refine ⟨_, rfl, t, rs, rfl, hP1, hw, fun H2 wb s2 wb0 hW => ?_⟩
      intro x dx nx ndx ne
      refine ⟨H2, x, dx, wb, rs, rfl, upd_same, same_new (same_new (Same.refl _) ndx) nx, nx, hW, by omega, fun H3 A e1 e2 s3 own hA => ⟨rfl, ?_⟩⟩
      subst e1
      have b3 : BagAt H3 p := (b1.same s2).same s3
      have hP3 : PartsAt H3 t rs := XB.parts (XB.of (SameB.of (s2.trans s3))) b1 hP1
      refine ⟨_, rfl, _, rfl, p, t, rs, rfl, b3, hP3, hw, fun H4 pk es0 s4 b4 pk0 hpk hbx hpo hnd hel => ⟨_, _, rfl, ?_⟩⟩
      -- what holds of the turn
      have eb1 : ExtN Hc H1 := (XB.of s1).toN (ExtN.of sb) p0
      have eb2 : ExtN Hc H2 := eb1.trans (ExtN.of s2)
      have nA : ∀ b o, Hc b = some o → (∀ ps, o ≠ .tbl ps) → b ∉ A.own := fun b o e n hq => by
        have := eb2 b o e n
        rw [own b hq] at this
        cases this
      have T3 : TurnAt P w K Hc H3 p A t rs newH := ⟨eb2.trans (ExtN.of s3), b3, hP3, ⟨hA, hw.1, HInv.fresh (es := []) (fun _ h => nomatch h) (fun _ h => nomatch h) List.nodup_nil, AP _ rl, by decide⟩, ((SameB.tabs s1 hb (tC.ext sb)).ext s2).ext s3⟩
      have T4 := T3.xb p0 (XB.of s4) b4 (SameB.tabs s4 b3 T3.tb)
      have pkn : pk ∉ A.own := hA.none_notin pk0
      clear s1 b1 t0 hP1 s2 wb0 hW nx ndx ne own s3 hA b3 hP3 s4 b4 T3 eb1 eb2
      -- sorted(pins), poked
      refine ⟨_, rfl, pk, _, es0.map (·.1), rfl, hpk, (by rw [List.map_map, List.map_map]; rfl), fun zk bk q pmk pwk prk nq => ?_⟩
      have s5 := same_new (Same.refl H4) (o := .lst (bk.map V.ref)) nq
      have T5 := T4.same s5
      have hpk5 := s5 _ _ hpk
      have hq5 : (upd H4 q (.lst (bk.map V.ref))) q = some (.lst (bk.map V.ref)) := upd_same
      have prk5 : TupsAt (upd H4 q (.lst (bk.map V.ref))) (zk.map cV) bk := pm2 (Paired.mapP prk fun z b e => s5 _ _ e)
      refine ⟨q, rfl, ⟨_, SqL.of hq5⟩, ?_⟩
      generalize upd H4 q (.lst (bk.map V.ref)) = H5 at T5 hpk5 hq5 prk5 ⊢
      have outL : ∀ {Hx : Hp} {b : Addr} {xs : List V}, OutN A H5 Hx → H5 b = some (.lst xs) → Hx b = some (.lst xs) := fun o e => o _ _ (T5.hO.hc.notin e (fun _ _ _ z => nomatch z) (fun _ z => nomatch z)) e (fun _ z => nomatch z)
      have outT : ∀ {Hx : Hp} {b : Addr} {xs : List V}, OutN A H5 Hx → H5 b = some (.tup xs) → Hx b = some (.tup xs) := fun o e => o _ _ (T5.hO.hc.notin e (fun _ _ _ z => nomatch z) (fun _ z => nomatch z)) e (fun _ z => nomatch z)
      refine for_list (xs := bk.map V.ref) (fun i' σ Hx => OutN A H5 Hx ∧ (∃ es : List Ent, TurnAt P w K Hc Hx p A t rs { newH with pins := es }) ∧ ∃ v6, σ = [some (.ref a), some (.int (0 + (i : Int))), some (.ref p), some (.ref t), some (.ref A.x), some (.ref pk), v6, u7, u8, u9]) ⟨fun _ _ _ e _ => e, ⟨[], T5⟩, _, rfl⟩ (fun i' σ Hx _ h => SqL.of (outL h.1 hq5)) (fun i' y σ Hx hy h => ?_) (fun σ Hx h => ?_)
      · obtain ⟨o1, ⟨es, T6⟩, v6, rfl⟩ := h
        obtain ⟨b, hb', rfl⟩ : ∃ b, bk[i']? = some b ∧ y = .ref b := by
          rw [List.getElem?_map] at hy
          cases e : bk[i']? with
          | none => rw [e] at hy; cases hy
          | some b => rw [e] at hy; exact ⟨b, rfl, (Option.some.inj hy).symm⟩
        obtain ⟨tp', htp, htb⟩ := L2.DX.pget prk5 hb'
        rw [List.getElem?_map] at htp
        obtain ⟨c, hc, rfl⟩ := Option.map_eq_some_iff.mp htp
        have hcm : c ∈ es0.map (·.1) := pmk.mem_iff.mp (List.mem_of_getElem? hc)
        obtain ⟨en, hen, rfl⟩ := List.mem_map.mp hcm
        have hlk : lkP es0 en.1 = some en.2 := lkP_nd hnd hen
        have htb6 := outT o1 htb
        have hpk6 : Hx pk = some (.dT (es0.map entI)) := o1 _ _ pkn hpk5 (fun _ z => nomatch z)
        obtain ⟨bi, bb0, bb1⟩ := box_in.mp (hbx _ hen)
        have hv := hpo _ hen
        have hg := DGet.t (k := cK en.1) hpk6 htb6
        rw [valV_ent, hlk] at hg
        have cb : ((en.1.1, en.1.2) : Cell) ∈ boxL rs.length 8 := box_in.mpr ⟨bi, bb0, by have : en.1.2 < ((6 : Nat) : Int) := bb1; show en.1.2 < ((8 : Nat) : Int); omega⟩
        refine ⟨_, rfl, _, _, _, rfl, T6.hO.hc.ob, hf_m, _, rfl, b, _, _, .int en.1.1, rfl, rfl, SqT.of htb6, rfl, _, rfl, b, _, _, .int en.1.2, rfl, rfl, SqT.of htb6, rfl, _, rfl, _, rfl, pk, .int en.2, rfl, hg, ?_⟩
        refine ⟨A, rs, 8, _, en.1.1, en.1.2, en.2, rfl, T6.hO, cb, hv.1, hv.2, (fun z => by cases z), fun _ H7 o7 h7 => ?_⟩
        have o7n := OutN.of o7
        exact ⟨o1.trans o7n, ⟨_, T6.out nA o7n h7 (T6.hO.hc.out_tabs T6.tb o7)⟩, _, rfl⟩
      · obtain ⟨o1, ⟨es, T6⟩, v6, rfl⟩ := h
        clear outL outT T5 hpk5 hq5 prk5 T4 hpk
        obtain ⟨d, hd⟩ : ∃ d : HouseD, d = { newH with pins := es } := ⟨_, rfl⟩
        rw [← hd] at T6
        have hs : ∀ c, seenH d c = false := fun c => by rw [hd]; rfl
        have hkH : kH d = knP d.pins := by rw [hd]; rfl
        have hlkd : d.looked = [] := by rw [hd]; rfl
        clear hd es
        -- aim
        obtain ⟨as, ht6, hPL6⟩ := id T6.hP
        have al := hPL6.len
        refine ⟨_, rfl, _, rfl, t, _, rfl, .inl (SqL.of ht6), p, _, rfl, T6.hb, by rw [List.length_map]; omega, by rw [List.length_map]; omega, fun v L3 v0 v1 hL3 => ?_⟩
        rw [List.length_map] at v1
        obtain ⟨j, rfl⟩ := Int.eq_ofNat_of_zero_le v0
        have hj : j < rs.length := by omega
        have T7 := T6.take p0 hL3
        generalize upd Hx p (.lst L3) = H7 at T7 ⊢
        refine ⟨_, rfl, p, 7, rfl, T7.hb, by decide, by decide, fun v4 L4 w0 w1 hL4 => ⟨(by show 2 ≤ sizeLine; decide), fun ta hta => ?_⟩⟩
        have T8 := T7.take p0 hL4
        generalize upd H7 p (.lst L4) = H8 at T8 hta ⊢
        have n9 : Same H8 (upd H8 ta (.tup [.int (j : Int), .int v4])) := same_new (Same.refl _) hta
        have h9 : (upd H8 ta (.tup [.int (j : Int), .int v4])) ta = some (.tup (cV ((j : Int), v4))) := upd_same
        have T9 := T8.same n9
        generalize upd H8 ta (.tup [.int (j : Int), .int v4]) = H9 at h9 T9 ⊢
        obtain ⟨aim, ea⟩ : ∃ aim : Cell, aim = ((j : Int), v4) := ⟨_, rfl⟩
        rw [← ea] at h9
        have ai : InR rs aim.1 := by rw [ea]; exact ⟨by dsimp only; omega, by dsimp only; omega⟩
        have a0 : 0 ≤ aim.2 := by rw [ea]; exact w0
        have a6 : aim.2 ≤ 6 := by rw [ea]; dsimp only; omega
        have ab : aim ∈ boxL rs.length 8 := box_in.mpr ⟨ai, a0, by omega⟩
        clear T7 T8 ht6 hPL6 T6 ea
        -- swayers
        refine ⟨_, rfl, _, _, _, rfl, T9.hO.hc.ob, hf_m, A, rs, 8, d, rfl, T9.hO, _, rfl, ta, _, _, .int aim.1, rfl, rfl, SqT.of h9, rfl, _, rfl, ta, _, _, .int aim.2, rfl, rfl, SqT.of h9, rfl, ?_⟩
        refine ⟨_, rfl, _, _, _, rfl, T9.hO.hc.ob, hf_m, A, rs, 8, d, rfl, T9.hO, fun pk2 hpk2 => ⟨rfl, rfl, ?_⟩⟩
        have n10 : Same H9 (upd H9 pk2 (.dT (d.pins.map entI))) := same_new (Same.refl _) hpk2
        have hpk10 : (upd H9 pk2 (.dT (d.pins.map entI))) pk2 = some (.dT (d.pins.map entI)) := upd_same
        have T10 := T9.same n10
        have h10 := n10 _ _ h9
        generalize upd H9 pk2 (.dT (d.pins.map entI)) = H10 at hpk10 T10 h10 ⊢
        have I := T10.hO.iv
        obtain ⟨U, R, lot, SP⟩ := sway_plan (P := P) (w := w) hw.1 I.pb I.pv I.pn (by decide) (AP _ rl) ab (by
          have h3 : rs.length * aim.2.toNat ≤ 5 * 6 := Nat.mul_le_mul rl (by omega)
          have h4 : ((rs.length * aim.2.toNat : Nat) : Int) = (rs.length : Int) * (aim.2.toNat : Int) := by simp
          rw [Int.toNat_of_nonneg a0] at h4
          omega)
        refine ⟨A.wb, rs, aim.1, aim.2, .ref pk2, d.pins, U, R, lot, _, rfl, T10.hO.hc.wb, .inr ⟨pk2, rfl, hpk10⟩, T10.tb, SP.si, fun H11 fl bs e11 t11 hfl hbs => ?_⟩
        obtain ⟨ls, hls⟩ : ∃ ls, ls = swayF rs d.pins (U.filter (knP d.pins)) (gK rs d.pins aim) := ⟨_, rfl⟩
        rw [← hls] at hbs
        have T11 := T10.ext e11 t11
        have h11 := extN_get e11 h10
        have uo : UOk rs (knP d.pins) aim U := SP.si.uo
        have hmem : ∀ l ∈ ls, ∃ (k : Cell) (o t : Int), l = [k.1, k.2, o, t] ∧ k ∈ U ∧ knP d.pins k = true ∧ 0 ≤ o ∧ o < (rAt rs k.1).size ∧ o ≠ stF rs d.pins k ∧ t = wv rs (putE d.pins k o) aim ∧ t ≠ wv rs d.pins aim := fun l hl => by
          rw [hls] at hl
          exact sway_mem SP.ub a0 uo.inr hw.1 hl
        have hUb : ∀ c ∈ U, c ∈ boxL rs.length 8 := fun c hc => by
          obtain ⟨z1, z2, z3⟩ := need_bd hw.1 ai a0 (kn := knP d.pins) (fun c z => knP_iff.mpr (.inl z)) (uo.nr c hc)
          exact box_in.mpr ⟨z1, z2, by omega⟩
        clear T10 hpk10 h10 T9 h9
        -- what the house tells
        refine ⟨_, rfl, _, _, _, rfl, T11.hO.hc.ob, hf_m, A, rs, 8, d, rfl, T11.hO, fun H12 B s12 nB hB => ?_⟩
        have h12 := s12 _ _ h11
        refine ⟨_, _, _, rfl, hB.hc.ob, hf_m, _, rfl, ta, _, _, .int aim.1, rfl, rfl, SqT.of h12, rfl, _, rfl, ta, _, _, .int aim.2, rfl, rfl, SqT.of h12, rfl, B, rs, 8, d, aim.1, aim.2, rfl, hB, ab, T11.tb.ext s12, fun H13 _ o13 t13 _ _ _ _ => ?_⟩
        have e13 := outN_new s12 nB o13
        have T13 := T11.ext e13 t13
        have h13 := extN_get e13 h11
        have hfl13 := extN_get e13 hfl
        have hbs13 := hbs.ext e13
        clear o13 s12 nB hB h12
        -- the sways
        refine ⟨_, rfl, _, rfl, _, rfl, _, rfl, A, fl, ta, rs, 8, d, aim, _, ls, bs, rfl, T13.hO, hfl13, hbs13, h13, ab, hs, fun l hl => ?_, t13, fun H14 e14 t14 => ⟨_, rfl, iteF ?_⟩⟩
        · obtain ⟨c, o, t', z1, z2, z3, z4, z5, z6, z7, z8⟩ := hmem l hl
          exact ⟨c, o, t', z1, hUb c z2, z4, z5, z7, z8⟩
        have T14 := T13.ext e14 t14
        have h14 := extN_get e14 h13
        have hfl14 := extN_get e14 hfl13
        have hbs14 := hbs13.ext e14
        clear h13 hfl13 hbs13 e14 e13 T13 T11 h11 hfl hbs
        -- what sways not
        refine ⟨_, rfl, _, rfl, _, rfl, _, rfl, _, rfl, _, rfl, p, A, t, fl, ta, rs, d, aim, _, ls, ls.map (fun l => (l.getD 0 0, l.getD 1 0)), bs, U, rfl, ⟨T14.hb, T14.hO, T14.hP, hw, hfl14, hbs14, h14, ab, a6, hs, uo, List.length_map .., ?_, fun n c hc => ?_, fun s' v sb' v0' v1' hn hk => ?_⟩, T14.tb, fun H15 x15 b15 t15 => ⟨_, rfl, iteF ?_⟩⟩
        · rw [hls]
          refine Nat.le_trans (List.length_filterMap_le _ _) (Nat.le_trans (List.length_filter_le _ _) uo.le)
        · rw [List.getElem?_map] at hc
          obtain ⟨l, hl, rfl⟩ := Option.map_eq_some_iff.mp hc
          obtain ⟨c, o, t', rfl, _⟩ := hmem l (List.mem_of_getElem? hl)
          exact ⟨o, t', hl⟩
        · refine sway_else SP.ub a0 uo hw.1 ⟨v0', v1'⟩ (fun l hl z => ?_) hk
          rw [← hls] at hl
          obtain ⟨c, o, t', rfl, _⟩ := hmem l hl
          refine hn (List.mem_map.mpr ⟨_, hl, ?_⟩)
          injection z with z1 z2
          injection z2 with z2 _
          exact Prod.ext z1 z2
        have T15 := T14.xb p0 x15 b15 t15
        have h15 := x15.get T14.hb h14
        have hfl15 := x15.getL T14.hb hfl14
        have hbs15 := x15.tups T14.hb hbs14
        -- the look
        refine ⟨_, rfl, _, _, _, rfl, T15.hO.hc.ob, hf_m, _, rfl, ta, _, _, .int aim.1, rfl, rfl, SqT.of h15, rfl, _, rfl, ta, _, _, .int aim.2, rfl, rfl, SqT.of h15, rfl, A, rs, 8, d, aim.1, aim.2, rfl, T15.hO, ab, fun H16 s16 => ⟨_, rfl, ?_⟩⟩
        rw [show seenH d (aim.1, aim.2) = false from hs _]
        refine iteF ?_
        have T16 := T15.same s16
        have h16 := s16 _ _ h15
        have hfl16 := s16 _ _ hfl15
        have hbs16 : TupsAt H16 (ls.map nsv) bs := hbs15.same fun b t e => s16 _ _ e
        refine ⟨_, rfl, _, _, _, rfl, T16.hO.hc.ob, hf_m, _, rfl, ta, _, _, .int aim.1, rfl, rfl, SqT.of h16, rfl, _, rfl, ta, _, _, .int aim.2, rfl, rfl, SqT.of h16, rfl, A, rs, 8, d, aim.1, aim.2, rfl, T16.hO, ab, T16.tb, fun H17 d' o17 t17 O17 ep el sn => ?_⟩
        refine ⟨_, rfl, rfl, _, rfl, ?_⟩
        rw [dV]
        refine iteNDT rfl ?_
        have nl : ∀ {b : Addr} {xs : List V}, H16 b = some (.lst xs) → H17 b = some (.lst xs) := fun e => o17 _ _ (T16.hO.hc.notin e (fun _ _ _ z => nomatch z) (fun _ z => nomatch z)) e (fun _ z => nomatch z)
        have nt : ∀ {b : Addr} {xs : List V}, H16 b = some (.tup xs) → H17 b = some (.tup xs) := fun e => o17 _ _ (T16.hO.hc.notin e (fun _ _ _ z => nomatch z) (fun _ z => nomatch z)) e (fun _ z => nomatch z)
        have T17 := T16.out nA o17 O17 t17
        -- seen
        refine ⟨_, rfl, _, rfl, _, rfl, A, fl, ta, rs, 8, d', aim, ls, bs, rfl, ⟨T17.hO, nl hfl16, hbs16.same fun b t e => nt e, nt h16, ?_, fun l hl => ?_⟩, fun H18 s18 => ⟨_, rfl, iteF ?_⟩⟩
        · rw [el, hlkd]
          rfl
        · obtain ⟨c, o, t', z1, z2, z3, z4, z5, z6, z7, z8⟩ := hmem l hl
          refine ⟨c, o, t', z1, hUb c z2, z4, z5, sn c ?_, ?_⟩
          · rw [hkH]
            exact uo.nr c z2
          · rw [ep, wv_kn (box_in.mp (hUb c z2)).2.1 z3]
            exact fun z => z6 z.symm
        exact ⟨eC.trans (T17.ex.trans (ExtN.of s18)), T17.tb.ext s18, _, _, _, _, _, _, _, _, _, rfl⟩
    · exact k _
end
end S
set_option Elab.async false
set_option linter.all false
set_option maxRecDepth 100000
set_option maxHeartbeats 0
/-! # the head, the end -/
namespace S
open PySem PySem.Spec PyProof.Rows L2 G
theorem nd_inj {α β : Type} {f : α → β} : ∀ {l : List α}, (l.map f).Nodup → ∀ a ∈ l, ∀ b ∈ l, f a = f b → a = b
  | x :: l, h, a, ha, b, hb, e => by
    rw [List.map_cons, List.nodup_cons] at h
    rcases List.mem_cons.mp ha with h1 | h1 <;> rcases List.mem_cons.mp hb with h2 | h2
    · rw [h1, h2]
    · exact absurd (List.mem_map.mpr ⟨b, h2, by rw [← e, h1]⟩) h.1
    · exact absurd (List.mem_map.mpr ⟨a, h1, by rw [e, h2]⟩) h.1
    · exact nd_inj h.2 a h1 b h2 e
theorem box40 (P : Program) (w : World) : ((boxL 5 8).map fun c => DT2.hashT P w (cK c)) = ([-8458139203682520985, -1950498447580522560, 7204814214171964562, -4734289103435588629, 1773351652666409796, -3119722376306286570, -1010439003188656273, -5903513032161352639, -5164621852614943976, 8389048192121911274, -3550055125485641917, -1440771752368011620, -6333845781340707986, 173794974761290439, -4719279054211405927, -2609995681093775630, 4685526799349444076, 6794810172467074373, 1901736143494378007, 8409376899596376432, 3516302870623680066, -8422800446983873125, -6313517073866242828, 7240152970870612422, 2248468952609198383, 8756109708711196808, 3863035679738500442, 5972319052856130739, 1079245023883434373, 7586885779985432798, -4352217537622120393, 4803095124130366729, -6348126469135965181, 159514286966033244, -9131917124991031250, -2624276368889032825, 3883364387212965600, -1009709641759730766, 1099573731357899531, -3793500297614796835] : List Int) := by kernel_rfl
theorem apart5 (P : Program) (w : World) (n : Nat) (hn : n ≤ 5) : Apart P w n 8 := fun c hc c' hc' e => by
  have up : ∀ c, c ∈ boxL n 8 → c ∈ boxL 5 8 := fun c h => by
    obtain ⟨a, b, d, f⟩ := boxL_mem.mp h
    exact boxL_mem.mpr ⟨a, by omega, d, f⟩
  have nd : ((boxL 5 8).map fun c => DT2.hashT P w (cK c)).Nodup := by
    rw [box40]
    decide +kernel
  exact nd_inj nd c (up c hc) c' (up c' hc') e
abbrev tfs : List He.Defn := lamDefs.map (·.1)
def exS (K : PySem.W.Frag) : Bool := insB K (cRoom K) && (((TBS K).all fun p => (TBS K).all fun q => decide (p.1 = q.1 → p.2 = q.2)) && (xfB K (cSeen K) && (ExW.exB K (cSeen K) "way" bmR "RuntimeError.__new__" && decide (PySem.W.findIn K (.ref (cSeen K)) "__init__" = some (some (.ref (He.ma K (cSeen K) "__init__")))))))
theorem sn_of {K : PySem.W.Frag} {mg : Str → Option Value} (T : Tx K mg) (h : ExW.exB K (cSeen K) "way" bmR "RuntimeError.__new__" = true) (hi : PySem.W.findIn K (.ref (cSeen K)) "__init__" = some (some (.ref (He.ma K (cSeen K) "__init__")))) : SNx K mg := by
  obtain ⟨h1, h⟩ := He.ba h
  obtain ⟨h2, h⟩ := He.ba h
  obtain ⟨h3, h⟩ := He.ba h
  obtain ⟨h4, h⟩ := He.ba h
  obtain ⟨h5, h⟩ := He.ba h
  obtain ⟨h6, h⟩ := He.ba h
  obtain ⟨h7, h⟩ := He.ba h
  obtain ⟨h8, h⟩ := He.ba h
  obtain ⟨h9, h10⟩ := He.ba h
  obtain ⟨fd, F⟩ := T.d_Seen_init
  obtain ⟨oc, od, dV, kV, doc, pm, an, cdv, ct, osl, rfl, lk, hcd, hD, hK⟩ := F.ex
  have hdv : dV = .none := by
    rcases hD with ⟨_, e⟩ | ⟨e, _⟩
    · exact e
    · exact absurd rfl e
  exact ⟨T.g_Seen, h1, h2, h3, of_decide_eq_true h4, of_decide_eq_true h5, h6, of_decide_eq_true h7, of_decide_eq_true h8, of_decide_eq_true h9, of_decide_eq_true h10, hi,
    ⟨oc, od, dV, kV, doc, pm, an, cdv, ct, osl, _, _, _, _, _, _, _, lk, hcd, hdv⟩⟩
abbrev R : PySem.W.OpenRow := PySem.W.OpenLaw.row PySem.Challenge.rw_seenstands_k85_whole_sways_in_houses
abbrev asL : (Addr → Option Obj) → List Addr := HkA.adrs "NoWeb" 60 1100
abbrev hk : PySem.W.Hook := HkA.hook asL fas dfs tfs exS
def ob (s : PySem.W.SharedT) : He.AlX := HkA.seen asL fas dfs tfs exS (HandSHeadRun.getT s)
theorem ob_eq (s : PySem.W.SharedT) : ob s = hk.obs s.abs := HkA.seen_eq (HandSHeadRun.getT_eq s)
def names1 : List PySem.Str := ["_wall", "__name__", "NoWeb", "NoTable", "NoRoom", "NoBeat", "NoStand", "TooMany", "Seen", "Forgotten", "Busy", "is_whole", "is_from", "Room", "MOST_ROOMS", "MOST_HEARD", "MOST_SIZE", "MOST_TABLE", "LAST_BEAT", "is_size", "are_hears", "rows_heard", "is_rule", "fault_of", "look_rooms", "Web", "look_room", "look_cell", "look_beat", "look_stand", "told_by"]
def names2 : List PySem.Str := ["MOST_STEPS", "look_tables", "Stretch", "Road", "MOST_RUN_needs", "is_known", "poked_beats", "heard_cells", "rooms_heard", "gone_down", "walked_down", "run_many", "cells_needed", "needed", "way_by", "by_beats", "known_stand", "MOST_RUN_sways", "stand_by", "least_other", "swayers", "House", "way_down", "_law_bag", "_law_take", "_law_parts", "_law_net", "_law_pins", "_law_poked", "_law_sways_right", "_law_else_right", "_law_seen_right"]
open PySem.W HandSHeadRun in
theorem r1 (w : World) : HkA.After R 9000 w (fun s => looksF R.prog (boot_heap w.params) s.abs) true := by intro os; kernel_rfl
open PySem.W HandSHeadRun in
theorem r2 (w : World) : HkA.After R 9000 w (fun s => seenQ (PySem.W.view R.prog [71]) (names1 ++ names2) (importedModules R.prog.main.body) (fun s => xlAt (PySem.W.view R.prog [71]) [] s && recOk R.toRowW.records s) s.abs) (openGood (PySem.W.view R.prog [71]) (names1 ++ names2)) := by intro os; kernel_rfl
theorem r3 (w : World) : HkA.After R 9000 w (fun s => (fas.take 80).all fun f => f.ok (HkA.frag asL s)) true := by intro os; kernel_rfl
theorem r4 (w : World) : HkA.After R 9000 w (fun s => (fas.drop 80).all fun f => f.ok (HkA.frag asL s)) true := by intro os; kernel_rfl
theorem r5 (w : World) : HkA.After R 9000 w (fun s => dfs.all fun d => d.ok (HkA.frag asL s)) true := by intro os; kernel_rfl
theorem r6 (w : World) : HkA.After R 9000 w (fun s => dfs.map fun d => He.fnW (HkA.frag asL s) d.at_) (dfs.map He.DefD.val) := by intro os; kernel_rfl
theorem r7 (w : World) : HkA.After R 9000 w (fun s => exS (HkA.frag asL s)) true := by intro os; kernel_rfl
theorem r8 (w : World) : HkA.After R 9000 w (fun s => He.tabsB (HandSHeadRun.getT s) tfs (HkA.frag asL s)) true := by intro os; kernel_rfl
theorem run (w : World) : HandSHeadRun.RunEq R (PySem.W.view R.prog [71]) hk ob 9000 (names1 ++ names2) w := HkA.run_parts 80 (r1 w) (r2 w) (r3 w) (r4 w) (r5 w) (r6 w) (r7 w) (r8 w)
theorem facts {w : World} {K : PySem.W.Frag} {h : Heap} {mg : Str → Option Value} {fa : Addr} (X : K.In h) (G0 : h.Ns mainGlobals mg) (hmg : mg ("law" : Str) = some (.ref fa)) (c : He.SaysX fas dfs [] tfs exS w h K) : LamX.LawAtS PySem.Challenge.rw_seenstands_k85_whole_sways_in_houses w K CX0 12 63 "_law_script" mg fa h := by
  obtain ⟨x1, x2⟩ := He.ba c.more
  obtain ⟨x2, x3⟩ := He.ba x2
  obtain ⟨x3, x4⟩ := He.ba x3
  obtain ⟨x4, x5⟩ := He.ba x4
  have T : Tx K mg := tx_of X G0 c.t.d
  obtain ⟨fd, F⟩ := T.d_law
  have e := hmg.symm.trans T.g_law
  cases e
  have b := FunD.bindsA (ps := ["_law_script"]) F fun _ _ _ _ _ _ us hl => match us, hl with | [_], _ => rfl
  refine ⟨fd, tfs.map (He.cT K), spLaw K, fun p hp => ?_, fun p hp => ?_, fun p hp => ?_, fun s u => b s [u] rfl, fun H a ns hl _ hH hS => ⟨a, ns, rfl, hS, hl, fun p hp => ?_, fun _ => rfl⟩, fun base _ _ hT => ok_law T ⟨fun d hd => ?_, fun p hp q hq => ?_⟩ (insB_ok T.c_Room x1) (sn_of T x4 (of_decide_eq_true x5)) (xfB_ok x3) (fun n hn => apart5 _ _ n hn) F⟩
  · obtain ⟨d, hd, rfl⟩ := List.mem_map.mp hp
    exact c.empty d hd
  · obtain ⟨d, hd, rfl⟩ := List.mem_map.mp hp
    exact c.out d hd
  · obtain ⟨d, hd, rfl⟩ := List.mem_map.mp hp
    exact PySem.W.codeHd_of_K X (c.hd d hd)
  · obtain ⟨d, hd, rfl⟩ := List.mem_map.mp hp
    exact ⟨#[], hH _ (List.mem_map.mpr ⟨d.1, List.mem_map.mpr ⟨d, hd, rfl⟩, rfl⟩), True.intro, fun pos cv hc => by
      have z : codeAmong pos [] = some cv := hc
      cases z⟩
  · exact hT (He.cT K d.1) (List.mem_map.mpr ⟨d.1, List.mem_map.mpr ⟨d, hd, rfl⟩, rfl⟩)
  · exact of_decide_eq_true (List.all_eq_true.mp (List.all_eq_true.mp x2 p hp) q hq)
end S
open PySem PySem.W PySem.Calls PyProof.Rows
theorem PySem.Challenge.cw_seenstands_k85_whole_sways_in_houses_holds : PySem.Challenge.rw_seenstands_k85_whole_sways_in_houses.Holds := by
  w_on; o_law
  refine HandSHeadRun.head_any (r := OpenLaw.row PySem.Challenge.rw_seenstands_k85_whole_sways_in_houses) (q := view (OpenLaw.row PySem.Challenge.rw_seenstands_k85_whole_sways_in_houses).prog [71]) (H := S.hk) (ob := S.ob) (M := 9000) (loose := S.names1 ++ S.names2) (d := HandSHeadRun.topDef (OpenLaw.row PySem.Challenge.rw_seenstands_k85_whole_sways_in_houses).prog 71) (kwd := []) S.ob_eq
    (by kernel_rfl) (fun s => by kernel_rfl) S.run (by kernel_rfl) (by kernel_rfl) (by kernel_rfl) (by rfl) (by first | assumption | decide +kernel) (by decide +kernel) ⟨rfl, rfl, rfl, rfl, rfl, by decide +kernel⟩ ?hw ?hc
  case hw => w_witness2
  case hc =>
    refine LamX.walk_ofTsE (l := PySem.Challenge.rw_seenstands_k85_whole_sways_in_houses) (n := 63) (k := 12) (x := "_law_script") (CX := fun _ => L2.CX0) rfl (by decide) (by kernel_rfl) ⟨rfl, by decide, by decide⟩ ?F (fun _ _ _ _ _ z => z)
    intro w mg fa h Y G hmg0
    obtain ⟨K, KX, c⟩ := Y
    have hmg : mg ("law" : PySem.Str) = some (.ref fa) := by
      have e : (HandSHeadRun.topDef (OpenLaw.row PySem.Challenge.rw_seenstands_k85_whole_sways_in_houses).prog 71).name = ("law" : PySem.Str) := by kernel_rfl
      rw [← e]
      exact hmg0
    exact ⟨K, KX, S.facts KX G hmg c⟩
