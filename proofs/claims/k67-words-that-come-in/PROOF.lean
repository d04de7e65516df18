import PyProof.Rows.All
import Wide.All
import OpenK.AllK
import Wide.FinOn
import HandS.ForMost
import HandS.ForExc
import HandS.Defaults
import HandS.ExcInit
import HandS.HeadHook1
import HandS.HeadHook2
import HandS.IsInst
import HandS.Walk
import HandS.Codes
import HandS.StrMore
import KE.GoesMore
import KE.GoesZip
import HandS.Iter
import HandS.List
import PyProof.NeData
import HandS.Exc
import HandS.Comp
import HandS.SetKeys
import HandS.TryMany
import HandS.ExcField
import HandS.Flow
import HandS.New
import HandS.Wide
import HandS.WideBits
import HandS.More
import HandS.DeepEq
import HandS.ExcIs
import HandS.DictComp
import OpenK.KWalk
import KE.KStateDown
import HandS.Head0
import HandS.Head1
import HandS.Head2
import HandS.HeadEnd
import PySem.Challenge.RW_overwise_k67_words_that_come_in
set_option Elab.async false
set_option linter.all false
set_option maxRecDepth 100000
set_option maxHeartbeats 4000000
namespace He2
open PySem PySem.Spec PyProof.Rows L2 He
/-! ### one more Bool in the Hook -/
abbrev AlM : Type := AlD × Bool
/-- the module's names; of defs their code and defaults, of classes their dict and bases; the methods, their code and defaults -/
def ref1 (o : Obj) : List Addr := match o.data with
  | .func fd => refV fd.code ++ refV fd.defaults
  | .cls cd => cd.ns :: cd.mro.flatMap refV
  | _ => []
def ref0 (o : Obj) : List Addr := match o.data with
  | .dict es _ => es.toList.flatMap fun e => refV e.val
  | _ => []
def more (g : Addr → Option Obj) (f : Obj → List Addr) (as : List Addr) : List Addr := as.flatMap fun a => match g a with
  | some o => f o
  | none => []
def asP (g : Addr → Option Obj) : List Addr :=
  let l1 := more g ref0 [mainGlobals]
  let l2 := more g ref1 l1
  let l3 := more g ref0 l2
  let l4 := more g ref1 l3
  (PySem.cStatics :: mainGlobals :: (l1 ++ (l2 ++ (l3 ++ l4)))).eraseDups
def obsM (fa : List Fa) (fn : List DefD) (ex : PySem.W.Frag → Bool) (K : PySem.W.Frag) : AlM := (obsD fa fn K, ex K)
def valM (fn : List DefD) : AlM := (valD fn, true)
def SaysM (fa : List Fa) (fn : List DefD) (ex : PySem.W.Frag → Bool) (K : PySem.W.Frag) : Prop := SaysD fa fn K ∧ ex K = true
def obsMG (fa : List Fa) (fn : List DefD) (ex : PySem.W.Frag → Bool) (g : Addr → Option Obj) : AlM := obsM fa fn ex (frG g (asP g))
def hookM (fa : List Fa) (fn : List DefD) (ex : PySem.W.Frag → Bool) : PySem.W.Hook where
  α := AlM
  obs := fun s => obsMG fa fn ex s.heap.get?
  val := fun _ => valM fn
  says := fun _ h => ∃ K : PySem.W.Frag, K.In h ∧ SaysM fa fn ex K
  of := fun _ _ e => ⟨_, frG_in, congrArg (fun z : AlM => z.1) e, congrArg (fun z : AlM => z.2) e⟩
  keeps := fun _ _ _ ⟨K, hK, c⟩ k => ⟨K, PySem.W.Frag.In.keeps hK k, c⟩
theorem obsMG_eq {fa : List Fa} {fn : List DefD} {ex : PySem.W.Frag → Bool} {g : Addr → Option Obj} {s : Shared} (h : ∀ a, g a = s.heap.get? a) : obsMG fa fn ex g = (hookM fa fn ex).obs s := by
  have e : g = s.heap.get? := funext h
  rw [e] <;> rfl
/-! ### what is asked of an exception class of one's own -/
def exRowB (K : PySem.W.Frag) (C : Addr) : Bool := match K.lookup C with
  | some ⟨.type "type", _, .cls cd, sl⟩ => (match cd.mro, sl.toList with
    | .ref C' :: bm, [_, _, _, _, some (.builtin n), _] => decide (C' = C) && (decide (n = "ValueError.__new__") && (!cd.hasDel && (cd.hasDict && PySem.HandSPX.refsVE bm)))
    | _, _ => false)
  | _ => false
theorem exRow_ok {K : PySem.W.Frag} {C : Addr} (q : exRowB K C = true) : ∃ nm q N bs bm sn sub ab col dd k0 k1 k2 k3 k5, K.lookup C = some (excClassObj nm q C N bs bm true sn sub ab col dd k0 k1 k2 k3 k5 "ValueError.__new__") ∧ PySem.HandSPX.refsVE bm = true := by
  unfold exRowB at q
  split at q
  · rename_i dd cd sl ho
    split at q
    · rename_i C' bm k0 k1 k2 k3 n k5 hm hs
      obtain ⟨h1, q⟩ := ba q
      obtain ⟨h2, q⟩ := ba q
      obtain ⟨h3, q⟩ := ba q
      obtain ⟨h4, h5⟩ := ba q
      have e1 := of_decide_eq_true h1
      have e2 := of_decide_eq_true h2
      subst e1 e2
      obtain ⟨nm, bs, mro, ns, qn, hd, sn, sub, ab, col, del⟩ := cd
      dsimp only at hm h3 h4
      subst hm h4
      have hdel : del = false := by simpa using h3
      subst hdel
      have hsl : sl = #[k0, k1, k2, k3, some (.builtin "ValueError.__new__"), k5] := by
        obtain ⟨l⟩ := sl
        simp only at hs
        rw [hs]
      subst hsl
      exact ⟨nm, qn, ns, bs, bm, sn, sub, ab, col, dd, k0, k1, k2, k3, k5, ho, h5⟩
    · cases q
  · cases q
/-- the class x is an own exception class over ValueError -/
def excB (x : Str) (K : PySem.W.Frag) : Bool := exRowB K (ga K x) && (eqO (PySem.W.findIn K (.ref (ga K x)) "__setattr__") (some (some (.builtin "object.__setattr__"))) && (decide (PySem.W.subIn K (.ref (ga K x)) (.type "BaseException") = some true) &&
  (decide (PySem.W.typeIn K (.ref (ga K x)) = some (.type "type")) && (PySem.W.keepIn K (.ref (ga K x)) &&
  (eqO (PySem.W.findIn K (.ref (ga K x)) "__getattribute__") (some (some (.builtin "BaseException.__getattribute__"))) && (eqO (PySem.W.findIn K (.ref (ga K x)) "__getattr__") (some none) && PySem.W.hasDictIn K (ga K x)))))))
structure ExcC (K : PySem.W.Frag) (C : Addr) : Prop where
  oex : OexC K C
  get : PySem.W.findIn K (.ref C) "__getattribute__" = some (some (.builtin "BaseException.__getattribute__"))
  gtr : PySem.W.findIn K (.ref C) "__getattr__" = some none
  hdc : PySem.W.hasDictIn K C = true
theorem exc_ok {x : Str} {K : PySem.W.Frag} (c : excB x K = true) : ExcC K (ga K x) := by
  obtain ⟨c1, c⟩ := ba c
  obtain ⟨c2, c⟩ := ba c
  obtain ⟨c3, c⟩ := ba c
  obtain ⟨c4, c⟩ := ba c
  obtain ⟨c5, c⟩ := ba c
  obtain ⟨c6, c⟩ := ba c
  obtain ⟨c7, c8⟩ := ba c
  exact ⟨⟨exRow_ok c1, eqO_ok c2, of_decide_eq_true c3, of_decide_eq_true c4, c5⟩, eqO_ok c6, eqO_ok c7, c8⟩
/-- .. its __init__ is an own def -/
def einB (x : Str) (K : PySem.W.Frag) : Bool := eqO (PySem.W.findIn K (.ref (ga K x)) "__init__") (some (some (.ref (ma K (ga K x) "__init__")))) && decide (PySem.W.typeIn K (.ref (ma K (ga K x) "__init__")) = some (.type "function"))
theorem ein_ok {x : Str} {K : PySem.W.Frag} (c : einB x K = true) : PySem.W.findIn K (.ref (ga K x)) "__init__" = some (some (.ref (ma K (ga K x) "__init__"))) ∧ PySem.W.typeIn K (.ref (ma K (ga K x) "__init__")) = some (.type "function") := by
  obtain ⟨c1, c2⟩ := ba c
  exact ⟨eqO_ok c1, of_decide_eq_true c2⟩
/-! ### C.m, read off a class of one's own -/
structure CAt (K : PySem.W.Frag) (C : Addr) (m : Str) (v : Value) : Prop where
  sp : PySem.W.specialIn K (.ref C) "__getattribute__" = some (some (.builtin "type.__getattribute__"))
  rd : PySem.W.readsIn K C (.type "type") = true
  val : (match PySem.W.findCls K (.ref C) (.type "type") m with | some (.val u) => some u | _ => none) = some v
theorem CAt.find {K : PySem.W.Frag} {C : Addr} {m : Str} {v : Value} (c : CAt K C m v) : PySem.W.findCls K (.ref C) (.type "type") m = some (.val v) := by
  have h := c.val
  cases e : PySem.W.findCls K (.ref C) (.type "type") m with
  | none => rw [e] at h; cases h
  | some f =>
    rw [e] at h
    cases f with
    | val u => rw [Option.some.inj h]
    | get g a o t => cases h
/-- what isinstance asks of an own class -/
def isiB (x : Str) (K : PySem.W.Frag) : Bool := eqO (PySem.W.findIn K (.ref (ga K x)) "__class__") (some (some (.builtin "object.__class__"))) && (eqO (PySem.W.specialIn K (.builtin "object.__class__") "__get__") (some (some (.builtin "getset_descriptor.__get__"))) &&
  (decide (PySem.W.takesIn K (.builtin "object.__class__") = some true) && decide (PySem.W.mroIn K (ga K x) (.type "object") = some true)))
structure IsiC (K : PySem.W.Frag) (C : Addr) : Prop where
  ha : PySem.W.findIn K (.ref C) "__class__" = some (some (.builtin "object.__class__"))
  hn : PySem.W.specialIn K (.builtin "object.__class__") "__get__" = some (some (.builtin "getset_descriptor.__get__"))
  htk : PySem.W.takesIn K (.builtin "object.__class__") = some true
  hm : PySem.W.mroIn K C (.type "object") = some true
theorem isi_ok {x : Str} {K : PySem.W.Frag} (c : isiB x K = true) : IsiC K (ga K x) := by
  unfold isiB at c
  simp only [Bool.and_eq_true] at c
  exact ⟨eqO_ok c.1, eqO_ok c.2.1, of_decide_eq_true c.2.2.1, of_decide_eq_true c.2.2.2⟩
def kitB (x y : Str) (b : Bool) (K : PySem.W.Frag) : Bool := decide (PySem.W.kitOne K (.ref (ga K x)) (.ref (ga K y)) = some b)
def catB (x m : Str) (v : PySem.W.Frag → Value) (K : PySem.W.Frag) : Bool := eqO (PySem.W.specialIn K (.ref (ga K x)) "__getattribute__") (some (some (.builtin "type.__getattribute__"))) && (PySem.W.readsIn K (ga K x) (.type "type") &&
  decide ((match PySem.W.findCls K (.ref (ga K x)) (.type "type") m with | some (.val u) => some u | _ => none) = some (v K)))
theorem cat_ok {x m : Str} {v : PySem.W.Frag → Value} {K : PySem.W.Frag} (c : catB x m v K = true) : CAt K (ga K x) m (v K) := by
  obtain ⟨c1, c⟩ := ba c
  obtain ⟨c2, c3⟩ := ba c
  exact ⟨eqO_ok c1, c2, of_decide_eq_true c3⟩
/-- the method of the class, as a plain def -/
def vDef (x m : Str) : PySem.W.Frag → Value := fun K => .ref (ma K (ga K x) m)
def vBlt (s : String) : PySem.W.Frag → Value := fun _ => .builtin s
section
variable {X : Cx} {CX : CXT} {o e : Expr} {es : List Expr} {ta : TA} {W : Addr} {f x : Str} {p p' p1 p2 pos : Pos}
theorem ld_clsat {pl : Sem Bool} {v : Value} {m : Str} {pins : List (Addr × Obj)} {s : Shared} {σ : L2.St} {H : Hp} {Q : Value × List Value → Shared → Prop} {E : Value → Shared → Prop} (I : Inv X pins σ H s) (c : CAt X.K W m v) (hh : PySem.W.handedIn v = true)
    (h : Q (v, []) { s with toks := s.toks + 1 }) : wpAny (model X.prog X.w) X.A (getMethod (.ref W) m pl) Q E s :=
  PySem.W.method_cls I.kIn c.sp (PySem.W.cls_value I.kIn c.rd c.find hh h)
/-- W.__init__(self, ..), W an own exception class without an __init__ of its own -/
theorem pe_weinit {pl : Sem Bool} (hg : Gl X x) (hm : X.mg x = some (.ref W)) (c : CAt X.K W "__init__" (.builtin "ValueError.__init__")) (ha : PA X (e :: es) ta)
    (hc : eval (.Call (.Attribute (.Name x p1) "__init__" p2) (e :: es) [] pos) X.env = (do
      let ov ← eval (.Name x p1) X.env
      standAt p2.atName
      let (f, first) ← holding [ov] (getMethod ov "__init__" pl)
      callWith pos f first (backTo pos (starEach (e :: es) X.env)) (backToKw pos (keywordEach [] X.env))) := by rfl)
    (hdb : (x == ("__debug__" : Str)) = false := by decide)
    (he : starEach (e :: es) X.env = (false, eval e X.env) :: starEach es X.env := by rfl) (hpl : (backTo pos (starEach es X.env)).any (·.1) = false := by rfl) :
    PE X (.Call (.Attribute (.Name x p1) "__init__" p2) (e :: es) [] pos) (tVeI X.K ta) := by
  refine ⟨fun pins s σ H Q I h => ?_⟩
  refine PySem.W.methodCall_KW (ld_glob I hg hm ?_ hdb) hc
  refine ld_clsat I c (by decide +kernel) ?_
  show wpAny _ _ (callWith pos (Value.builtin "ValueError.__init__") [] (backTo pos (starEach (e :: es) X.env)) []) _ _ _
  refine PyProof.Rows.callWith_method1 (thn (ha.run pos pins _ σ H _ (I.tok _) h) fun us s1 ⟨vs, H1, I1, r1, a, C, ws, ev, hl, T, ea, q⟩ => ?_) he hpl
  subst ev
  cases r1 with
  | @cons _ u0 _ ur ra rw' =>
    obtain rfl : u0 = Value.ref a := ra
    have hlen : ur.length ≤ sizeLine := by
      rw [← Paired.length rw', sizeLine_eq]
      omega
    exact oinit_ok T I1 ea hlen fun s' J => ⟨.non, H1, J, rfl, q⟩
end
end He2

set_option maxHeartbeats 4000000
namespace OW
open PySem PySem.Spec PyProof.Rows L2
/-! ### defs that may raise, as callers need them -/
/-- a def under its name -/
structure CalX (P : Program) (w : World) (K : PySem.W.Frag) (mg : Str → Option Value) (base : Heap) (k : Nat) (x : Str) (sp : Sp) (dvs : List V) : Prop where
  ex : ∃ (f : Addr) (fd : FuncData) (ps : List Str) (ds : List Value), FnOk P w K mg base (L2.CX P w) k f fd ps sp ∧ mg x = some (.ref f) ∧ PySem.W.keepIn K (.ref f) = true ∧ Binds K fd ps ds ∧ Vals dvs ds
/-- a method of the class at C -/
structure MetX (P : Program) (w : World) (K : PySem.W.Frag) (mg : Str → Option Value) (base : Heap) (k : Nat) (C : Addr) (m : Str) (sp : Sp) : Prop where
  ex : ∃ (f : Addr) (fd : FuncData) (ps : List Str), Cls K C ∧ Meth K C m f ∧ FnOk P w K mg base (L2.CX P w) k f fd ps sp ∧ Binds K fd ps []
/-- a class under its name, made by an own __init__ -/
structure MakX (P : Program) (w : World) (K : PySem.W.Frag) (mg : Str → Option Value) (base : Heap) (k : Nat) (x : Str) (C : Addr) (sp : Sp) : Prop where
  ex : ∃ (f : Addr) (fd : FuncData) (ps : List Str), Mk K C f ∧ FnOk P w K mg base (L2.CX P w) k f fd ps sp ∧ mg x = some (.ref C) ∧ Binds K fd ps []
/-- W.m, the def of a class, under the class's name -/
structure CatX (P : Program) (w : World) (K : PySem.W.Frag) (mg : Str → Option Value) (base : Heap) (k : Nat) (x m : Str) (sp : Sp) : Prop where
  ex : ∃ (C f : Addr) (fd : FuncData) (ps : List Str), mg x = some (.ref C) ∧ He2.CAt K C m (.ref f) ∧ PySem.W.keepIn K (.ref f) = true ∧ FnOk P w K mg base (L2.CX P w) k f fd ps sp ∧ Binds K fd ps []
/-- an own exception under its name: its class, made with vs it bears the fields fs vs -/
structure ExcX (P : Program) (w : World) (K : PySem.W.Frag) (mg : Str → Option Value) (base : Heap) (k : Nat) (x : Str) (C : Addr) (sp : Sp) : Prop where
  ex : ∃ (f : Addr) (fd : FuncData) (ps : List Str), OexC K C ∧ PySem.W.findIn K (.ref C) "__init__" = some (some (.ref f)) ∧ PySem.W.typeIn K (.ref f) = some (.type "function") ∧ FnOk P w K mg base (L2.CX P w) k f fd ps sp ∧ mg x = some (.ref C) ∧ Binds K fd ps []
def tMethV (In : Addr → Prop) (m : Str) (sp : Addr → Sp) (E : XK) (ta : TE) (t : TA) : TE := fun σ H Q => ta σ H fun x H1 => ∃ a C dx fs, x = .ref a ∧ H1 a = some (.ins C dx fs) ∧ In C ∧ fs.lookup m = none ∧ t σ H1 fun vs H2 => sp C (x :: vs) H2 Q E
section
variable {P : Program} {w : World} {K : PySem.W.Frag} {mg : Str → Option Value} {base : Heap} {N : List Str} {qual : Str} {scope : Scope} {f : Addr} {cd : Value} {A : Around} {outer : List Env} {s : Shared} {H : Hp} {E : XK}
/-- in a def's body -/
theorem pU : Passes (L2.CX P w) (cxOf (L2.CX P w) P w K mg base N qual scope f cd A outer s H E) E := passes_call (takes_of rfl rfl rfl rfl) (fun _ _ _ _ h => h)
theorem tU : Takes (cxOf (L2.CX P w) P w K mg base N qual scope f cd A outer s H E) (fun cls d _ H => E cls d H) := takes_of rfl rfl rfl rfl
theorem oU : PassesOwn (model P w) (cxOf (L2.CX P w) P w K mg base N qual scope f cd A outer s H E).A (cxOf (L2.CX P w) P w K mg base N qual scope f cd A outer s H E).env (cxOf (L2.CX P w) P w K mg base N qual scope f cd A outer s H E).xe := passes_of rfl
end
section
variable {X : Cx} {k j : Nat} {C : Addr} {x m : Str} {sp : Sp} {dvs : List V} {E : XK} {In : Addr → Prop} {p p1 p2 pos apos : Pos} {e o : Expr} {es : List Expr} {ta : TE} {t : TA}
theorem pe_cX (c : CalX X.prog X.w X.K X.mg X.base k x sp dvs) (hr : Room j X.A) (hk : k ≤ j) (hg : Gl X x) (hx : Passes (L2.CX X.prog X.w) X E) (ha : PA X (e :: es) t)
    (hdb : (x == ("__debug__" : Str)) = false := by decide) (he : starEach (e :: es) X.env = (false, eval e X.env) :: starEach es X.env := by rfl) (hpl : (backTo pos (starEach es X.env)).any (·.1) = false := by rfl) :
    PE X (.Call (.Name x p) (e :: es) [] pos) (tCall sp dvs E t) := by
  obtain ⟨f, fd, ps, ds, F, hm, hkp, hb, hd⟩ := c.ex
  exact pe_call F (hr.mono hk) hg hm hkp hb hd hx ha hdb he hpl
theorem pe_cX0 (c : CalX X.prog X.w X.K X.mg X.base k x sp dvs) (hr : Room j X.A) (hk : k ≤ j) (hg : Gl X x) (hx : Passes (L2.CX X.prog X.w) X E) (hdb : (x == ("__debug__" : Str)) = false := by decide) :
    PE X (.Call (.Name x p) [] [] pos) (tCall sp dvs E tNil) := by
  obtain ⟨f, fd, ps, ds, F, hm, hkp, hb, hd⟩ := c.ex
  exact pe_call0 F (hr.mono hk) hg hm hkp hb hd hx hdb
theorem pe_kX (c : MakX X.prog X.w X.K X.mg X.base k x C sp) (hr : Room j X.A) (hk : k + 1 ≤ j) (hg : Gl X x) (hx : Passes (L2.CX X.prog X.w) X E) (ha : PA X (e :: es) t)
    (hdb : (x == ("__debug__" : Str)) = false := by decide) (he : starEach (e :: es) X.env = (false, eval e X.env) :: starEach es X.env := by rfl) (hpl : (backTo pos (starEach es X.env)).any (·.1) = false := by rfl) :
    PE X (.Call (.Name x p) (e :: es) [] pos) (tMake C sp [] E t) := by
  obtain ⟨f, fd, ps, M, F, hm, hb⟩ := c.ex
  exact pe_make M F (hr.mono hk) hg hm hb .nil hx ha hdb he hpl
theorem pe_kX0 (c : MakX X.prog X.w X.K X.mg X.base k x C sp) (hr : Room j X.A) (hk : k + 1 ≤ j) (hg : Gl X x) (hx : Passes (L2.CX X.prog X.w) X E) (hdb : (x == ("__debug__" : Str)) = false := by decide) :
    PE X (.Call (.Name x p) [] [] pos) (tMake C sp [] E tNil) := by
  obtain ⟨f, fd, ps, M, F, hm, hb⟩ := c.ex
  exact pe_make0 M F (hr.mono hk) hg hm hb .nil hx hdb
/-- o.m(e, ..), o an instance of one of several classes -/
theorem pe_mX {pl : Sem Bool} {sp : Addr → Sp} (c : ∀ C, In C → MetX X.prog X.w X.K X.mg X.base k C m (sp C)) (hr : Room j X.A) (hk : k ≤ j) (hx : Passes (L2.CX X.prog X.w) X E) (he : PE X o ta) (ha : PA X (e :: es) t)
    (hst : starEach (e :: es) X.env = (false, eval e X.env) :: starEach es X.env := by rfl) (hpl : (backTo pos (starEach es X.env)).any (·.1) = false := by rfl)
    (ht : eval (.Call (.Attribute o m apos) (e :: es) [] pos) X.env = (do
      let ov ← eval o X.env
      standAt apos.atName
      let (f, first) ← holding [ov] (getMethod ov m pl)
      callWith pos f first (backTo pos (starEach (e :: es) X.env)) (backToKw pos (keywordEach [] X.env))) := by rfl) :
    PE X (.Call (.Attribute o m apos) (e :: es) [] pos) (tMethV In m sp E ta t) := by
  refine ⟨fun pins s σ H Q I h => ?_⟩
  refine PySem.W.methodCall_KW (pl := pl) (thn (he.run pins s σ H _ I h) fun u s1 ⟨x, H1, I1, rx, a, C, dx, fs, ex, ea, hC, l, q⟩ => ?_) ht
  subst ex
  obtain rfl : u = Value.ref a := rx
  obtain ⟨f, fd, ps, cl, hm, F, hb⟩ := (c C hC).ex
  refine getmeth_ok I1 ea cl hm l ?_
  refine PySem.W.callWith_K (first := [.ref a]) (h₀ := X.base) I.ok.mod.kin hm.kp (thn (ha.run pos pins s1 σ H1 _ I1 q) fun us s2 ⟨vs, H2, I2, r, q2⟩ => ⟨I2.kIn, ?_⟩) hst hpl
  have q3 : sp C ((V.ref a :: vs) ++ []) H2 Q E := by rw [List.append_nil]; exact q2
  exact run_fn (us := .ref a :: us) (vs := .ref a :: vs) F (hr.mono hk) hb .nil hx I2 (.cons rfl r) q3
theorem pe_mX0 {pl : Sem Bool} {sp : Addr → Sp} (c : ∀ C, In C → MetX X.prog X.w X.K X.mg X.base k C m (sp C)) (hr : Room j X.A) (hk : k ≤ j) (hx : Passes (L2.CX X.prog X.w) X E) (he : PE X o ta)
    (ht : eval (.Call (.Attribute o m apos) [] [] pos) X.env = (do
      let ov ← eval o X.env
      standAt apos.atName
      let (f, first) ← holding [ov] (getMethod ov m pl)
      callWith pos f first (backTo pos (starEach [] X.env)) (backToKw pos (keywordEach [] X.env))) := by rfl) :
    PE X (.Call (.Attribute o m apos) [] [] pos) (tMethV In m sp E ta tNil) := by
  refine ⟨fun pins s σ H Q I h => ?_⟩
  refine PySem.W.methodCall_KW (pl := pl) (thn (he.run pins s σ H _ I h) fun u s1 ⟨x, H1, I1, rx, a, C, dx, fs, ex, ea, hC, l, q⟩ => ?_) ht
  subst ex
  obtain rfl : u = Value.ref a := rx
  obtain ⟨f, fd, ps, cl, hm, F, hb⟩ := (c C hC).ex
  refine getmeth_ok I1 ea cl hm l ?_
  exact PySem.W.callWith_K0 (first := [.ref a]) I1.kIn hm.kp (run_fn (us := [.ref a]) (vs := [.ref a]) F (hr.mono hk) hb .nil hx I1 (.cons rfl .nil) q)
/-- W.m(e, ..), m a def of the class W -/
theorem pe_wX {pl : Sem Bool} (c : CatX X.prog X.w X.K X.mg X.base k x m sp) (hr : Room j X.A) (hk : k ≤ j) (hg : Gl X x) (hx : Passes (L2.CX X.prog X.w) X E) (ha : PA X (e :: es) t)
    (hdb : (x == ("__debug__" : Str)) = false := by decide)
    (hc : eval (.Call (.Attribute (.Name x p1) m p2) (e :: es) [] pos) X.env = (do
      let ov ← eval (.Name x p1) X.env
      standAt p2.atName
      let (f, first) ← holding [ov] (getMethod ov m pl)
      callWith pos f first (backTo pos (starEach (e :: es) X.env)) (backToKw pos (keywordEach [] X.env))) := by rfl)
    (he : starEach (e :: es) X.env = (false, eval e X.env) :: starEach es X.env := by rfl) (hpl : (backTo pos (starEach es X.env)).any (·.1) = false := by rfl) :
    PE X (.Call (.Attribute (.Name x p1) m p2) (e :: es) [] pos) (tCall sp [] E t) := by
  obtain ⟨C, f, fd, ps, hm, ca, hkp, F, hb⟩ := c.ex
  refine ⟨fun pins s σ H Q I h => ?_⟩
  refine PySem.W.methodCall_KW (ld_glob I hg hm ?_ hdb) hc
  refine He2.ld_clsat I ca rfl ?_
  refine PySem.W.callWith_K (first := []) (h₀ := X.base) I.ok.mod.kin hkp (thn (ha.run pos pins _ σ H _ (I.tok _) h) fun us s2 ⟨vs, H2, I2, r, q2⟩ => ⟨I2.kIn, ?_⟩) he hpl
  exact run_fn (us := us) F (hr.mono hk) hb .nil hx I2 r q2
/-- raise X(e, ..) -/
theorem ps_rX {W : WX} {pos2 : Pos} (hc : X.calm = true) (tk : Takes X W) (c : ExcX X.prog X.w X.K X.mg X.base k x C sp) (hr : Room j X.A) (hk : k + 1 ≤ j) (hg : Gl X x) (ha : PA X (e :: es) t)
    (hdb : (x == ("__debug__" : Str)) = false := by decide) (he : starEach (e :: es) X.env = (false, eval e X.env) :: starEach es X.env := by rfl) (hpl : (backTo pos (starEach es X.env)).any (·.1) = false := by rfl) :
    PS X (.Raise (some (.Call (.Name x p) (e :: es) [] pos)) none pos2) (fun _ σ H => tMkO C sp [] t σ H fun cls d H' => W cls d σ H') := by
  obtain ⟨f, fd, ps, T, i1, i2, F, hm, hb⟩ := c.ex
  exact ps_raise hc tk (pmk_oex T i1 i2 F (hr.mono hk) hb .nil passL hg hm ha hdb he hpl)
theorem MetX.mono {P : Program} {w : World} {K : PySem.W.Frag} {mg : Str → Option Value} {base : Heap} {k k' : Nat} {C : Addr} {m : Str} {sp : Sp} (c : MetX P w K mg base k C m sp) (h : k ≤ k') : MetX P w K mg base k' C m sp := by
  obtain ⟨f, fd, ps, a, b, F, d⟩ := c.ex
  exact ⟨f, fd, ps, a, b, F.mono h, d⟩
/-- a module's int, text -/
theorem pe_gint {i : Int} (hg : Gl X x) (h : ∃ t, X.mg x = some (.int i t)) (hd : (x == ("__debug__" : Str)) = false := by decide) : PE X (.Name x pos) (tC (.int i)) := by
  obtain ⟨t, ht⟩ := h
  exact pe_glob hg ht ⟨t, rfl⟩ hd
/-- a built-in class as a value -/
theorem pe_ty {n : String} (hg : Gl X x) (hm : X.mg x = none) (hv : bootBuiltins x = some (.type n)) (hn : x ≠ "__name__" := by decide) (hd : (x == ("__debug__" : Str)) = false := by decide) : PE X (.Name x pos) (tC (.ty n)) := pe_bltn hg hm hv rfl hn hd
end
theorem hu64 {A : Around} {k : Nat} (hr : Room k A) : A.units + 64 < cLine := by have := hr.un; omega
/-! ### where a def stands -/
abbrev FunP (K : PySem.W.Frag) (x q : Str) (st : Stmt) (f : Addr) (fd : FuncData) : Prop := FunD K x q (defArgs st) (defBody st) (defScope st) [] [] f fd
end OW

set_option maxHeartbeats 4000000
namespace OW
open PySem PySem.Spec PyProof.Rows L2
/-! ### readings, step by step: what each asks, from the goal backwards -/
section
variable {σ : L2.St} {H H1 : Hp} {Q : VK} {B : Bool → Hp → Prop} {A : List V → Hp → Prop} {D : Ends} {ta tb tc te : TE} {t u : TS} {tt tu : TT} {tA tB' : TA} {v x y : V} {r r' : R2} {K : PySem.W.Frag} {i j : Int} {b c : Bool} {g : TG}
theorem r_seq (h : t { D with nx := u D } σ H) : tSeq t u D σ H := h
theorem r_next (h : D.nx σ H) : tNext D σ H := h
theorem r_asg {n : Nat} (h : te σ H fun x H1 => D.nx (σ.set n (some x)) H1) : tAsg te (gName n) D σ H := h
theorem r_asgG (h : te σ H fun x H1 => g x σ H1 D.nx) : tAsg te g D σ H := h
theorem r_ret (h : te σ H D.rt) : tRet te D σ H := h
theorem r_retN (h : D.rt .non H) : tRetN D σ H := h
theorem r_drop (h : te σ H fun _ H1 => D.nx σ H1) : tDrop te D σ H := h
theorem r_if (h : tt σ H fun b H1 => if b = true then t D σ H1 else u D σ H1) : tIfS tt t u D σ H := h
theorem r_ifE (h : tt σ H fun c H1 => if c = true then ta σ H1 Q else tb σ H1 Q) : tIf tt ta tb σ H Q := h
theorem r_par {n m : Nat} (h : tA σ H fun vs H1 => ∃ v w, vs = [v, w] ∧ D.nx ((σ.set n (some v)).set m (some w)) H1) : tPar n m tA D σ H := h
theorem r_par2 {v w : V} {N : V → V → Prop} (h : N v w) : ∃ v' w', [v, w] = [v', w'] ∧ N v' w' := ⟨v, w, rfl, h⟩
theorem r_aug {n : Nat} {ti : TIp} (hx : σ[n]? = some (some x)) (h : te σ H fun y H1 => ti x y H1 fun z H2 => D.nx (σ.set n (some z)) H2) : tAug n te ti D σ H := ⟨x, hx, h⟩
theorem r_ipI {f : Int → Int → Int} (h : Q (.int (f i j)) H) : ipI f (.int i) (.int j) H Q := ⟨i, j, rfl, rfl, h⟩
theorem r_var {n : Nat} (e : σ[n]? = some (some v)) (h : Q v H) : tVar n σ H Q := ⟨v, e, h⟩
theorem r_c (h : Q v H) : tC v σ H Q := h
theorem r_op (h : ta σ H fun x H1 => tb σ H1 fun y H2 => r x y H2 Q) : tOp r ta tb σ H Q := h
theorem r_un {f : V → Hp → VK → Prop} (h : ta σ H fun x H1 => f x H1 Q) : tUn f ta σ H Q := h
theorem r_U {f : Int → V} (h : Q (f i) H) : rU f (.int i) H Q := ⟨i, rfl, h⟩
theorem r_I0 {f : Int → Int → V} (h : Q (f i j) H) : rI0 f (.int i) (.int j) H Q := ⟨i, j, rfl, rfl, h⟩
theorem r_I {C : Int → Int → Prop} {f : Int → Int → V} (c : C i j) (h : Q (f i j) H) : rI C f (.int i) (.int j) H Q := ⟨i, j, rfl, rfl, c, h⟩
theorem r_eqI (h : Q (.bl (decide (i = j))) H) : rEq (.int i) (.int j) H Q := ⟨rfl, by
  have e : decide (V.int i = V.int j) = decide (i = j) := by simp
  rw [e]; exact h⟩
theorem r_neI (h : Q (.bl (!decide (i = j))) H) : rNe (.int i) (.int j) H Q := ⟨rfl, by
  have e : decide (V.int i = V.int j) = decide (i = j) := by simp
  rw [e]; exact h⟩
theorem r_eqS {a b : Str} (h : Q (.bl (decide (a = b))) H) : rEq (.str a) (.str b) H Q := ⟨rfl, by
  have e : decide (V.str a = V.str b) = decide (a = b) := by simp
  rw [e]; exact h⟩
theorem r_neS {a b : Str} (h : Q (.bl (!decide (a = b))) H) : rNe (.str a) (.str b) H Q := ⟨rfl, by
  have e : decide (V.str a = V.str b) = decide (a = b) := by simp
  rw [e]; exact h⟩
theorem r_eqB {a b : Bool} (h : Q (.bl (a == b)) H) : rEq (.bl a) (.bl b) H Q := ⟨rfl, by
  have e : decide (V.bl a = V.bl b) = (a == b) := by cases a <;> cases b <;> rfl
  rw [e]; exact h⟩
theorem r_neB {a b : Bool} (h : Q (.bl (a != b)) H) : rNe (.bl a) (.bl b) H Q := ⟨rfl, by
  have e : (!decide (V.bl a = V.bl b)) = (a != b) := by cases a <;> cases b <;> rfl
  rw [e]; exact h⟩
theorem r_test (h : te σ H fun x H' => ∃ k, x = .bl k ∧ B k H') : tTest te σ H B := h
theorem r_B (h : te σ H fun x H' => ∃ k, x = .bl k ∧ B k H') : L2.tB te σ H B := h
theorem r_bl {B : Bool → Prop} (h : B b) : ∃ k, V.bl b = .bl k ∧ B k := ⟨b, rfl, h⟩
theorem r_in {B : Int → Prop} (h : B i) : ∃ k, V.int i = .int k ∧ B k := ⟨i, rfl, h⟩
theorem r_st {z : Str} {B : Str → Prop} (h : B z) : ∃ k, V.str z = .str k ∧ B k := ⟨z, rfl, h⟩
theorem r_rf {a : Addr} {B : Addr → Prop} (h : B a) : ∃ k, V.ref a = .ref k ∧ B k := ⟨a, rfl, h⟩
theorem r_and (h : tt σ H fun c H1 => if c = true then tu σ H1 B else B false H1) : tAnd tt tu σ H B := h
theorem r_or (h : tt σ H fun c H1 => if c = true then B true H1 else tu σ H1 B) : tOr tt tu σ H B := h
theorem r_not (h : tt σ H fun c H1 => B (!c) H1) : tNot tt σ H B := h
theorem r_andV (h : ta σ H fun x H1 => ∃ c, x = .bl c ∧ if c = true then tb σ H1 Q else Q (.bl false) H1) : tAndV ta tb σ H Q := h
theorem r_orV (h : ta σ H fun x H1 => ∃ c, x = .bl c ∧ if c = true then Q (.bl true) H1 else tb σ H1 Q) : tOrV ta tb σ H Q := h
theorem r_notV (h : ta σ H fun x H1 => ∃ c, x = .bl c ∧ Q (.bl (!c)) H1) : tNotV ta σ H Q := h
theorem r_blA {C D : Bool → Prop} (h : if b = true then C b else D b) : ∃ c, V.bl b = .bl c ∧ if c = true then C c else D c := ⟨b, rfl, h⟩
theorem r_chain (h : ta σ H fun x H1 => tb σ H1 fun y H2 => r x y H2 fun z H3 => ∃ k, z = .bl k ∧ (if k = true then tc σ H3 fun w' H4 => r' y w' H4 Q else Q (.bl false) H3)) : tChain r r' ta tb tc σ H Q := h
theorem r_nil (h : A [] H) : tNil σ H A := h
theorem r_cons (h : ta σ H fun x H1 => tA σ H1 fun xs H2 => A (x :: xs) H2) : tCons ta tA σ H A := h
theorem r_cb {f : List V → Hp → VK → Prop} (h : tA σ H fun vs H1 => f vs H1 Q) : tCB f tA σ H Q := h
theorem r_call {sp : Sp} {dvs : List V} {E : XK} (h : tA σ H fun vs H1 => sp (vs ++ dvs) H1 Q E) : tCall sp dvs E tA σ H Q := h
theorem r_isN (h : ta σ H fun x H1 => Q (.bl (decide (x = .non))) H1) : tIsN ta σ H Q := h
theorem r_notN (h : ta σ H fun x H1 => Q (.bl (!decide (x = .non))) H1) : tNotN ta σ H Q := h
theorem r_tup (h : tA σ H fun xs H1 => xs.length ≤ sizeLine ∧ ∀ p, H1 p = none → Q (.ref p) (upd H1 p (.tup xs))) : tTup tA σ H Q := h
theorem r_lst (h : tA σ H fun xs H1 => xs.length ≤ sizeLine ∧ ∀ p, H1 p = none → Q (.ref p) (upd H1 p (.lst xs))) : tLst tA σ H Q := h
theorem r_sl {f : V → Option Int → Option Int → Hp → VK → Prop} {tl th : TO} (h : te σ H fun x H1 => tl σ H1 fun l H2 => th σ H2 fun u H3 => f x l u H3 Q) : tSl f te tl th σ H Q := h
theorem r_noPart {O : Option Int → Hp → Prop} (h : O none H) : tNoPart σ H O := h
theorem r_part {O : Option Int → Hp → Prop} (h : te σ H fun x H1 => ∃ i, x = .int i ∧ O (some i) H1) : tPart te σ H O := h
theorem r_fld {f : Str} (h : ta σ H fun x H1 => ∃ a C dx fs v, x = .ref a ∧ H1 a = some (.ins C dx fs) ∧ Cls K C ∧ NoAttr K C f ∧ fs.lookup f = some v ∧ Q v H1) : tFld K ta f σ H Q := h
theorem r_fld2 {f : Str} {a C dx : Addr} {fs : List (Str × V)} (ho : H a = some (.ins C dx fs)) (hc : Cls K C) (hn : NoAttr K C f) (hl : fs.lookup f = some v) (h : Q v H) :
    ∃ a' C dx fs v, V.ref a = .ref a' ∧ H a' = some (.ins C dx fs) ∧ Cls K C ∧ NoAttr K C f ∧ fs.lookup f = some v ∧ Q v H := ⟨a, C, dx, fs, v, rfl, ho, hc, hn, hl, h⟩
theorem r_meth {In : Addr → Prop} {m : Str} {sp : Addr → Sp} {E : XK} (h : ta σ H fun x H1 => ∃ a C dx fs, x = .ref a ∧ H1 a = some (.ins C dx fs) ∧ In C ∧ fs.lookup m = none ∧ tA σ H1 fun vs H2 => sp C (x :: vs) H2 Q E) : tMethV In m sp E ta tA σ H Q := h
theorem r_truth (h : ta σ H fun x H' => ∃ k, TruV K x H' k ∧ B k H') : (fun (σ : L2.St) (H : Hp) (Q : Bool → Hp → Prop) => ta σ H fun x H' => ∃ k, TruV K x H' k ∧ Q k H') σ H B := h
theorem r_sgn {c : Nat} {z : Str} {P : Nat → Str → Prop} (h : P c z) : ∃ (c' : Nat) (z' : Str), V.str ⟨#[c]⟩ = .str ⟨#[c']⟩ ∧ V.str z = .str z' ∧ P c' z' := ⟨c, z, rfl, rfl, h⟩
theorem r_ss {a z : Str} {P : Str → Str → Prop} (h : P a z) : ∃ (a' : Str) (z' : Str), V.str a = .str a' ∧ V.str z = .str z' ∧ P a' z' := ⟨a, z, rfl, rfl, h⟩
theorem r_ii {P : Int → Int → Prop} (h : P i j) : ∃ i' j', V.int i = .int i' ∧ V.int j = .int j' ∧ P i' j' := ⟨i, j, rfl, rfl, h⟩
theorem r_vei {ta : TA} (h : ta σ H fun vs H1 => ∃ (a C : Addr) (ws : List V), vs = .ref a :: ws ∧ ws.length ≤ 1000 ∧ OexC K C ∧ H1 a = some (exo a C none) ∧ Q .non H1) : tVeI K ta σ H Q := h
theorem r_ost {f : Str} {to : TE} (h : te σ H fun y H1 => to σ H1 fun x H2 => ∃ a C : Addr, x = .ref a ∧ OexC K C ∧ PySem.W.findIn K (.ref C) f = some none ∧
  ((H2 a = some (exo a C none) ∧ ∀ dx, H2 dx = none → dx ≠ a → D.nx σ (upd (upd H2 dx (exd dx [(f, y)])) a (exo a C (some dx)))) ∨
    ∃ (dx : Addr) (fs : List (Str × V)), H2 a = some (exo a C (some dx)) ∧ H2 dx = some (exd dx fs) ∧ fs.length ≤ 900 ∧ D.nx σ (upd H2 dx (exd dx ((f, y) :: fs))))) : tOst K f to te D σ H := h
theorem r_fldS {f : Str} {ta tv : TE} (h : tv σ H fun y H1 => ta σ H1 fun x H2 => ∃ a C dx fs, x = .ref a ∧ H2 a = some (.ins C dx fs) ∧ Cls K C ∧ NoAttr K C f ∧ fs.length < 1000 ∧ D.nx σ (upd H2 a (.ins C dx (putF f y fs)))) : sFld K ta tv f D σ H := h
/-- ways -/
theorem r_iteD {p : Prop} [Decidable p] {X Y : Prop} (h1 : p → X) (h2 : ¬ p → Y) : if decide p = true then X else Y := by
  by_cases h : p
  · rw [if_pos (by simpa using h)]; exact h1 h
  · rw [if_neg (by simpa using h)]; exact h2 h
theorem r_iteN {p : Prop} [Decidable p] {X Y : Prop} (h1 : ¬ p → X) (h2 : p → Y) : if (!decide p) = true then X else Y := by
  by_cases h : p
  · rw [if_neg (by simpa using h)]; exact h2 h
  · rw [if_pos (by simpa using h)]; exact h1 h
theorem r_iteB {X Y : Prop} (h1 : b = true → X) (h2 : b = false → Y) : if b = true then X else Y := by
  cases b
  · exact h2 rfl
  · exact h1 rfl
theorem r_T {X Y : Prop} (h : X) : if true = true then X else Y := h
theorem r_F {X Y : Prop} (h : Y) : if false = true then X else Y := h
theorem r_NT {X Y : Prop} (h : Y) : if (!true) = true then X else Y := h
theorem r_NF {X Y : Prop} (h : X) : if (!false) = true then X else Y := h
theorem r_DT {p : Prop} [Decidable p] {X Y : Prop} (hp : p) (h : X) : if decide p = true then X else Y := by rw [if_pos (decide_eq_true hp)]; exact h
theorem r_DF {p : Prop} [Decidable p] {X Y : Prop} (hp : ¬ p) (h : Y) : if decide p = true then X else Y := by rw [if_neg (by simpa using hp)]; exact h
theorem r_NDT {p : Prop} [Decidable p] {X Y : Prop} (hp : p) (h : Y) : if (!decide p) = true then X else Y := by rw [if_neg (by simpa using hp)]; exact h
theorem r_NDF {p : Prop} [Decidable p] {X Y : Prop} (hp : ¬ p) (h : X) : if (!decide p) = true then X else Y := by rw [if_pos (by simpa using hp)]; exact h
end
/-! ### loops -/
section
variable {σ : L2.St} {H : Hp} {D : Ends} {te : TE} {ta : TA} {g : TG} {tb : TS} {K : PySem.W.Frag}
theorem r_forStr {j : Nat} (h : te σ H fun v H1 => ∃ x : Str, v = .str x ∧ ∃ Pv : Nat → L2.St → Hp → Prop, Pv 0 σ H1 ∧
    (∀ i c σ' H', x.cps.toList[i]? = some c → Pv i σ' H' → tb { D with nx := Pv (i + 1), ct := Pv (i + 1), bk := D.nx } (σ'.set j (some (.str ⟨#[c]⟩))) H') ∧ ∀ σ' H', Pv x.cps.toList.length σ' H' → D.nx σ' H')
    (mono : ∀ R R' : V → Hp → Prop, (∀ v H1, R v H1 → R' v H1) → te σ H R → te σ H R') : tFor (iStr te) (gName j) tb D σ H := by
  refine mono _ _ (fun v H1 ⟨x, ex, Pv, h0, hs, hd⟩ => ⟨x, ex, for_it walk_str Pv h0 (fun _ _ _ _ _ => True.intro) (fun i v σ' H' H'' hi p y => ?_) (fun σ' H' p => hd σ' H' (by rw [Array.length_toList]; exact p))⟩) h
  obtain ⟨rfl, c, hc, rfl⟩ := y
  exact hs i c σ' _ (by rw [Array.getElem?_toList]; exact hc) p
end
theorem mono_var {σ : L2.St} {H : Hp} {i : Nat} (R R' : V → Hp → Prop) (k : ∀ v H1, R v H1 → R' v H1) (h : tVar i σ H R) : tVar i σ H R' := by
  obtain ⟨v, e, h⟩ := h
  exact ⟨v, e, k _ _ h⟩
/-- raised: an own exception with its field at a new place -/
def Rz1 (K : PySem.W.Frag) (E : XK) (H : Hp) (C f : Str) (v : V) : Prop := ∀ d H', Same H H' → H d = none → H' d = some (.xd [(f, v)]) → E (.ref (He.ga K C)) (some d) H'
def Rz2 (K : PySem.W.Frag) (E : XK) (H : Hp) (C f g : Str) (v u : V) : Prop := ∀ d H', Same H H' → H d = none → H' d = some (.xd [(g, u), (f, v)]) → E (.ref (He.ga K C)) (some d) H'
theorem r_mko {C : Addr} {sp : Sp} {dvs : List V} {ta : TA} {σ : L2.St} {H : Hp} {Q : XK} (h : ta σ H fun vs H1 => vs.length ≤ 1000 ∧ ∀ a, H1 a = none → sp (.ref a :: (vs ++ dvs)) (upd H1 a (exo a C none))
  (fun v H2 => v = .non ∧ ∃ (d : Addr) (fs : List (Str × V)), H2 a = some (exo a C (some d)) ∧ H2 d = some (exd d fs) ∧ H1 d = none ∧ Q (.ref C) (some d) (upd (del H2 a) d (.xd fs))) (fun _ _ _ => False)) : tMkO C sp dvs ta σ H Q := h
/-- the frame's K -/
theorem cxK {CX : CXT} {P : Program} {w : World} {K : PySem.W.Frag} {mg : Str → Option Value} {base : Heap} {N : List Str} {qual : Str} {scope : Scope} {f : Addr} {cd : Value} {A : Around} {outer : List Env} {s : Shared} {H : Hp} {E : XK} :
    (cxOf CX P w K mg base N qual scope f cd A outer s H E).K = K := rfl
end OW

namespace OW
open PySem PySem.Spec PyProof.Rows L2
/-- an own exception's __init__ of one field, of two -/
def sp_exc1 (K : PySem.W.Frag) (C : Addr) (f : Str) : Sp := fun vs H Q _ => ∃ a v, vs = [.ref a, v] ∧ H a = some (exo a C none) ∧ ∀ dx, H dx = none → dx ≠ a → Q .non (upd (upd H dx (exd dx [(f, v)])) a (exo a C (some dx)))
def sp_exc2 (K : PySem.W.Frag) (C : Addr) (f g : Str) : Sp := fun vs H Q _ => ∃ a v u, vs = [.ref a, v, u] ∧ H a = some (exo a C none) ∧
  ∀ dx, H dx = none → dx ≠ a → Q .non (upd (upd (upd H dx (exd dx [(f, v)])) a (exo a C (some dx))) dx (exd dx [(g, u), (f, v)]))
/-- raised with these values: the exception's dict stands at a new place -/
theorem mk1 {K : PySem.W.Frag} {C f : Str} {H : Hp} {Q : XK} {v : V} (k : Rz1 K Q H C f v) : [v].length ≤ 1000 ∧ ∀ a, H a = none → sp_exc1 K (He.ga K C) f (.ref a :: ([v] ++ [])) (upd H a (exo a (He.ga K C) none))
  (fun v H2 => v = .non ∧ ∃ (d : Addr) (fs : List (Str × V)), H2 a = some (exo a (He.ga K C) (some d)) ∧ H2 d = some (exd d fs) ∧ H d = none ∧ Q (.ref (He.ga K C)) (some d) (upd (del H2 a) d (.xd fs))) (fun _ _ _ => False) := by
  refine ⟨(by show 1 ≤ 1000; decide), fun a ha => ⟨a, v, rfl, upd_same, fun dx hd hne => ⟨rfl, dx, _, upd_same, by rw [upd_ne hne, upd_same], ?_, ?_⟩⟩⟩
  · rw [upd_ne hne] at hd; exact hd
  · rw [upd_ne hne] at hd
    refine k dx _ (fun b o e => ?_) hd upd_same
    have hb : b ≠ dx := ne_of_none e hd
    have hba : b ≠ a := ne_of_none e ha
    rw [upd_ne hb, del_ne hba, upd_ne hba, upd_ne hb, upd_ne hba]
    exact e
theorem mk2 {K : PySem.W.Frag} {C f g : Str} {H : Hp} {Q : XK} {v u : V} (k : Rz2 K Q H C f g v u) : [v, u].length ≤ 1000 ∧ ∀ a, H a = none → sp_exc2 K (He.ga K C) f g (.ref a :: ([v, u] ++ [])) (upd H a (exo a (He.ga K C) none))
  (fun v H2 => v = .non ∧ ∃ (d : Addr) (fs : List (Str × V)), H2 a = some (exo a (He.ga K C) (some d)) ∧ H2 d = some (exd d fs) ∧ H d = none ∧ Q (.ref (He.ga K C)) (some d) (upd (del H2 a) d (.xd fs))) (fun _ _ _ => False) := by
  refine ⟨(by show 2 ≤ 1000; decide), fun a ha => ⟨a, v, u, rfl, upd_same, fun dx hd hne => ⟨rfl, dx, _, by rw [upd_ne hne.symm, upd_same], upd_same, ?_, ?_⟩⟩⟩
  · rw [upd_ne hne] at hd; exact hd
  · rw [upd_ne hne] at hd
    refine k dx _ (fun b o e => ?_) hd upd_same
    have hb : b ≠ dx := ne_of_none e hd
    have hba : b ≠ a := ne_of_none e ha
    rw [upd_ne hb, del_ne hba, upd_ne hb, upd_ne hba, upd_ne hb, upd_ne hba]
    exact e
end OW

set_option maxHeartbeats 4000000
namespace OW
open PySem PySem.Spec PyProof.Rows L2
/-- a module's object as a value -/
theorem pe_gref {X : Cx} {x : Str} {pos : Pos} {a : Addr} (hg : Gl X x) (hm : X.mg x = some (.ref a)) (hd : (x == ("__debug__" : Str)) = false := by decide) : PE X (.Name x pos) (tC (.ref a)) := pe_glob hg hm rfl hd
/-- what comes back, the heap perhaps grown -/
def Rt (H : Hp) (Q : VK) (v : V) : Prop := ∀ H', Same H H' → Q v H'
theorem Rt.go {H H' : Hp} {Q : VK} {v : V} (k : Rt H Q v) (s : Same H H') : Q v H' := k H' s
theorem Rt.on {H H' : Hp} {Q : VK} {v : V} (k : Rt H Q v) (s : Same H H') : Rt H' Q v := fun H2 s2 => k H2 (s.trans s2)
theorem _root_.L2.Same.new {H : Hp} {p : Addr} {o : HO} (h : H p = none) : Same H (upd H p o) := fun a u e => by
  rw [upd_ne (ne_of_none e h)]
  exact e
theorem _root_.L2.Same.new' {H H' : Hp} {p : Addr} {o : HO} (s : Same H H') (h : H' p = none) : Same H (upd H' p o) := s.trans (Same.new h)
theorem _root_.L2.Same.seqT {K : PySem.W.Frag} {H H' : Hp} {a : Addr} {xs : List V} (e : Same H H') (h : SqT K H a xs) : SqT K H' a xs := by
  rcases h with h | h
  · rcases h with h | ⟨o, h⟩
    · exact Or.inl (Or.inl (e a _ h))
    · exact Or.inl (Or.inr ⟨o, e a _ h⟩)
  · exact Or.inr h
theorem Rz1.on {K : PySem.W.Frag} {E : XK} {H H' : Hp} {C f : Str} {v : V} (k : Rz1 K E H C f v) (s : Same H H') : Rz1 K E H' C f v := fun d H2 s2 hd h => k d H2 (s.trans s2) (s.free hd) h
theorem Rz2.on {K : PySem.W.Frag} {E : XK} {H H' : Hp} {C f g : Str} {v u : V} (k : Rz2 K E H C f g v u) (s : Same H H') : Rz2 K E H' C f g v u := fun d H2 s2 hd h => k d H2 (s.trans s2) (s.free hd) h
theorem line_le {n : Nat} (h : n ≤ 100000) : n ≤ sizeLine := Nat.le_trans h (by decide)
theorem line_lt {n : Nat} (h : n ≤ 100000) : n < sizeLine := Nat.lt_of_le_of_lt h (by decide)
theorem inV_strs (a : Str) : ∀ l : List Str, inV (.str a) (l.map V.str) = decide (a ∈ l)
  | [] => by simp [inV]
  | b :: l => by
    have ih := inV_strs a l
    unfold inV at ih ⊢
    rw [List.map_cons, List.any_cons, ih]
    have e : eqV (V.str b) (V.str a) = decide (b = a) := rfl
    rw [e]
    by_cases h : b = a
    · subst h; simp
    · have h' : ¬ a = b := fun z => h z.symm
      simp [h, h']
theorem flat_strs : ∀ l : List Str, (l.map V.str).all flatV = true
  | [] => rfl
  | _ :: l => by rw [List.map_cons, List.all_cons, flat_strs l]; rfl
section
variable {σ : L2.St} {H H1 : Hp} {Q : VK} {K : PySem.W.Frag} {i : Int} {p : Addr} {xs : List V} {v : V} {a z : Str} {l : List Str}
/-- an if by its test's answer -/
theorem r_ifB {tt : TT} {t u : TS} {D : Ends} (b : Bool) (h1 : ∀ B : Bool → Hp → Prop, (∀ H', Same H H' → B b H') → tt σ H B) (h2 : ∀ H', Same H H' → if b = true then t D σ H' else u D σ H') : tIfS tt t u D σ H :=
  h1 _ fun H' s => h2 H' s
theorem r_intB {k : Bool} {A : Int → Prop} {B : Bool → Prop} (h : B k) : (∃ i, [V.bl k] = [.int i] ∧ A i) ∨ ∃ k', [V.bl k] = [.bl k'] ∧ B k' := .inr ⟨k, rfl, h⟩
theorem r_intI {A : Int → Prop} {B : Bool → Prop} (h : A i) : (∃ i', [V.int i] = [.int i'] ∧ A i') ∨ ∃ k', [V.int i] = [.bl k'] ∧ B k' := .inl ⟨i, rfl, h⟩
theorem r_lenS {P : Str → Prop} (hl : a.length ≤ 100000) (h : P a) : ∃ z : Str, [V.str a] = [.str z] ∧ z.length ≤ sizeLine ∧ P z := ⟨a, rfl, line_le hl, h⟩
theorem r_lenL {P : List V → Prop} (hs : SqL K H p xs) (h : P xs) : ∃ q ys, [V.ref p] = [.ref q] ∧ (SqL K H q ys ∨ SqT K H q ys) ∧ P ys := ⟨p, xs, rfl, .inl hs, h⟩
theorem r_ixL (hs : SqL K H p xs) (e : atI xs i = some v) (h : Q v H) : rIxL K (.ref p) (.int i) H Q := ⟨p, xs, i, v, rfl, rfl, hs, e, h⟩
theorem r_ixT (hs : SqT K H p xs) (e : atI xs i = some v) (h : Q v H) : rIxT K (.ref p) (.int i) H Q := ⟨p, xs, i, v, rfl, rfl, hs, e, h⟩
theorem r_ixS {c : Nat} (hl : a.length ≤ 100000) (e : atI a.cps.toList i = some c) (h : Q (.str ⟨#[c]⟩) H) : rIxS (.str a) (.int i) H Q := ⟨a, i, c, rfl, rfl, line_le hl, e, h⟩
theorem r_slL {lo hi : Option Int} (hs : SqL K H p xs) (h : ∀ q, H q = none → Q (.ref q) (upd H q (.lst (cutV xs lo hi)))) : rSlL K (.ref p) lo hi H Q := ⟨p, xs, rfl, hs, h⟩
/-- a new display -/
theorem r_newL {P : Addr → Prop} (h : ∀ q, H q = none → P q) (hl : Nat.ble xs.length 1000 = true := by rfl) : xs.length ≤ sizeLine ∧ ∀ q, H q = none → P q := ⟨line_le (Nat.le_trans (Nat.le_of_ble_eq_true hl) (by decide)), h⟩
theorem r_inTp (hs : SqT K H p (l.map V.str)) (h : Q (.bl (decide (a ∈ l))) H) : rIn K false (.str a) (.ref p) H Q := by
  refine ⟨p, _, rfl, .inr hs, rfl, flat_strs l, ?_⟩
  rw [inV_strs]; exact h
theorem r_ninTp (hs : SqT K H p (l.map V.str)) (h : Q (.bl (!decide (a ∈ l))) H) : rIn K true (.str a) (.ref p) H Q := by
  refine ⟨p, _, rfl, .inr hs, rfl, flat_strs l, ?_⟩
  rw [inV_strs]; exact h
theorem r_inLs (hs : SqL K H p (l.map V.str)) (h : Q (.bl (decide (a ∈ l))) H) : rIn K false (.str a) (.ref p) H Q := by
  refine ⟨p, _, rfl, .inl hs, rfl, flat_strs l, ?_⟩
  rw [inV_strs]; exact h
theorem r_ninLs (hs : SqL K H p (l.map V.str)) (h : Q (.bl (!decide (a ∈ l))) H) : rIn K true (.str a) (.ref p) H Q := by
  refine ⟨p, _, rfl, .inl hs, rfl, flat_strs l, ?_⟩
  rw [inV_strs]; exact h
/-- in a tuple just laid -/
theorem r_inNew (l : List Str) (hl : l.length ≤ 1000) (h : ∀ q H', H q = none → Same H H' → Q (.bl (decide (a ∈ l))) H') :
    (l.map V.str).length ≤ sizeLine ∧ ∀ q, H q = none → rIn K false (.str a) (.ref q) (upd H q (.tup (l.map V.str))) Q :=
  ⟨by rw [List.length_map]; exact line_le (Nat.le_trans hl (by decide)), fun q hq => r_inTp (SqT.of upd_same) (h q _ hq (Same.new hq))⟩
theorem r_intS {P : Int → Prop} {n : Int} (e : PySem.intText? a = some n) (hl : a.length ≤ 640) (h : P n) : ∃ z m, [V.str a] = [.str z] ∧ PySem.intText? z = some m ∧ z.length ≤ 640 ∧ P m := ⟨a, n, rfl, e, hl, h⟩
theorem r_strI {P : Int → Prop} (hl : i.natAbs.log2 < 1920) (h : P i) : ∃ j, [V.int i] = [.int j] ∧ j.natAbs.log2 < 1920 ∧ P j := ⟨i, rfl, hl, h⟩
theorem at0 {α : Type} {x : α} {r : List α} : atI (x :: r) 0 = some x := by simp [atI, ixN]
theorem at1 {α : Type} {x y : α} {r : List α} : atI (x :: y :: r) 1 = some y := by
  unfold atI ixN
  rw [if_pos (by decide), if_pos (by simp only [List.length_cons]; omega)]
  rfl
theorem at2 {α : Type} {x y z : α} {r : List α} : atI (x :: y :: z :: r) 2 = some z := by
  unfold atI ixN
  rw [if_pos (by decide), if_pos (by simp only [List.length_cons]; omega)]
  rfl
theorem atNat {α : Type} {l : List α} {n : Nat} {x : α} (h : l[n]? = some x) : atI l (n : Int) = some x := by
  have hn := (List.getElem?_eq_some_iff.mp h).1
  unfold atI ixN
  rw [if_pos (by omega), if_pos (by omega)]
  simpa using h
theorem atLast {α : Type} {l : List α} {x : α} : atI (l ++ [x]) (-1) = some x := by
  unfold atI ixN
  rw [if_neg (by decide), if_pos (by simp only [List.length_append, List.length_cons, List.length_nil]; omega)]
  have e : (-1 + ((l ++ [x]).length : Int)).toNat = l.length := by simp only [List.length_append, List.length_cons, List.length_nil]; omega
  show (l ++ [x])[(-1 + ((l ++ [x]).length : Int)).toNat]? = some x
  rw [e]
  simp
end
end OW

set_option maxHeartbeats 4000000
namespace OW
open PySem PySem.Spec PyProof.Rows L2
/-! ### kinds -/
inductive KTag where
  | plain | signed | point
  deriving DecidableEq
structure KindM where
  tag : KTag
  w : Int
  p : Int
  deriving DecidableEq
def KTag.word : KTag → Str
  | .plain => "plain"
  | .signed => "signed"
  | .point => "point"
structure KindM.Good (k : KindM) : Prop where
  w4 : 4 ≤ k.w
  w32 : k.w ≤ 32
  p0 : k.tag ≠ .point → k.p = 0
  p1 : k.tag = .point → 1 ≤ k.p ∧ k.p < k.w
theorem KindM.Good.pp {k : KindM} (g : k.Good) : 0 ≤ k.p ∧ k.p < 32 := by
  have := g.w4; have := g.w32
  by_cases h : k.tag = .point
  · have := g.p1 h; omega
  · have := g.p0 h; omega
/-- B, H -/
def KindM.B (k : KindM) : Int := 2 ^ k.w.toNat
def KindM.Hf (k : KindM) : Int := 2 ^ (k.w - 1).toNat
def KindM.least (k : KindM) : Int := if k.tag = .plain then 0 else 0 - k.Hf
def KindM.greatest (k : KindM) : Int := if k.tag = .plain then k.B - 1 else k.Hf - 1
theorem KindM.Good.half {k : KindM} (g : k.Good) : k.B = 2 * k.Hf := by
  have := g.w4
  unfold KindM.B KindM.Hf
  have e : k.w.toNat = (k.w - 1).toNat + 1 := by omega
  rw [e, Int.pow_succ]; omega
theorem pow_pos' (n : Nat) : (0 : Int) < 2 ^ n := Int.pow_pos (by decide)
theorem pow_le32 {n : Nat} (h : n ≤ 32) : (2 : Int) ^ n ≤ 4294967296 := by
  have : (2 : Nat) ^ n ≤ 2 ^ 32 := Nat.pow_le_pow_right (by decide) h
  have e : ((2 ^ n : Nat) : Int) = (2 : Int) ^ n := by simp
  have e32 : (2 : Nat) ^ 32 = 4294967296 := by decide
  omega
theorem KindM.Good.Bpos {k : KindM} (_ : k.Good) : 0 < k.B := pow_pos' _
theorem KindM.Good.Hpos {k : KindM} (_ : k.Good) : 0 < k.Hf := pow_pos' _
theorem KindM.Good.Ble {k : KindM} (g : k.Good) : k.B ≤ 4294967296 := pow_le32 (by have := g.w32; omega)
theorem KindM.Good.B16 {k : KindM} (g : k.Good) : 16 ≤ k.B := by
  have h4 := g.w4
  unfold KindM.B
  have : (2 : Nat) ^ 4 ≤ 2 ^ k.w.toNat := Nat.pow_le_pow_right (by decide) (by omega)
  have e : ((2 ^ k.w.toNat : Nat) : Int) = (2 : Int) ^ k.w.toNat := by simp
  have e4 : (2 : Nat) ^ 4 = 16 := by decide
  omega
theorem KindM.Good.H8 {k : KindM} (g : k.Good) : 8 ≤ k.Hf := by have := g.B16; have := g.half; omega
/-- the class of a kind -/
def clsOf (K : PySem.W.Frag) : KTag → Addr
  | .plain => He.ga K "Plain"
  | .signed => He.ga K "Signed"
  | .point => He.ga K "Pointed"
def KindAt (K : PySem.W.Frag) (H : Hp) (a : Addr) (k : KindM) : Prop := k.Good ∧ ∃ dx, H a = some (.ins (clsOf K k.tag) dx [("width", .int k.w), ("point", .int k.p)])
theorem KindAt.on {K : PySem.W.Frag} {H H' : Hp} {a : Addr} {k : KindM} (h : KindAt K H a k) (s : Same H H') : KindAt K H' a k := by
  obtain ⟨g, dx, e⟩ := h
  exact ⟨g, dx, s _ _ e⟩
def In_Kind (K : PySem.W.Frag) (C : Addr) : Prop := C = He.ga K "Plain" ∨ C = He.ga K "Signed" ∨ C = He.ga K "Pointed"
theorem in_kind (K : PySem.W.Frag) (t : KTag) : In_Kind K (clsOf K t) := by
  cases t
  · exact .inl rfl
  · exact .inr (.inl rfl)
  · exact .inr (.inr rfl)
/-- a method of a kind at work -/
theorem r_methK {K : PySem.W.Frag} {H : Hp} {a : Addr} {k : KindM} {m : Str} {P : Addr → Prop} (h : KindAt K H a k) (hm : List.lookup m [(("width" : Str), V.int k.w), (("point" : Str), V.int k.p)] = none) (q : P (clsOf K k.tag)) :
    ∃ a' C dx fs, V.ref a = .ref a' ∧ H a' = some (.ins C dx fs) ∧ In_Kind K C ∧ fs.lookup m = none ∧ P C := by
  obtain ⟨g, dx, e⟩ := h
  exact ⟨a, _, dx, _, rfl, e, in_kind K _, hm, q⟩
theorem r_fldK {K : PySem.W.Frag} {H : Hp} {a : Addr} {k : KindM} {f : Str} {v : V} {P : V → Prop} (h : KindAt K H a k) (hc : Cls K (clsOf K k.tag)) (hn : NoAttr K (clsOf K k.tag) f) (hl : List.lookup f [(("width" : Str), V.int k.w), (("point" : Str), V.int k.p)] = some v) (q : P v) :
    ∃ a' C dx fs v, V.ref a = .ref a' ∧ H a' = some (.ins C dx fs) ∧ Cls K C ∧ NoAttr K C f ∧ fs.lookup f = some v ∧ P v := by
  obtain ⟨g, dx, e⟩ := h
  exact ⟨a, _, dx, _, v, rfl, e, hc, hn, hl, q⟩
def sp_Kind_word (K : PySem.W.Frag) (C : Addr) : Sp := fun vs H Q _ => ∃ a k, vs = [.ref a] ∧ KindAt K H a k ∧ C = clsOf K k.tag ∧ Q (.str k.tag.word) H
def sp_Kind_least (K : PySem.W.Frag) (C : Addr) : Sp := fun vs H Q _ => ∃ a k, vs = [.ref a] ∧ KindAt K H a k ∧ C = clsOf K k.tag ∧ Q (.int k.least) H
def sp_Kind_greatest (K : PySem.W.Frag) (C : Addr) : Sp := fun vs H Q _ => ∃ a k, vs = [.ref a] ∧ KindAt K H a k ∧ C = clsOf K k.tag ∧ Q (.int k.greatest) H
def KindM.isCount (k : KindM) (n : Int) : Bool := decide (k.least ≤ n) && decide (n ≤ k.greatest)
def sp_Kind_is_count (K : PySem.W.Frag) (_ : Addr) : Sp := fun vs H Q _ => ∃ a k n, vs = [.ref a, .int n] ∧ KindAt K H a k ∧ Q (.bl (k.isCount n)) H
/-- the count of bits -/
def KindM.countOf (k : KindM) (b : Int) : Int := if b > k.greatest then b - k.B else b
def sp_Kind_count_of (K : PySem.W.Frag) (_ : Addr) : Sp := fun vs H Q _ => ∃ a k b, vs = [.ref a, .int b] ∧ KindAt K H a k ∧ 0 ≤ b ∧ b < k.B ∧ Rt H Q (.int (k.countOf b))
/-- the bits of a number, gone round -/
def KindM.bitsOf (k : KindM) (c : Int) : Int := c % k.B
def sp_Kind_bits_of (K : PySem.W.Frag) (_ : Addr) : Sp := fun vs H Q _ => ∃ a k c, vs = [.ref a, .int c] ∧ KindAt K H a k ∧ k.isCount c = true ∧ Q (.int (k.bitsOf c)) H
end OW

set_option maxHeartbeats 4000000
namespace OW
open PySem PySem.Spec PyProof.Rows L2
/-! ### code that no caller of a promise reaches -/
section
variable {X : Cx} {e : Expr} {es : List Expr} {st : Stmt} {sts : List Stmt}
theorem pe_dead : PE X e (fun _ _ _ => False) := ⟨fun _ _ _ _ _ _ h => h.elim⟩
theorem pt_dead : PT X e (fun _ _ _ => False) := ⟨fun _ _ _ _ _ _ h => h.elim⟩
theorem pw_dead : PW X e (fun _ _ _ => False) := ⟨fun _ _ _ _ _ _ _ h => h.elim⟩
theorem ps_dead : PS X st (fun _ _ _ => False) := ⟨fun _ _ _ _ _ _ h => h.elim⟩
theorem pss_dead : PSs X sts (fun _ _ _ => False) := ⟨fun _ _ _ _ _ _ h => h.elim⟩
end
end OW

set_option maxHeartbeats 4000000
namespace OW
open PySem PySem.Spec PyProof.Rows L2
section
variable {σ : L2.St} {H H1 : Hp} {Q : VK} {K : PySem.W.Frag} {i j : Int} {p : Addr} {xs : List V} {v x y z : V} {D : Ends} {tb : TS} {c : TT}
theorem r_gT2 {n m : Nat} {N : L2.St → Hp → Prop} (hs : SqT K H p [x, y]) (h : N ((σ.set n (some x)).set m (some y)) H) : gTup K 2 (gCons (gName n) (gCons (gName m) gNil)) (.ref p) σ H N :=
  ⟨p, _, rfl, hs, rfl, x, _, rfl, y, _, rfl, rfl, h⟩
theorem r_gT3 {n m l : Nat} {N : L2.St → Hp → Prop} (hs : SqT K H p [x, y, z]) (h : N (((σ.set n (some x)).set m (some y)).set l (some z)) H) : gTup K 3 (gCons (gName n) (gCons (gName m) (gCons (gName l) gNil))) (.ref p) σ H N :=
  ⟨p, _, rfl, hs, rfl, x, _, rfl, y, _, rfl, z, _, rfl, rfl, h⟩
theorem r_in1 {P : Int → Prop} (h : P i) : ∃ i', [V.int i] = [.int i'] ∧ P i' := ⟨i, rfl, h⟩
theorem r_dm {P : Int → Int → Prop} (c : CDiv i j) (h : P i j) : ∃ i' j', [V.int i, V.int j] = [.int i', .int j'] ∧ CDiv i' j' ∧ P i' j' := ⟨i, j, rfl, c, h⟩
theorem r_while0 (hc : ∀ B : Bool → Hp → Prop, B false H → c σ H B) (h : D.nx σ H) : tWhile c tb D σ H :=
  ⟨fun _ σ' H' => σ' = σ ∧ H' = H, ⟨0, rfl, rfl⟩, by
    rintro m σ' H' ⟨rfl, rfl⟩
    exact hc _ (by rw [if_neg (by decide)]; exact h)⟩
theorem r_isiStr {a : Str} (h : Q (.bl true) H) : rIsi K [.str a, .ty "str"] H Q := ⟨_, .ty "str", _, _, true, rfl, .ty _, .base (.str a), kit_ty (by decide +kernel), h⟩
theorem r_bmS {r : V → List V → Hp → VK → Prop} {to : TE} {t : TA} (h : to σ H fun x H1 => (∃ a, x = .str a) ∧ t σ H1 fun xs H2 => r x xs H2 Q) (mono : ∀ R R' : V → Hp → Prop, (∀ v H1, R v H1 → R' v H1) → to σ H R → to σ H R') : tBM K "str" r to t σ H Q :=
  mono _ _ (fun v H1 ⟨⟨a, e⟩, k⟩ => ⟨by subst e; exact rfl, k⟩) h
theorem r_bmSc {r : V → List V → Hp → VK → Prop} {a : Str} {t : TA} (h : t σ H fun xs H2 => r (.str a) xs H2 Q) : tBM K "str" r (tC (.str a)) t σ H Q := ⟨rfl, h⟩
theorem r_bmSv {r : V → List V → Hp → VK → Prop} {a : Str} {n : Nat} {t : TA} (e : σ[n]? = some (some (.str a))) (h : t σ H fun xs H2 => r (.str a) xs H2 Q) : tBM K "str" r (tVar n) t σ H Q := ⟨_, e, rfl, h⟩
theorem r_m1 {r : V → List V → Hp → VK → Prop} {to te : TE} (h : to σ H fun x H1 => (∃ a, x = .str a) ∧ te σ H1 fun y H2 => r x [y] H2 Q) : tM1 r to te σ H Q := h
theorem r_s1 {a b : Str} {P : Str → Str → Prop} (h : P a b) : ∃ a' b', V.str a = .str a' ∧ [V.str b] = [.str b'] ∧ P a' b' := ⟨a, b, rfl, rfl, h⟩
theorem log_ok {i : Int} (h : i.natAbs ≤ 1099511627776) : i.natAbs.log2 < 1920 := by
  by_cases e : i.natAbs = 0
  · rw [e]; decide
  · exact (Nat.log2_lt e).mpr (Nat.lt_of_le_of_lt h (Nat.lt_of_lt_of_le (show 1099511627776 < 2 ^ 41 by decide) (Nat.pow_le_pow_right (by decide) (by decide))))
theorem log_ok' {i : Int} (h0 : -1000000000000 ≤ i) (h1 : i ≤ 1000000000000) : i.natAbs.log2 < 1920 := log_ok (by omega)
end
/-- the heap changed at one place only -/
def OnlyAt (a : Addr) (o : HO) (H H' : Hp) : Prop := H' a = some o ∧ ∀ b, b ≠ a → H' b = H b
theorem OnlyAt.upd {a : Addr} {o : HO} {H : Hp} : OnlyAt a o H (upd H a o) := ⟨upd_same, fun _ h => upd_ne h⟩
theorem OnlyAt.step {a : Addr} {o o' : HO} {H H' : Hp} (h : OnlyAt a o H H') : OnlyAt a o' H (L2.upd H' a o') := ⟨upd_same, fun b hb => by rw [upd_ne hb]; exact h.2 b hb⟩
theorem OnlyAt.same {a : Addr} {o : HO} {H H' : Hp} (h : OnlyAt a o H H') (n : H a = none) : Same H H' := fun b u e => by
  rw [h.2 b (ne_of_none e n)]; exact e
theorem OnlyAt.new {a dx : Addr} {o o' o2 : HO} {H H' : Hp} (h : OnlyAt a o' (L2.upd (L2.upd H dx o2) a o) H') (n : H a = none) (nd : H dx = none) : Same H H' := fun b u e => by
  rw [h.2 b (ne_of_none e n), upd_ne (ne_of_none e n), upd_ne (ne_of_none e nd)]; exact e
end OW

set_option maxHeartbeats 4000000
namespace OW
open PySem PySem.Spec PyProof.Rows L2
/-! ### zip of a text and a list -/
def Itzs (K : PySem.W.Frag) (x : Str) (b : Addr) : It :=
  ⟨fun i H => i < x.cps.size ∧ ∃ (ys : List V) (y : V), SqL K H b ys ∧ ys[i]? = some y,
    fun i H v H' => ∃ T c y, v = .ref T ∧ H T = none ∧ H' = upd H T (.tup [.str ⟨#[c]⟩, y]) ∧ x.cps[i]? = some c ∧ ∀ ys, SqL K H b ys → ys[i]? = some y,
    fun i H => ∃ ys : List V, SqL K H b ys ∧ i ≤ x.cps.size ∧ i ≤ ys.length ∧ (i = x.cps.size ∨ i = ys.length)⟩
theorem turn_zipSL {P : Program} {w : World} {K : PySem.W.Frag} {elts : List Expr} {kk : Nat} {tpos : Pos} {x : Str} {t : Tok} {b z TI TO i1 i2 : Addr} (S : ZipSep2 z TI TO i1 i2 [i1] [i2, b]) :
    Turn P w K (.Tuple elts kk tpos) (Itzs K x b) [z, TI, TO, i1, i2] z (fun i h => IsZip h z TI TO .none ∧ IsTupOf2 h TI (.ref i1) (.ref i2) ∧ (∃ p q, IsTupOf2 h TO p q) ∧ h.IsStrIter i1 (strIterType x) x t i ∧ h.IsListIter i2 b i) where
  mem := by simp
  obj := fun i h st c hc => by
    obtain ⟨hz, hTI, ⟨p, q, hTO⟩, ⟨o1, e1, _, d1⟩, ⟨o2, e2, _, d2⟩⟩ := st
    have e' : c = z ∨ c = TI ∨ c = TO ∨ c = i1 ∨ c = i2 := by simpa using hc
    rcases e' with r | r | r | r | r
    · rw [r]; exact ⟨_, hz, fun v u => nomatch u⟩
    · rw [r]; exact ⟨_, hTI, fun v u => nomatch u⟩
    · rw [r]; exact ⟨_, hTO, fun v u => nomatch u⟩
    · exact ⟨_, by rw [r]; exact e1, fun v u => by rw [d1] at u; cases u⟩
    · exact ⟨_, by rw [r]; exact e2, fun v u => by rw [d2] at u; cases u⟩
  keep := fun i h h' st k => by
    obtain ⟨hz, hTI, ⟨p, q, hTO⟩, ⟨o1, e1, r1⟩, h2⟩ := st
    exact ⟨k z (by simp) _ hz, k TI (by simp) _ hTI, ⟨p, q, k TO (by simp) _ hTO⟩, ⟨o1, k i1 (by simp) _ e1, r1⟩, h2.at fun o u => k i2 (by simp) o u⟩
  item := by
    intro X hP hw hK hc i pins s σ H E I hf st hg
    subst hP hw hK
    obtain ⟨hz, hTI, ⟨p, q, hTO⟩, h1, h2⟩ := st
    obtain ⟨hi, ys, y, hqy, hy⟩ := hg
    obtain ⟨its2, rv2, p2, _⟩ := I.list hqy
    obtain ⟨u2, hu2, ru2⟩ := rv2.get hy
    have hzl : z < s.heap.objs.size := Heap.lt_size hz
    have hh := I.ok.hd hc
    have l2 : i < its2.toArray.size := by
      have := (List.getElem?_eq_some_iff.mp hu2).1
      simpa using this
    have bne : b ≠ i2 := fun e => by
      obtain ⟨o, eo, co, _⟩ := h2
      obtain ⟨o', eo', co', _⟩ := p2.isList
      rw [e, eo] at eo'
      cases eo'
      rw [co] at co'
      injection co' with q
      exact absurd q (by decide)
    have D1 := Draws.text (prog := X.prog) (w := X.w) (A := X.A.in1) hh i1 x t
    have D2 := Draws.list (prog := X.prog) (w := X.w) (A := X.A.in1) hh i2 b bne its2.toArray
    refine wpAny_pyNext_zipD2_item S D1 D2 hz hTI hTO h1 ⟨h2, p2.isList⟩ hi l2 fun x1 x2 h' tk y1 y2 z' TO' d1 d2 hT hsz hk => ?_
    obtain ⟨c, u, hcx, rfl⟩ := y1
    have e2 : x2 = u2 := by
      have hu3 : its2.toArray[i]? = some u2 := by simpa using hu2
      rw [hu3] at y2
      exact (Option.some.inj y2).symm
    subst e2
    refine ⟨_, rfl, wpAny_letOwnedTupleGo_zip (s := { s with heap := h', toks := tk }) z' fun h'' z'' sb => ?_⟩
    have hT2 : h''.get? s.heap.objs.size = some { cls := .type "tuple", data := .seq #[.str ⟨#[c]⟩ u, x2] } := (sb.2 _ (Nat.ne_of_gt hzl)).trans hT
    have new : ObjOk X.prog X.w (upd H s.heap.objs.size (.tup [.str ⟨#[c]⟩, y])) h'' s.heap.objs.size (.tup [.str ⟨#[c]⟩, y]) :=
      ⟨by show 2 ≤ sizeLine; decide, [.str ⟨#[c]⟩ u, x2], .cons ⟨u, rfl⟩ (.cons ru2 .nil), ⟨_, hT2, rfl, _, rfl⟩⟩
    have I1 : Inv X pins σ (upd H s.heap.objs.size (.tup [.str ⟨#[c]⟩, y])) { s with heap := h'', toks := tk } :=
      I.turnedNew (t' := tk) (ch := [z, TI, TO, i1, i2]) (fun c o hb q => (sb.2 c (fun q' => hb (by simp [q']))).trans (hk c o (fun q' => hb (by simp [q'])) (fun q' => hb (by simp [q'])) (fun q' => hb (by simp [q'])) (fun q' => hb (by simp [q'])) q)) hf (Nat.le_refl _) new
    refine ⟨.ref s.heap.objs.size, _, I1, rfl, ⟨_, c, y, rfl, I.hok.fresh (Nat.le_refl _), rfl, hcx, fun l hl => by rw [I.list_inj hl hqy]; exact hy⟩, ⟨z'', ?_, ⟨.str ⟨#[c]⟩ u, x2, ?_⟩, ?_, ?_⟩, fun c hcm => ?_⟩
    · exact (sb.2 _ S.TIz).trans (hk _ _ S.TIz S.TITO S.TIi1 S.TIi2 hTI)
    · exact (sb.2 _ S.TOz).trans TO'
    · obtain ⟨o1, e1, r1⟩ := d1
      exact ⟨o1, (sb.2 _ S.zi1.symm).trans e1, r1⟩
    · exact d2.1.at fun o q => (sb.2 _ S.zi2.symm).trans q
    · have hlt : c < s.heap.objs.size := by
        have e' : c = z ∨ c = TI ∨ c = TO ∨ c = i1 ∨ c = i2 := by simpa using hcm
        rcases e' with q | q | q | q | q
        · rw [q]; exact hzl
        · rw [q]; exact Heap.lt_size hTI
        · rw [q]; exact Heap.lt_size hTO
        · rw [q]; obtain ⟨_, e1, _⟩ := h1; exact Heap.lt_size e1
        · rw [q]; obtain ⟨_, e1, _⟩ := h2; exact Heap.lt_size e1
      rw [upd_ne (Nat.ne_of_lt hlt)]
      exact (hf c hcm).1
  done := by
    intro X hP hw hK hc i pins s σ H E I hf st hg
    subst hP hw hK
    obtain ⟨hz, hTI, ⟨p, q, hTO⟩, h1, h2⟩ := st
    obtain ⟨ys, hqy, hi1, hi2, hend⟩ := hg
    obtain ⟨its2, rv2, p2, _⟩ := I.list hqy
    have l2 := rv2.length
    have hh := I.ok.hd hc
    have bne : b ≠ i2 := fun e => by
      obtain ⟨o, eo, co, _⟩ := h2
      obtain ⟨o', eo', co', _⟩ := p2.isList
      rw [e, eo] at eo'
      cases eo'
      rw [co] at co'
      injection co' with q
      exact absurd q (by decide)
    have l3 : its2.toArray.size = ys.length := by rw [l2]; exact List.size_toArray
    have D1 := Draws.text (prog := X.prog) (w := X.w) (A := X.A.in1) hh i1 x t
    have D2 := Draws.list (prog := X.prog) (w := X.w) (A := X.A.in1) hh i2 b bne its2.toArray
    refine wpAny_pyNext_zipD2_end S D1 D2 hz hTI hTO h1 ⟨h2, p2.isList⟩ hi1 (by rw [l3]; exact hi2) (by rw [l3]; exact hend) fun h' tk hk => ⟨rfl, I.turnedL (t' := tk) (ch := [z, TI, TO, i1, i2]) (fun c o hb q =>
      hk c o (fun q' => hb (by simp [q'])) (fun q' => hb (by simp [q'])) (fun q' => hb (by simp [q'])) (fun q' => hb (by simp [q'])) q) hf⟩
  self := fun A i s Q E st h => wpAny_pyIter_zip st.1 h
def iZipSL (K : PySem.W.Frag) (ta : TA) : TI := fun σ H R => ta σ H fun vs H1 => ∃ x b ys, vs = [.str x, .ref b] ∧ SqL K H1 b ys ∧ R (Itzs K x b) H1
theorem pi_zipSL {X : Cx} {e e2 : Expr} {ta : TA} {p pos tpos : Pos} {elts : List Expr} {kk : Nat} (hg : Gl X "zip") (hm : X.mg "zip" = none) (ha : PA X [e, e2] ta)
    (hs : starEach [e, e2] X.env = (false, eval e X.env) :: starEach [e2] X.env := by rfl) (hpl : (backTo pos (starEach [e2] X.env)).any (·.1) = false := by rfl) :
    PI X (.Tuple elts kk tpos) (.Call (.Name "zip" p) [e, e2] [] pos) (iZipSL X.K ta) := by
  refine ⟨fun pins s σ H R I h => ?_⟩
  refine Call_ (ld_blt I hg hm PyProof.Rows.boot_zip (PyProof.Rows.callWith_type1 (thn (ha.run pos pins s σ H _ I h) fun us s1 ⟨vs, H1, I1, r1, q1⟩ => ?_) hs hpl))
  obtain ⟨x, b, ys, ex, hqy, q⟩ := q1
  subst ex
  cases r1 with
  | cons r rr =>
    cases rr with
    | cons r' rr =>
      cases rr
      obtain ⟨t, rfl⟩ := r
      cases r'
      obtain ⟨its2, rv2, p2, _⟩ := I1.list hqy
      have lb : b < s1.heap.objs.size := p2.lt
      refine zip_begins2 (begins_text x t) (begins_list b its2.toArray) trivial p2.isList fun h' hz hTI hTO h1 h2 hsz hk => wpAny_pyIter_zip hz ?_
      have I2 : Inv X pins σ H1 { s1 with heap := h' } := I1.kept (t' := s1.toks) hk
      have D := PySem.W.ktu_apart s1.heap.objs.size b b lb lb
      have S : ZipSep2 (s1.heap.objs.size + 4) (s1.heap.objs.size + 2) (s1.heap.objs.size + 3) s1.heap.objs.size (s1.heap.objs.size + 1) [s1.heap.objs.size] [s1.heap.objs.size + 1, b] :=
        ⟨D.TIz, D.TOz, D.TITO, D.TIi1, by simp, by simp, by simp, D.TIi2, by simp, by simpa using Ne.symm D.l2z, by simpa using Ne.symm D.l2TO, by simpa using Ne.symm D.l2i1, by simp⟩
      refine ⟨s1.heap.objs.size + 4, [s1.heap.objs.size + 4, s1.heap.objs.size + 2, s1.heap.objs.size + 3, s1.heap.objs.size, s1.heap.objs.size + 1], _, _, H1, rfl, I2, turn_zipSL S, ⟨hz, hTI, ⟨_, _, hTO⟩, ⟨_, h1, rfl, rfl⟩, ⟨_, h2, rfl, rfl⟩⟩, fun c hcm => ?_, q⟩
      have e' : c = s1.heap.objs.size + 4 ∨ c = s1.heap.objs.size + 2 ∨ c = s1.heap.objs.size + 3 ∨ c = s1.heap.objs.size ∨ c = s1.heap.objs.size + 1 := by simpa using hcm
      have hle : s1.heap.objs.size ≤ c := by
        rcases e' with u | u | u | u | u
        · rw [u]; exact Nat.le_add_right _ _
        · rw [u]; exact Nat.le_add_right _ _
        · rw [u]; exact Nat.le_add_right _ _
        · rw [u]; exact Nat.le_refl _
        · rw [u]; exact Nat.le_add_right _ _
      exact I1.fpOk hle (I1.hok.fresh hle)
end OW

set_option maxHeartbeats 4000000
namespace OW
open PySem PySem.Spec PyProof.Rows L2
/-! ### a list against an empty one, and against another length -/
def sameLen (xs ys : List V) : Prop := xs.length ≠ ys.length ∨ ys = []
def rEqE (K : PySem.W.Frag) : R2 := fun x y H Q => ∃ a b xs ys, x = .ref a ∧ y = .ref b ∧ SqL K H a xs ∧ SqL K H b ys ∧ sameLen xs ys ∧ Q (.bl (xs.length == ys.length)) H
def rNeE (K : PySem.W.Frag) : R2 := fun x y H Q => ∃ a b xs ys, x = .ref a ∧ y = .ref b ∧ SqL K H a xs ∧ SqL K H b ys ∧ sameLen xs ys ∧ Q (.bl (!(xs.length == ys.length))) H
section
variable {X : Cx}
theorem op_eqE (hu : X.A.units + 64 < cLine) : OpR X (compareOp .Eq) (rEqE X.K) := by
  intro pins s σ H x y v u Q I rx ry h
  obtain ⟨a, b, xs, ys, rfl, rfl, ha, hb, hs, q⟩ := h
  obtain rfl : v = Value.ref a := rx
  obtain rfl : u = Value.ref b := ry
  obtain ⟨us, r1, p1, _⟩ := I.list ha
  obtain ⟨ws, r2, p2, _⟩ := I.list hb
  have l1 := r1.length
  have l2 := r2.length
  have s1 : us.toArray.size = xs.length := by rw [l1]; exact List.size_toArray
  have s2 : ws.toArray.size = ys.length := by rw [l2]; exact List.size_toArray
  show wpAny (model X.prog X.w) X.A (richCompare .Eq (.ref a) (.ref b)) (EP X pins σ Q) X.xe s
  by_cases hl : xs.length = ys.length
  · have hy : ys = [] := hs.resolve_left fun z => z hl
    have hz : us.toArray.size = 0 := by rw [s1, hl, hy]; rfl
    refine SeqAt.RcAt.lists (e := fun _ => true) p1.isList p2.isList (by rw [s1, s2, hl]) (by omega) (fun j h1 _ => absurd h1 (by omega)) _ _ _ _ ?_
    rw [show ((List.range us.toArray.size).all fun _ => true) = (xs.length == ys.length) by rw [hl]; simp]
    exact ⟨.bl _, H, I, rfl, q⟩
  · refine SeqAt.RcAt.lists_lengths p1.isList p2.isList (by rw [s1, s2]; simpa using hl) (by omega) _ _ _ _ ?_
    rw [show (xs.length == ys.length) = false by simpa using hl] at q
    exact ⟨.bl _, H, I, rfl, q⟩
theorem op_neE (hu : X.A.units + 64 < cLine) : OpR X (compareOp .NotEq) (rNeE X.K) := by
  intro pins s σ H x y v u Q I rx ry h
  obtain ⟨a, b, xs, ys, rfl, rfl, ha, hb, hs, q⟩ := h
  obtain rfl : v = Value.ref a := rx
  obtain rfl : u = Value.ref b := ry
  obtain ⟨us, r1, p1, _⟩ := I.list ha
  obtain ⟨ws, r2, p2, _⟩ := I.list hb
  have l1 := r1.length
  have l2 := r2.length
  have s1 : us.toArray.size = xs.length := by rw [l1]; exact List.size_toArray
  have s2 : ws.toArray.size = ys.length := by rw [l2]; exact List.size_toArray
  show wpAny (model X.prog X.w) X.A (richCompare .NotEq (.ref a) (.ref b)) (EP X pins σ Q) X.xe s
  by_cases hl : xs.length = ys.length
  · have hy : ys = [] := hs.resolve_left fun z => z hl
    have hz : us.toArray.size = 0 := by rw [s1, hl, hy]; rfl
    refine SeqAt.RcNeAt.lists (e := fun _ => true) p1.isList p2.isList (by rw [s1, s2, hl]) (by omega) (fun j h1 _ => absurd h1 (by omega)) _ _ _ _ ?_
    rw [show (!((List.range us.toArray.size).all fun _ => true)) = (!(xs.length == ys.length)) by rw [hl]; simp]
    exact ⟨.bl _, H, I, rfl, q⟩
  · refine SeqAt.RcNeAt.lists_lengths p1.isList p2.isList (by rw [s1, s2]; simpa using hl) (by omega) _ _ _ _ ?_
    rw [show (xs.length == ys.length) = false by simpa using hl] at q
    exact ⟨.bl _, H, I, rfl, q⟩
end
section
variable {σ : L2.St} {H H1 : Hp} {Q : VK} {K : PySem.W.Frag} {p q : Addr} {xs ys : List V}
theorem r_eqE0 (ha : SqL K H p []) (hb : SqL K H q []) (h : Q (.bl true) H) : rEqE K (.ref p) (.ref q) H Q := ⟨p, q, _, _, rfl, rfl, ha, hb, .inr rfl, h⟩
theorem r_eqE1 (ha : SqL K H p xs) (hb : SqL K H q ys) (hn : xs.length ≠ ys.length) (h : Q (.bl false) H) : rEqE K (.ref p) (.ref q) H Q := ⟨p, q, _, _, rfl, rfl, ha, hb, .inl hn, by rw [show (xs.length == ys.length) = false by simpa using hn]; exact h⟩
theorem r_neE0 (ha : SqL K H p []) (hb : SqL K H q []) (h : Q (.bl false) H) : rNeE K (.ref p) (.ref q) H Q := ⟨p, q, _, _, rfl, rfl, ha, hb, .inr rfl, h⟩
theorem r_neE1 (ha : SqL K H p xs) (hb : SqL K H q ys) (hn : xs.length ≠ ys.length) (h : Q (.bl true) H) : rNeE K (.ref p) (.ref q) H Q := ⟨p, q, _, _, rfl, rfl, ha, hb, .inl hn, by rw [show (xs.length == ys.length) = false by simpa using hn]; exact h⟩
end
end OW

set_option maxHeartbeats 4000000
namespace OW
open PySem PySem.Spec PyProof.Rows L2
/-! ### the told program: rows, drafts -/
def num (n : Int) : Str := Str.ofString (toString n)
structure RowM where
  (deed : Str)
  (goals reads : List Str)
  (numbers : List Int)
  (way : Str)
  deriving DecidableEq
inductive Rows where
  | nil
  | row (ln : Int) (q : RowM) (rest : Rows)
  | rep (ln tm : Int) (body rest : Rows)
  deriving DecidableEq
def Rows.app : Rows → Rows → Rows
  | .nil, y => y
  | .row l q t, y => .row l q (t.app y)
  | .rep l m b t, y => .rep l m b (t.app y)
/-- the fields -/
def rowFs (ln : Int) (deed : Str) (g r n : Addr) (way : Str) : List (Str × V) := [("line", .int ln), ("deed", .str deed), ("goals", .ref g), ("reads", .ref r), ("numbers", .ref n), ("way", .str way)]
def repFs (ln tm : Int) (r : Addr) : List (Str × V) := [("line", .int ln), ("times", .int tm), ("rows", .ref r)]
def draftFs (wd : Int) (i r o l k c : Addr) : List (Str × V) := [("width", .int wd), ("inputs", .ref i), ("rows", .ref r), ("outs", .ref o), ("loops", .ref l), ("known", .ref k), ("chosen", .ref c)]
def RowsAt (K : PySem.W.Frag) (F : Hp) : Rows → List V → Prop
  | .nil, vs => vs = []
  | .row ln q rest, vs => ∃ a dx g r n vs', vs = .ref a :: vs' ∧ F a = some (.ins (He.ga K "Row") dx (rowFs ln q.deed g r n q.way)) ∧ F g = some (.lst (q.goals.map .str)) ∧ F r = some (.lst (q.reads.map .str)) ∧ F n = some (.lst (q.numbers.map .int)) ∧ RowsAt K F rest vs'
  | .rep ln tm body rest, vs => ∃ a dx b ws vs', vs = .ref a :: vs' ∧ F a = some (.ins (He.ga K "Repeat") dx (repFs ln tm b)) ∧ F b = some (.lst ws) ∧ RowsAt K F body ws ∧ RowsAt K F rest vs'
theorem RowsAt.on {K : PySem.W.Frag} {F F' : Hp} (s : Same F F') : ∀ {r : Rows} {vs : List V}, RowsAt K F r vs → RowsAt K F' r vs
  | .nil, _, h => h
  | .row .., _, ⟨a, dx, g, r, n, vs', e, h1, h2, h3, h4, h5⟩ => ⟨a, dx, g, r, n, vs', e, s _ _ h1, s _ _ h2, s _ _ h3, s _ _ h4, RowsAt.on s h5⟩
  | .rep .., _, ⟨a, dx, b, ws, vs', e, h1, h2, h3, h4⟩ => ⟨a, dx, b, ws, vs', e, s _ _ h1, s _ _ h2, RowsAt.on s h3, RowsAt.on s h4⟩
theorem RowsAt.app {K : PySem.W.Frag} {F : Hp} {y : Rows} {us : List V} (hy : RowsAt K F y us) : ∀ {r : Rows} {vs : List V}, RowsAt K F r vs → RowsAt K F (r.app y) (vs ++ us)
  | .nil, _, h => by subst h; exact hy
  | .row .., _, ⟨a, dx, g, r, n, vs', e, h1, h2, h3, h4, h5⟩ => ⟨a, dx, g, r, n, vs' ++ us, by rw [e]; rfl, h1, h2, h3, h4, RowsAt.app hy h5⟩
  | .rep .., _, ⟨a, dx, b, ws, vs', e, h1, h2, h3, h4⟩ => ⟨a, dx, b, ws, vs' ++ us, by rw [e]; rfl, h1, h2, h3, RowsAt.app hy h4⟩
def Rows.len : Rows → Nat
  | .nil => 0
  | .row _ _ t => t.len + 1
  | .rep _ _ _ t => t.len + 1
theorem RowsAt.len {K : PySem.W.Frag} {F : Hp} : ∀ {r : Rows} {vs : List V}, RowsAt K F r vs → vs.length = r.len
  | .nil, _, h => by rw [h]; rfl
  | .row .., _, ⟨a, dx, g, r, n, vs', e, h1, h2, h3, h4, h5⟩ => by rw [e, List.length_cons, h5.len]; rfl
  | .rep .., _, ⟨a, dx, b, ws, vs', e, h1, h2, h3, h4⟩ => by rw [e, List.length_cons, h4.len]; rfl
theorem RowsAt.nil_iff {K : PySem.W.Frag} {F : Hp} {r : Rows} {vs : List V} (h : RowsAt K F r vs) : vs = [] ↔ r = .nil := by
  cases r with
  | nil => exact ⟨fun _ => rfl, fun _ => h⟩
  | row l q t => obtain ⟨a, dx, g, r, n, vs', e, _⟩ := h; subst e; exact ⟨(fun z => nomatch z), (fun z => nomatch z)⟩
  | rep l m b t => obtain ⟨a, dx, b, ws, vs', e, _⟩ := h; subst e; exact ⟨(fun z => nomatch z), (fun z => nomatch z)⟩
/-- open loops, the innermost first -/
def LoopsAt (K : PySem.W.Frag) (F H : Hp) : List (Int × Int × Rows) → List V → List Addr → Prop
  | [], vs, rs => vs = [] ∧ rs = []
  | (ln, tm, body) :: l, vs, rs => ∃ a dx r ws vs' rs', vs = vs' ++ [.ref a] ∧ rs = r :: rs' ∧ F a = some (.ins (He.ga K "Repeat") dx (repFs ln tm r)) ∧ H r = some (.lst ws) ∧ RowsAt K F body ws ∧ LoopsAt K F H l vs' rs'
theorem LoopsAt.on {K : PySem.W.Frag} {F F' H H' : Hp} (s : Same F F') : ∀ {l : List (Int × Int × Rows)} {vs : List V} {rs : List Addr}, (∀ r ∈ rs, H' r = H r) → LoopsAt K F H l vs rs → LoopsAt K F' H' l vs rs
  | [], _, _, _, h => h
  | (_, _, _) :: _, _, _, k, ⟨a, dx, r, ws, vs', rs', e1, e2, h1, h2, h4, h5⟩ => ⟨a, dx, r, ws, vs', rs', e1, e2, s _ _ h1, by rw [k r (by rw [e2]; exact List.mem_cons_self)]; exact h2, h4.on s,
    LoopsAt.on s (fun r hr => k r (by rw [e2]; exact List.mem_cons_of_mem _ hr)) h5⟩
theorem LoopsAt.len {K : PySem.W.Frag} {F H : Hp} : ∀ {l : List (Int × Int × Rows)} {vs : List V} {rs : List Addr}, LoopsAt K F H l vs rs → vs.length = l.length
  | [], _, _, h => by rw [h.1]; rfl
  | (_, _, _) :: l, _, _, ⟨a, dx, r, ws, vs', rs', e1, e2, h1, h2, h4, h5⟩ => by rw [e1, List.length_append, LoopsAt.len h5]; rfl
theorem LoopsAt.alloc {K : PySem.W.Frag} {F H : Hp} : ∀ {l : List (Int × Int × Rows)} {vs : List V} {rs : List Addr}, LoopsAt K F H l vs rs → ∀ r ∈ rs, H r ≠ none
  | [], _, _, h, r, hr => by rw [h.2] at hr; cases hr
  | (_, _, _) :: l, _, _, ⟨a, dx, r', ws, vs', rs', e1, e2, h1, h2, h4, h5⟩, r, hr => by
    rw [e2] at hr
    rcases List.mem_cons.mp hr with rfl | hr
    · rw [h2]; exact fun z => nomatch z
    · exact LoopsAt.alloc h5 r hr
/-- what came in, what goes out -/
def InsAt (K : PySem.W.Frag) (F : Hp) : List (Int × Str × KindM) → List V → Prop
  | [], vs => vs = []
  | (ln, nm, kd) :: l, vs => ∃ t k vs', vs = .ref t :: vs' ∧ F t = some (.tup [.int ln, .str nm, .ref k]) ∧ KindAt K F k kd ∧ InsAt K F l vs'
def OutsAt (F : Hp) : List (Int × Str) → List V → Prop
  | [], vs => vs = []
  | (ln, nm) :: l, vs => ∃ t vs', vs = .ref t :: vs' ∧ F t = some (.tup [.int ln, .str nm]) ∧ OutsAt F l vs'
theorem InsAt.on {K : PySem.W.Frag} {F F' : Hp} (s : Same F F') : ∀ {l : List (Int × Str × KindM)} {vs : List V}, InsAt K F l vs → InsAt K F' l vs
  | [], _, h => h
  | (_, _, _) :: _, _, ⟨t, k, vs', e, h1, h2, h3⟩ => ⟨t, k, vs', e, s _ _ h1, h2.on s, InsAt.on s h3⟩
theorem InsAt.snoc {K : PySem.W.Frag} {F : Hp} {ln : Int} {nm : Str} {kd : KindM} {t k : Addr} (ht : F t = some (.tup [.int ln, .str nm, .ref k])) (hk : KindAt K F k kd) : ∀ {l : List (Int × Str × KindM)} {vs : List V}, InsAt K F l vs → InsAt K F (l ++ [(ln, nm, kd)]) (vs ++ [.ref t])
  | [], _, h => by subst h; exact ⟨t, k, [], rfl, ht, hk, rfl⟩
  | (_, _, _) :: _, _, ⟨t', k', vs', e, h1, h2, h3⟩ => ⟨t', k', vs' ++ [.ref t], by rw [e]; rfl, h1, h2, InsAt.snoc ht hk h3⟩
theorem OutsAt.on {F F' : Hp} (s : Same F F') : ∀ {l : List (Int × Str)} {vs : List V}, OutsAt F l vs → OutsAt F' l vs
  | [], _, h => h
  | (_, _) :: _, _, ⟨t, vs', e, h1, h3⟩ => ⟨t, vs', e, s _ _ h1, OutsAt.on s h3⟩
theorem OutsAt.snoc {F : Hp} {ln : Int} {nm : Str} {t : Addr} (ht : F t = some (.tup [.int ln, .str nm])) : ∀ {l : List (Int × Str)} {vs : List V}, OutsAt F l vs → OutsAt F (l ++ [(ln, nm)]) (vs ++ [.ref t])
  | [], _, h => by subst h; exact ⟨t, [], rfl, ht, rfl⟩
  | (_, _) :: _, _, ⟨t', vs', e, h1, h3⟩ => ⟨t', vs' ++ [.ref t], by rw [e]; rfl, h1, OutsAt.snoc ht h3⟩
theorem InsAt.len {K : PySem.W.Frag} {F : Hp} : ∀ {l : List (Int × Str × KindM)} {vs : List V}, InsAt K F l vs → vs.length = l.length
  | [], _, h => by rw [h]; rfl
  | (_, _, _) :: _, _, ⟨t', k', vs', e, h1, h2, h3⟩ => by rw [e, List.length_cons, InsAt.len h3]; rfl
theorem OutsAt.len {F : Hp} : ∀ {l : List (Int × Str)} {vs : List V}, OutsAt F l vs → vs.length = l.length
  | [], _, h => by rw [h]; rfl
  | (_, _) :: _, _, ⟨t', vs', e, h1, h3⟩ => by rw [e, List.length_cons, OutsAt.len h3]; rfl
/-- the names known -/
def putN (l : List Str) (n : Str) : List Str := if n ∈ l then l else l ++ [n]
def knownD (l : List Str) : List (Key × V) := l.map fun n => (Sum.inr n, V.bl true)
theorem valV_known (n : Str) : ∀ l : List Str, valV (knownD l) (Sum.inr n) = if n ∈ l then some (.bl true) else none
  | [] => rfl
  | a :: l => by
    by_cases h : a = n
    · subst h
      rw [if_pos List.mem_cons_self]
      exact valV_pos rfl
    · have e : valV (knownD (a :: l)) (Sum.inr n) = valV (knownD l) (Sum.inr n) := valV_neg (p := (Sum.inr a, V.bl true)) (fun z => h (Sum.inr.inj z))
      rw [e, valV_known n l]
      have : (n ∈ a :: l) ↔ n ∈ l := by simp [Ne.symm h]
      simp only [this]
theorem known_put (l : List Str) (n : Str) : putK (knownD l) (Sum.inr n) (.bl true) = knownD (putN l n) := by
  unfold putN
  by_cases h : n ∈ l
  · rw [if_pos h]
    unfold putK
    have ha : ((knownD l).any fun kv => decide (kv.1 = (Sum.inr n : Key))) = true := by
      rw [List.any_eq_true]
      exact ⟨(Sum.inr n, .bl true), List.mem_map.mpr ⟨n, h, rfl⟩, by simp⟩
    rw [if_pos ha]
    unfold knownD
    rw [List.map_map]
    refine List.map_congr_left fun m _ => ?_
    show (if (Sum.inr m : Key) = Sum.inr n then ((Sum.inr m : Key), V.bl true) else (Sum.inr m, .bl true)) = _
    split <;> rfl
  · rw [if_neg h, putK_new _ (by rw [valV_known, if_neg h])]
    unfold knownD
    rw [List.map_append]
    rfl
theorem putN_len (l : List Str) (n : Str) : (putN l n).length ≤ l.length + 1 := by
  unfold putN
  split
  · omega
  · rw [List.length_append]; exact Nat.le_refl _
/-- the kinds chosen, by their lines -/
def ChosenAt (K : PySem.W.Frag) (F : Hp) (kvs : List (Key × V)) (ch : List (Int × KindM)) : Prop :=
  ∀ i, match ch.lookup i with
  | some kd => ∃ k, valV kvs (Sum.inl i) = some (.ref k) ∧ KindAt K F k kd
  | none => valV kvs (Sum.inl i) = none
theorem ChosenAt.on {K : PySem.W.Frag} {F F' : Hp} {kvs : List (Key × V)} {ch : List (Int × KindM)} (s : Same F F') (h : ChosenAt K F kvs ch) : ChosenAt K F' kvs ch := fun i => by
  have q := h i
  cases e : ch.lookup i with
  | none => rw [e] at q; exact q
  | some kd =>
    rw [e] at q
    obtain ⟨k, e1, e2⟩ := q
    exact ⟨k, e1, e2.on s⟩
theorem ChosenAt.put {K : PySem.W.Frag} {F : Hp} {ln : Int} {kvs : List (Key × V)} {ch : List (Int × KindM)} {k : Addr} {kd : KindM} (h : ChosenAt K F kvs ch) (hk : KindAt K F k kd) : ChosenAt K F (putK kvs (Sum.inl ln) (.ref k)) ((ln, kd) :: ch) := fun i => by
  rw [valV_put, List.lookup_cons]
  by_cases e : i = ln
  · subst e
    rw [if_pos rfl]
    simp only [beq_self_eq_true]
    exact ⟨k, rfl, hk⟩
  · rw [if_neg (fun z => e (Sum.inl.inj z)), show (i == ln) = false from by simpa using e]
    exact h i
structure DM where
  wd : Int
  ins : List (Int × Str × KindM)
  rows : Rows
  outs : List (Int × Str)
  loops : List (Int × Int × Rows)
  known : List Str
  chosen : List (Int × KindM)
structure DA where
  (dx i r o l k c : Addr)
  rs : List Addr
def DA.fp (d : Addr) (A : DA) : List Addr := d :: A.i :: A.r :: A.o :: A.l :: A.k :: A.c :: A.rs
structure DAt (K : PySem.W.Frag) (F H : Hp) (d : Addr) (M : DM) (A : DA) : Prop where
  o : H d = some (.ins (He.ga K "Draft") A.dx (draftFs M.wd A.i A.r A.o A.l A.k A.c))
  i : ∃ v, H A.i = some (.lst v) ∧ InsAt K F M.ins v
  r : ∃ v, H A.r = some (.lst v) ∧ RowsAt K F M.rows v
  u : ∃ v, H A.o = some (.lst v) ∧ OutsAt F M.outs v
  l : ∃ v, H A.l = some (.lst v) ∧ LoopsAt K F H M.loops v A.rs
  k : H A.k = some (.dK (knownD M.known))
  c : ∃ kvs, H A.c = some (.dK kvs) ∧ kvs.length ≤ M.chosen.length ∧ ChosenAt K F kvs M.chosen
  nd : (A.fp d).Nodup
  fz : ∀ x ∈ A.fp d, F x = none
theorem DAt.alloc {K : PySem.W.Frag} {F H : Hp} {d : Addr} {M : DM} {A : DA} (h : DAt K F H d M A) : ∀ x ∈ A.fp d, ∃ o, H x = some o := by
  intro x hx
  obtain ⟨_, hi, _⟩ := h.i; obtain ⟨_, hr, _⟩ := h.r; obtain ⟨_, ho, _⟩ := h.u; obtain ⟨_, hl, hL⟩ := h.l; obtain ⟨_, hc, _⟩ := h.c
  unfold DA.fp at hx
  simp only [List.mem_cons] at hx
  rcases hx with rfl | rfl | rfl | rfl | rfl | rfl | rfl | hx
  · exact ⟨_, h.o⟩
  · exact ⟨_, hi⟩
  · exact ⟨_, hr⟩
  · exact ⟨_, ho⟩
  · exact ⟨_, hl⟩
  · exact ⟨_, h.k⟩
  · exact ⟨_, hc⟩
  · exact Option.ne_none_iff_exists'.mp (hL.alloc x hx)
/-- elsewhere -/
theorem DAt.frame {K : PySem.W.Frag} {F H H' : Hp} {d : Addr} {M : DM} {A : DA} (h : DAt K F H d M A) (e : ∀ x ∈ A.fp d, H' x = H x) : DAt K F H' d M A := by
  have m : ∀ x, x ∈ A.fp d → H' x = H x := e
  have hm : d ∈ A.fp d ∧ A.i ∈ A.fp d ∧ A.r ∈ A.fp d ∧ A.o ∈ A.fp d ∧ A.l ∈ A.fp d ∧ A.k ∈ A.fp d ∧ A.c ∈ A.fp d ∧ ∀ x ∈ A.rs, x ∈ A.fp d := by
    unfold DA.fp
    refine ⟨by simp, by simp, by simp, by simp, by simp, by simp, by simp, fun x hx => by simp [hx]⟩
  obtain ⟨m1, m2, m3, m4, m5, m6, m7, m8⟩ := hm
  obtain ⟨vi, hi⟩ := h.i; obtain ⟨vr, hr⟩ := h.r; obtain ⟨vo, ho⟩ := h.u; obtain ⟨vl, hl⟩ := h.l; obtain ⟨vc, hc⟩ := h.c
  exact ⟨by rw [m _ m1]; exact h.o, ⟨vi, by rw [m _ m2]; exact hi⟩, ⟨vr, by rw [m _ m3]; exact hr⟩, ⟨vo, by rw [m _ m4]; exact ho⟩,
    ⟨vl, by rw [m _ m5]; exact hl.1, hl.2.on (Same.refl _) fun r hr => m _ (m8 r hr)⟩, by rw [m _ m6]; exact h.k, ⟨vc, by rw [m _ m7]; exact hc⟩, h.nd, h.fz⟩
theorem DAt.same {K : PySem.W.Frag} {F H H' : Hp} {d : Addr} {M : DM} {A : DA} (h : DAt K F H d M A) (s : Same H H') : DAt K F H' d M A := h.frame fun x hx => by
  obtain ⟨o, e⟩ := h.alloc x hx
  rw [e]; exact s _ _ e
theorem DAt.other {K : PySem.W.Frag} {F H : Hp} {d x : Addr} {M : DM} {A : DA} {o : HO} (h : DAt K F H d M A) (hx : x ∉ A.fp d) : DAt K F (upd H x o) d M A := h.frame fun y hy => upd_ne fun z => hx (z ▸ hy)
theorem DAt.fresh {K : PySem.W.Frag} {F H : Hp} {d x : Addr} {M : DM} {A : DA} (h : DAt K F H d M A) (hx : H x = none) : x ∉ A.fp d := fun z => by
  obtain ⟨o, e⟩ := h.alloc x z
  rw [hx] at e; cases e
/-- more frozen -/
theorem DAt.froze {K : PySem.W.Frag} {F F' H : Hp} {d : Addr} {M : DM} {A : DA} (h : DAt K F H d M A) (s : Same F F') (z : ∀ x ∈ A.fp d, F' x = none) : DAt K F' H d M A := by
  obtain ⟨vi, hi⟩ := h.i; obtain ⟨vr, hr⟩ := h.r; obtain ⟨vo, ho⟩ := h.u; obtain ⟨vl, hl⟩ := h.l; obtain ⟨vc, hc⟩ := h.c
  exact ⟨h.o, ⟨vi, hi.1, hi.2.on s⟩, ⟨vr, hr.1, hr.2.on s⟩, ⟨vo, ho.1, ho.2.on s⟩, ⟨vl, hl.1, hl.2.on s fun _ _ => rfl⟩, h.k, ⟨vc, hc.1, hc.2.1, hc.2.2.on s⟩, h.nd, z⟩
/-- the places lie apart -/
theorem DAt.ne {K : PySem.W.Frag} {F H : Hp} {d : Addr} {M : DM} {A : DA} (h : DAt K F H d M A) :
    (d ≠ A.i ∧ d ≠ A.r ∧ d ≠ A.o ∧ d ≠ A.l ∧ d ≠ A.k ∧ d ≠ A.c) ∧ (A.i ≠ A.r ∧ A.i ≠ A.o ∧ A.i ≠ A.l ∧ A.i ≠ A.k ∧ A.i ≠ A.c) ∧ (A.r ≠ A.o ∧ A.r ≠ A.l ∧ A.r ≠ A.k ∧ A.r ≠ A.c) ∧ (A.o ≠ A.l ∧ A.o ≠ A.k ∧ A.o ≠ A.c) ∧ (A.l ≠ A.k ∧ A.l ≠ A.c) ∧ A.k ≠ A.c ∧
      (∀ x ∈ A.rs, x ≠ d ∧ x ≠ A.i ∧ x ≠ A.r ∧ x ≠ A.o ∧ x ≠ A.l ∧ x ≠ A.k ∧ x ≠ A.c) ∧ A.rs.Nodup := by
  have n := h.nd
  unfold DA.fp at n
  simp only [List.nodup_cons, List.mem_cons, not_or] at n
  obtain ⟨⟨a1, a2, a3, a4, a5, a6, a7⟩, ⟨b2, b3, b4, b5, b6, b7⟩, ⟨c3, c4, c5, c6, c7⟩, ⟨d4, d5, d6, d7⟩, ⟨e5, e6, e7⟩, ⟨f6, f7⟩, g7, nd⟩ := n
  refine ⟨⟨a1, a2, a3, a4, a5, a6⟩, ⟨b2, b3, b4, b5, b6⟩, ⟨c3, c4, c5, c6⟩, ⟨d4, d5, d6⟩, ⟨e5, e6⟩, f6, fun x hx => ⟨?_, ?_, ?_, ?_, ?_, ?_, ?_⟩, nd⟩
  all_goals rintro rfl; contradiction
section
variable {K : PySem.W.Frag} {F H : Hp} {d : Addr} {M : DM} {A : DA}
/-- all else frozen -/
theorem DAt.freeze (S : Same F H) (h : DAt K F H d M A) : ∃ F', Same F F' ∧ Same F' H ∧ DAt K F' H d M A ∧ ∀ x o, x ∉ A.fp d → H x = some o → F' x = some o := by
  classical
  have s1 : Same F (fun x => if x ∈ A.fp d then none else H x) := fun x o e => by
    have hx : x ∉ A.fp d := fun z => by rw [h.fz x z] at e; cases e
    show (if x ∈ A.fp d then none else H x) = some o
    rw [if_neg hx]
    exact S x o e
  refine ⟨fun x => if x ∈ A.fp d then none else H x, s1, fun x o e => ?_, h.froze s1 fun x hx => if_pos hx, fun x o hx e => ?_⟩
  · by_cases hx : x ∈ A.fp d
    · have e2 : (if x ∈ A.fp d then none else H x) = some o := e
      rw [if_pos hx] at e2; cases e2
    · have e2 : (if x ∈ A.fp d then none else H x) = some o := e
      rwa [if_neg hx] at e2
  · show (if x ∈ A.fp d then none else H x) = some o
    rw [if_neg hx]; exact e
theorem KindAt.move {a : Addr} {k : KindM} (h : KindAt K H a k) (e : ∀ o, H a = some o → F a = some o) : KindAt K F a k := by
  obtain ⟨g, dx, q⟩ := h
  exact ⟨g, dx, e _ q⟩
theorem DA.mem (A : DA) (d : Addr) : d ∈ A.fp d ∧ A.i ∈ A.fp d ∧ A.r ∈ A.fp d ∧ A.o ∈ A.fp d ∧ A.l ∈ A.fp d ∧ A.k ∈ A.fp d ∧ A.c ∈ A.fp d := by
  unfold DA.fp
  refine ⟨by simp, by simp, by simp, by simp, by simp, by simp, by simp⟩
/-- the width told -/
theorem DAt.setW (h : DAt K F H d M A) (w : Int) : DAt K F (upd H d (.ins (He.ga K "Draft") A.dx (draftFs w A.i A.r A.o A.l A.k A.c))) d { M with wd := w } A := by
  obtain ⟨n1, n2, n3, n4, n5, n6, n7, n8⟩ := h.ne
  obtain ⟨vi, hi⟩ := h.i; obtain ⟨vr, hr⟩ := h.r; obtain ⟨vo, ho⟩ := h.u; obtain ⟨vl, hl⟩ := h.l; obtain ⟨vc, hc⟩ := h.c
  exact ⟨upd_same, ⟨vi, by rw [upd_ne n1.1.symm]; exact hi⟩, ⟨vr, by rw [upd_ne n1.2.1.symm]; exact hr⟩, ⟨vo, by rw [upd_ne n1.2.2.1.symm]; exact ho⟩,
    ⟨vl, by rw [upd_ne n1.2.2.2.1.symm]; exact hl.1, hl.2.on (Same.refl _) fun r hr => upd_ne (n7 r hr).1⟩, by rw [upd_ne n1.2.2.2.2.1.symm]; exact h.k, ⟨vc, by rw [upd_ne n1.2.2.2.2.2.symm]; exact hc⟩, h.nd, h.fz⟩
/-- one more that comes in -/
theorem DAt.addI {v : List V} {ln : Int} {nm : Str} {kd : KindM} {t k : Addr} (h : DAt K F H d M A) (e : H A.i = some (.lst v)) (ht : F t = some (.tup [.int ln, .str nm, .ref k])) (hk : KindAt K F k kd) :
    DAt K F (upd H A.i (.lst (v ++ [.ref t]))) d { M with ins := M.ins ++ [(ln, nm, kd)] } A := by
  obtain ⟨n1, n2, n3, n4, n5, n6, n7, n8⟩ := h.ne
  obtain ⟨vi, hi1, hi2⟩ := h.i; obtain ⟨vr, hr⟩ := h.r; obtain ⟨vo, ho⟩ := h.u; obtain ⟨vl, hl⟩ := h.l; obtain ⟨vc, hc⟩ := h.c
  rw [e] at hi1; cases hi1
  exact ⟨by rw [upd_ne n1.1]; exact h.o, ⟨_, upd_same, hi2.snoc ht hk⟩, ⟨vr, by rw [upd_ne n2.1.symm]; exact hr⟩, ⟨vo, by rw [upd_ne n2.2.1.symm]; exact ho⟩,
    ⟨vl, by rw [upd_ne n2.2.2.1.symm]; exact hl.1, hl.2.on (Same.refl _) fun r hr => upd_ne (n7 r hr).2.1⟩, by rw [upd_ne n2.2.2.2.1.symm]; exact h.k, ⟨vc, by rw [upd_ne n2.2.2.2.2.symm]; exact hc⟩, h.nd, h.fz⟩
/-- one more that goes out -/
theorem DAt.addO {v : List V} {ln : Int} {nm : Str} {t : Addr} (h : DAt K F H d M A) (e : H A.o = some (.lst v)) (ht : F t = some (.tup [.int ln, .str nm])) :
    DAt K F (upd H A.o (.lst (v ++ [.ref t]))) d { M with outs := M.outs ++ [(ln, nm)] } A := by
  obtain ⟨n1, n2, n3, n4, n5, n6, n7, n8⟩ := h.ne
  obtain ⟨vi, hi⟩ := h.i; obtain ⟨vr, hr⟩ := h.r; obtain ⟨vo, ho1, ho2⟩ := h.u; obtain ⟨vl, hl⟩ := h.l; obtain ⟨vc, hc⟩ := h.c
  rw [e] at ho1; cases ho1
  exact ⟨by rw [upd_ne n1.2.2.1]; exact h.o, ⟨vi, by rw [upd_ne n2.2.1]; exact hi⟩, ⟨vr, by rw [upd_ne n3.1]; exact hr⟩, ⟨_, upd_same, ho2.snoc ht⟩,
    ⟨vl, by rw [upd_ne n4.1.symm]; exact hl.1, hl.2.on (Same.refl _) fun r hr => upd_ne (n7 r hr).2.2.2.1⟩, by rw [upd_ne n4.2.1.symm]; exact h.k, ⟨vc, by rw [upd_ne n4.2.2.symm]; exact hc⟩, h.nd, h.fz⟩
/-- a name known -/
theorem DAt.know (h : DAt K F H d M A) (n : Str) : DAt K F (upd H A.k (.dK (putK (knownD M.known) (Sum.inr n) (.bl true)))) d { M with known := putN M.known n } A := by
  obtain ⟨n1, n2, n3, n4, n5, n6, n7, n8⟩ := h.ne
  obtain ⟨vi, hi⟩ := h.i; obtain ⟨vr, hr⟩ := h.r; obtain ⟨vo, ho⟩ := h.u; obtain ⟨vl, hl⟩ := h.l; obtain ⟨vc, hc⟩ := h.c
  exact ⟨by rw [upd_ne n1.2.2.2.2.1]; exact h.o, ⟨vi, by rw [upd_ne n2.2.2.2.1]; exact hi⟩, ⟨vr, by rw [upd_ne n3.2.2.1]; exact hr⟩, ⟨vo, by rw [upd_ne n4.2.1]; exact ho⟩,
    ⟨vl, by rw [upd_ne n5.1]; exact hl.1, hl.2.on (Same.refl _) fun r hr => upd_ne (n7 r hr).2.2.2.2.2.1⟩, by rw [upd_same, known_put], ⟨vc, by rw [upd_ne n6.symm]; exact hc⟩, h.nd, h.fz⟩
/-- a kind chosen -/
theorem DAt.choose {kvs : List (Key × V)} {ln : Int} {kd : KindM} {k : Addr} (h : DAt K F H d M A) (e : H A.c = some (.dK kvs)) (hk : KindAt K F k kd) : DAt K F (upd H A.c (.dK (putK kvs (Sum.inl ln) (.ref k)))) d { M with chosen := (ln, kd) :: M.chosen } A := by
  obtain ⟨n1, n2, n3, n4, n5, n6, n7, n8⟩ := h.ne
  obtain ⟨vi, hi⟩ := h.i; obtain ⟨vr, hr⟩ := h.r; obtain ⟨vo, ho⟩ := h.u; obtain ⟨vl, hl⟩ := h.l; obtain ⟨vc, hc1, hc2, hc3⟩ := h.c
  rw [e] at hc1; cases hc1
  have := length_putK kvs (Sum.inl ln) (.ref k)
  exact ⟨by rw [upd_ne n1.2.2.2.2.2]; exact h.o, ⟨vi, by rw [upd_ne n2.2.2.2.2]; exact hi⟩, ⟨vr, by rw [upd_ne n3.2.2.2]; exact hr⟩, ⟨vo, by rw [upd_ne n4.2.2]; exact ho⟩,
    ⟨vl, by rw [upd_ne n5.2]; exact hl.1, hl.2.on (Same.refl _) fun r hr => upd_ne (n7 r hr).2.2.2.2.2.2⟩, by rw [upd_ne n6]; exact h.k, ⟨_, upd_same, by show _ ≤ M.chosen.length + 1; omega, hc3.put hk⟩, h.nd, h.fz⟩
/-- the rows of the innermost block -/
def DM.top (M : DM) : Rows := match M.loops with | [] => M.rows | (_, _, y) :: _ => y
def addR (M : DM) (x : Rows) : DM :=
  match M.loops with
  | [] => { M with rows := M.rows.app x }
  | (a, b, y) :: l => { M with loops := (a, b, y.app x) :: l }
def DA.blk (A : DA) : Addr := match A.rs with | [] => A.r | x :: _ => x
theorem DAt.blkAt (h : DAt K F H d M A) : ∃ v, H A.blk = some (.lst v) ∧ RowsAt K F M.top v := by
  obtain ⟨vl, hl1, hl2⟩ := h.l
  unfold DA.blk DM.top
  revert hl2
  cases M.loops with
  | nil => intro hl2; rw [hl2.2]; exact h.r
  | cons x l =>
    obtain ⟨a, b, y⟩ := x
    rintro ⟨q, dx, r, ws, vs', rs', e1, e2, h1, h2, h4, h5⟩
    rw [e2]
    exact ⟨ws, h2, h4⟩
theorem DAt.blk_mem (h : DAt K F H d M A) : A.blk ∈ A.fp d := by
  unfold DA.blk DA.fp
  cases A.rs with
  | nil => simp
  | cons x r => simp
/-- a row more in the innermost block -/
theorem DAt.addN {v us : List V} {x : Rows} (h : DAt K F H d M A) (e : H A.blk = some (.lst v)) (hx : RowsAt K F x us) : DAt K F (upd H A.blk (.lst (v ++ us))) d (addR M x) A := by
  obtain ⟨n1, n2, n3, n4, n5, n6, n7, n8⟩ := h.ne
  obtain ⟨vi, hi⟩ := h.i; obtain ⟨vr, hr1, hr2⟩ := h.r; obtain ⟨vo, ho⟩ := h.u; obtain ⟨vl, hl1, hl2⟩ := h.l; obtain ⟨vc, hc⟩ := h.c
  obtain ⟨wd, ins, rows, outs, loops, known, chosen⟩ := M
  cases loops with
  | nil =>
    have e0 : A.rs = [] := hl2.2
    have eb : A.blk = A.r := by unfold DA.blk; rw [e0]
    rw [eb] at e ⊢
    rw [e] at hr1; cases hr1
    exact ⟨by rw [upd_ne n1.2.1]; exact h.o, ⟨vi, by rw [upd_ne n2.1]; exact hi⟩, ⟨_, upd_same, RowsAt.app hx hr2⟩, ⟨vo, by rw [upd_ne n3.1.symm]; exact ho⟩,
      ⟨vl, by rw [upd_ne n3.2.1.symm]; exact hl1, hl2.on (Same.refl _) fun r hr => upd_ne (n7 r hr).2.2.1⟩, by rw [upd_ne n3.2.2.1.symm]; exact h.k, ⟨vc, by rw [upd_ne n3.2.2.2.symm]; exact hc⟩, h.nd, h.fz⟩
  | cons y l =>
    obtain ⟨a, b, y⟩ := y
    obtain ⟨q, dx, r, ws, vs', rs', e1, e2, h1, h2, h4, h5⟩ := hl2
    have eb : A.blk = r := by unfold DA.blk; rw [e2]
    have hm : r ∈ A.rs := by rw [e2]; exact List.mem_cons_self
    obtain ⟨m1, m2, m3, m4, m5, m6, m7⟩ := n7 r hm
    rw [eb] at e ⊢
    rw [e] at h2; cases h2
    rw [e2] at n8
    have n9 := (List.nodup_cons.mp n8).1
    exact ⟨by rw [upd_ne m1.symm]; exact h.o, ⟨vi, by rw [upd_ne m2.symm]; exact hi⟩, ⟨vr, by rw [upd_ne m3.symm]; exact hr1, hr2⟩, ⟨vo, by rw [upd_ne m4.symm]; exact ho⟩,
      ⟨vl, by rw [upd_ne m5.symm]; exact hl1, ⟨q, dx, r, _, vs', rs', e1, e2, h1, upd_same, RowsAt.app hx h4, h5.on (Same.refl _) fun z hz => upd_ne fun w => n9 (w ▸ hz)⟩⟩, by rw [upd_ne m6.symm]; exact h.k, ⟨vc, by rw [upd_ne m7.symm]; exact hc⟩, h.nd, h.fz⟩
/-- a loop more -/
theorem DAt.push {v : List V} {ln tm : Int} {a dx r : Addr} (h : DAt K F H d M A) (e : H A.l = some (.lst v)) (ha : F a = some (.ins (He.ga K "Repeat") dx (repFs ln tm r))) (hr : H r = some (.lst [])) (hn : r ∉ A.fp d) (hf : F r = none) :
    DAt K F (upd H A.l (.lst (v ++ [.ref a]))) d { M with loops := (ln, tm, .nil) :: M.loops } { A with rs := r :: A.rs } := by
  obtain ⟨n1, n2, n3, n4, n5, n6, n7, n8⟩ := h.ne
  obtain ⟨vi, hi⟩ := h.i; obtain ⟨vr, hr1⟩ := h.r; obtain ⟨vo, ho⟩ := h.u; obtain ⟨vl, hl1, hl2⟩ := h.l; obtain ⟨vc, hc⟩ := h.c
  rw [e] at hl1; cases hl1
  have hn' := hn
  unfold DA.fp at hn'
  simp only [List.mem_cons, not_or] at hn'
  obtain ⟨q1, q2, q3, q4, q5, q6, q7, q8⟩ := hn'
  refine ⟨by rw [upd_ne n1.2.2.2.1]; exact h.o, ⟨vi, by rw [upd_ne n2.2.2.1]; exact hi⟩, ⟨vr, by rw [upd_ne n3.2.1]; exact hr1⟩, ⟨vo, by rw [upd_ne n4.1]; exact ho⟩,
    ⟨_, upd_same, ⟨a, dx, r, [], v, A.rs, rfl, rfl, ha, by rw [upd_ne q5]; exact hr, rfl, hl2.on (Same.refl _) fun z hz => upd_ne (n7 z hz).2.2.2.2.1⟩⟩, by rw [upd_ne n5.1.symm]; exact h.k, ⟨vc, by rw [upd_ne n5.2.symm]; exact hc⟩, ?_, ?_⟩
  · have nd := h.nd
    unfold DA.fp at nd ⊢
    simp only [List.nodup_cons, List.mem_cons, not_or] at nd ⊢
    obtain ⟨⟨a1, a2, a3, a4, a5, a6, a7⟩, ⟨b2, b3, b4, b5, b6, b7⟩, ⟨c3, c4, c5, c6, c7⟩, ⟨d4, d5, d6, d7⟩, ⟨e5, e6, e7⟩, ⟨f6, f7⟩, g7, nd⟩ := nd
    exact ⟨⟨a1, a2, a3, a4, a5, a6, Ne.symm q1, a7⟩, ⟨b2, b3, b4, b5, b6, Ne.symm q2, b7⟩, ⟨c3, c4, c5, c6, Ne.symm q3, c7⟩, ⟨d4, d5, d6, Ne.symm q4, d7⟩, ⟨e5, e6, Ne.symm q5, e7⟩, ⟨f6, Ne.symm q6, f7⟩, ⟨Ne.symm q7, g7⟩, q8, nd⟩
  · intro x hx
    have : x ∈ A.fp d ∨ x = r := by
      unfold DA.fp at hx ⊢
      simp only [List.mem_cons] at hx ⊢
      rcases hx with h | h | h | h | h | h | h | h | h <;> simp [h]
    rcases this with h' | rfl
    · exact h.fz x h'
    · exact hf
/-- a loop closed: its rows are frozen -/
theorem DAt.pop {ln tm : Int} {body : Rows} {l : List (Int × Int × Rows)} (h : DAt K F H d M A) (hl : M.loops = (ln, tm, body) :: l) :
    ∃ a dx r ws v rs', A.rs = r :: rs' ∧ H A.l = some (.lst (v ++ [.ref a])) ∧ F a = some (.ins (He.ga K "Repeat") dx (repFs ln tm r)) ∧ H r = some (.lst ws) ∧ RowsAt K F body ws ∧
      DAt K (upd F r (.lst ws)) (upd H A.l (.lst v)) d { M with loops := l } { A with rs := rs' } ∧ RowsAt K (upd F r (.lst ws)) (.rep ln tm body .nil) [.ref a] ∧ F r = none := by
  obtain ⟨n1, n2, n3, n4, n5, n6, n7, n8⟩ := h.ne
  obtain ⟨vi, hi⟩ := h.i; obtain ⟨vr, hr1⟩ := h.r; obtain ⟨vo, ho⟩ := h.u; obtain ⟨vl, hl1, hl2⟩ := h.l; obtain ⟨vc, hc⟩ := h.c
  rw [hl] at hl2
  obtain ⟨a, dx, r, ws, v, rs', e1, e2, h1, h2, h4, h5⟩ := hl2
  have hm : r ∈ A.rs := by rw [e2]; exact List.mem_cons_self
  have hrf : r ∈ A.fp d := by unfold DA.fp; simp [hm]
  have fr : F r = none := h.fz r hrf
  have sF : Same F (upd F r (.lst ws)) := Same.new fr
  have n8' := n8
  rw [e2] at n8'
  have n9 := List.nodup_cons.mp n8'
  rw [e1] at hl1
  refine ⟨a, dx, r, ws, v, rs', e2, hl1, h1, h2, h4, ?_, ⟨a, dx, r, ws, [], rfl, sF _ _ h1, upd_same, h4.on sF, rfl⟩, fr⟩
  have hsub : ∀ x, x ∈ DA.fp d { A with rs := rs' } → x ∈ A.fp d ∧ x ≠ r := by
    intro x hx
    have m7 := n7 r hm
    unfold DA.fp at hx ⊢
    simp only [List.mem_cons] at hx ⊢
    rw [e2]
    rcases hx with h | h | h | h | h | h | h | h
    · exact ⟨by simp [h], fun z => m7.1 (by rw [← z]; exact h)⟩
    · exact ⟨by simp [h], fun z => m7.2.1 (by rw [← z]; exact h)⟩
    · exact ⟨by simp [h], fun z => m7.2.2.1 (by rw [← z]; exact h)⟩
    · exact ⟨by simp [h], fun z => m7.2.2.2.1 (by rw [← z]; exact h)⟩
    · exact ⟨by simp [h], fun z => m7.2.2.2.2.1 (by rw [← z]; exact h)⟩
    · exact ⟨by simp [h], fun z => m7.2.2.2.2.2.1 (by rw [← z]; exact h)⟩
    · exact ⟨by simp [h], fun z => m7.2.2.2.2.2.2 (by rw [← z]; exact h)⟩
    · exact ⟨by simp [h], fun z => n9.1 (z ▸ h)⟩
  refine ⟨by rw [upd_ne n1.2.2.2.1]; exact h.o, ⟨vi, by rw [upd_ne n2.2.2.1]; exact hi.1, hi.2.on sF⟩, ⟨vr, by rw [upd_ne n3.2.1]; exact hr1.1, hr1.2.on sF⟩, ⟨vo, by rw [upd_ne n4.1]; exact ho.1, ho.2.on sF⟩,
    ⟨_, upd_same, h5.on sF fun z hz => upd_ne (n7 z (by rw [e2]; exact List.mem_cons_of_mem _ hz)).2.2.2.2.1⟩, by rw [upd_ne n5.1.symm]; exact h.k, ⟨vc, by rw [upd_ne n5.2.symm]; exact hc.1, hc.2.1, hc.2.2.on sF⟩, ?_, ?_⟩
  · have nd := h.nd
    unfold DA.fp at nd ⊢
    rw [e2] at nd
    simp only [List.nodup_cons, List.mem_cons, not_or] at nd ⊢
    obtain ⟨⟨a1, a2, a3, a4, a5, a6, a7, a8⟩, ⟨b2, b3, b4, b5, b6, b7, b8⟩, ⟨c3, c4, c5, c6, c7, c8⟩, ⟨d4, d5, d6, d7, d8⟩, ⟨e5, e6, e7, e8⟩, ⟨f6, f7, f8⟩, ⟨g7, g8⟩, k8, nd⟩ := nd
    exact ⟨⟨a1, a2, a3, a4, a5, a6, a8⟩, ⟨b2, b3, b4, b5, b6, b8⟩, ⟨c3, c4, c5, c6, c8⟩, ⟨d4, d5, d6, d8⟩, ⟨e5, e6, e8⟩, ⟨f6, f8⟩, g8, nd⟩
  · intro x hx
    obtain ⟨x1, x2⟩ := hsub x hx
    rw [upd_ne x2]
    exact h.fz x x1
end
theorem putF_new {f : Str} {v : V} : ∀ {fs : List (Str × V)}, f ∉ fs.map Prod.fst → putF f v fs = fs ++ [(f, v)]
  | [], _ => rfl
  | (g, x) :: r, h => by
    have h1 : ¬ g = f := fun z => h (by rw [z]; exact List.mem_cons_self)
    have h2 : f ∉ r.map Prod.fst := fun z => h (List.mem_cons_of_mem _ z)
    unfold putF
    rw [if_neg h1, putF_new h2]
    rfl
/-- self.f = [], self.f = {} -/
theorem r_newFld {K : PySem.W.Frag} {σ : L2.St} {H : Hp} {D : Ends} {f : Str} {a C dx : Addr} {fs : List (Str × V)} {n : Nat} (e : σ[n]? = some (some (.ref a))) (ha : H a = some (.ins C dx fs)) (hc : Cls K C) (hn : NoAttr K C f) (hl : fs.length < 1000) (names : List Str) (hm : fs.map Prod.fst = names) (hf : f ∉ names)
    (h : ∀ q H2, H q = none → q ≠ a → H2 q = some (.lst []) → H2 a = some (.ins C dx (fs ++ [(f, .ref q)])) → (∀ b, b ≠ a → b ≠ q → H2 b = H b) → D.nx σ H2) : sFld K (tVar n) (tLst tNil) f D σ H := by
  refine r_fldS (r_lst (r_nil (r_newL fun q hq => r_var e ?_)))
  have qa : q ≠ a := fun z => by rw [z, ha] at hq; cases hq
  refine ⟨a, C, dx, fs, rfl, by rw [upd_ne qa.symm]; exact ha, hc, hn, hl, h q _ hq qa (by rw [upd_ne qa, upd_same]) (by rw [upd_same, putF_new (by rw [hm]; exact hf)]) fun b b1 b2 => by rw [upd_ne b1, upd_ne b2]⟩
theorem r_newFldD {K : PySem.W.Frag} {σ : L2.St} {H : Hp} {D : Ends} {f : Str} {a C dx : Addr} {fs : List (Str × V)} {n : Nat} (e : σ[n]? = some (some (.ref a))) (ha : H a = some (.ins C dx fs)) (hc : Cls K C) (hn : NoAttr K C f) (hl : fs.length < 1000) (names : List Str) (hm : fs.map Prod.fst = names) (hf : f ∉ names)
    (h : ∀ q H2, H q = none → q ≠ a → H2 q = some (.dK []) → H2 a = some (.ins C dx (fs ++ [(f, .ref q)])) → (∀ b, b ≠ a → b ≠ q → H2 b = H b) → D.nx σ H2) : sFld K (tVar n) tDNewK f D σ H := by
  refine r_fldS fun q hq => r_var e ?_
  have qa : q ≠ a := fun z => by rw [z, ha] at hq; cases hq
  refine ⟨a, C, dx, fs, rfl, by rw [upd_ne qa.symm]; exact ha, hc, hn, hl, h q _ hq qa (by rw [upd_ne qa, upd_same]) (by rw [upd_same, putF_new (by rw [hm]; exact hf)]) fun b b1 b2 => by rw [upd_ne b1, upd_ne b2]⟩
end OW

set_option maxHeartbeats 4000000
namespace OW
open PySem PySem.Spec PyProof.Rows L2
/-! ### fields of a draft, a row, a repeat -/
section
variable {wd : Int} {i r o l k c g n b : Addr} {ln tm : Int} {deed way : Str}
theorem lkD_width : List.lookup ("width" : Str) (draftFs wd i r o l k c) = some (V.int wd) := rfl
theorem lkD_inputs : List.lookup ("inputs" : Str) (draftFs wd i r o l k c) = some (V.ref i) := rfl
theorem lkD_rows : List.lookup ("rows" : Str) (draftFs wd i r o l k c) = some (V.ref r) := rfl
theorem lkD_outs : List.lookup ("outs" : Str) (draftFs wd i r o l k c) = some (V.ref o) := rfl
theorem lkD_loops : List.lookup ("loops" : Str) (draftFs wd i r o l k c) = some (V.ref l) := rfl
theorem lkD_known : List.lookup ("known" : Str) (draftFs wd i r o l k c) = some (V.ref k) := rfl
theorem lkD_chosen : List.lookup ("chosen" : Str) (draftFs wd i r o l k c) = some (V.ref c) := rfl
theorem lkD_none {m : Str} (h : m ∉ (["width", "inputs", "rows", "outs", "loops", "known", "chosen"] : List Str)) : List.lookup m (draftFs wd i r o l k c) = none := by
  unfold draftFs
  simp only [List.mem_cons, List.not_mem_nil, or_false, not_or] at h
  obtain ⟨h1, h2, h3, h4, h5, h6, h7⟩ := h
  simp only [List.lookup, beq_eq_false_iff_ne.mpr h1, beq_eq_false_iff_ne.mpr h2, beq_eq_false_iff_ne.mpr h3, beq_eq_false_iff_ne.mpr h4, beq_eq_false_iff_ne.mpr h5, beq_eq_false_iff_ne.mpr h6, beq_eq_false_iff_ne.mpr h7]
theorem lkR_line : List.lookup ("line" : Str) (rowFs ln deed g r n way) = some (V.int ln) := rfl
theorem lkR_deed : List.lookup ("deed" : Str) (rowFs ln deed g r n way) = some (V.str deed) := rfl
theorem lkR_goals : List.lookup ("goals" : Str) (rowFs ln deed g r n way) = some (V.ref g) := rfl
theorem lkR_reads : List.lookup ("reads" : Str) (rowFs ln deed g r n way) = some (V.ref r) := rfl
theorem lkR_numbers : List.lookup ("numbers" : Str) (rowFs ln deed g r n way) = some (V.ref n) := rfl
theorem lkR_way : List.lookup ("way" : Str) (rowFs ln deed g r n way) = some (V.str way) := rfl
theorem putR_way {w2 : Str} : putF "way" (.str w2) (rowFs ln deed g r n way) = rowFs ln deed g r n w2 := rfl
theorem lkP_line : List.lookup ("line" : Str) (repFs ln tm b) = some (V.int ln) := rfl
theorem lkP_times : List.lookup ("times" : Str) (repFs ln tm b) = some (V.int tm) := rfl
theorem lkP_rows : List.lookup ("rows" : Str) (repFs ln tm b) = some (V.ref b) := rfl
theorem putD_width {w2 : Int} : putF "width" (.int w2) (draftFs wd i r o l k c) = draftFs w2 i r o l k c := rfl
end
/-- a field read -/
theorem r_fldO {K : PySem.W.Frag} {H : Hp} {a C dx : Addr} {fs : List (Str × V)} {f : Str} {v : V} {P : V → Prop} (ho : H a = some (.ins C dx fs)) (hc : Cls K C) (hn : NoAttr K C f) (hl : fs.lookup f = some v) (q : P v) :
    ∃ a' C dx fs v, V.ref a = .ref a' ∧ H a' = some (.ins C dx fs) ∧ Cls K C ∧ NoAttr K C f ∧ fs.lookup f = some v ∧ P v := ⟨a, C, dx, fs, v, rfl, ho, hc, hn, hl, q⟩
theorem r_methO {H : Hp} {a C dx : Addr} {fs : List (Str × V)} {In : Addr → Prop} {m : Str} {P : Addr → Prop} (ho : H a = some (.ins C dx fs)) (hi : In C) (hl : fs.lookup m = none) (q : P C) :
    ∃ a' C dx fs, V.ref a = .ref a' ∧ H a' = some (.ins C dx fs) ∧ In C ∧ fs.lookup m = none ∧ P C := ⟨a, C, dx, fs, rfl, ho, hi, hl, q⟩
theorem same_updN {F H : Hp} {x : Addr} {o : HO} (s : Same F H) (h : F x = none) : Same F (upd H x o) := fun a u e => by
  rw [upd_ne (ne_of_none e h)]; exact s a u e
theorem dp_strs {K : PySem.W.Frag} {H : Hp} : ∀ zs : List Str, DpAll K H (zs.map V.str) (zs.map PyData.str)
  | [] => .nil
  | z :: zs => .cons (.str z) (dp_strs zs)
/-- == of two lists of texts -/
theorem r_eqStrs {K : PySem.W.Frag} {H : Hp} {Q : VK} {p q : Addr} (xs ys : List Str) (b : Bool) (ha : SqL K H p (xs.map V.str)) (hb : SqL K H q (ys.map V.str)) (hs : (SeqAt.shaped (.list (xs.map .str)) && SeqAt.shaped (.list (ys.map .str))) = true)
    (e : PyData.eqv (.list (xs.map .str)) (.list (ys.map .str)) = b) (h : Q (.bl b) H) : rEqD K (.ref p) (.ref q) H Q :=
  ⟨_, _, .lst ha (dp_strs xs), .lst hb (dp_strs ys), (Bool.and_eq_true_iff.mp hs).1, (Bool.and_eq_true_iff.mp hs).2, by rw [e]; exact h⟩
theorem r_neStrs {K : PySem.W.Frag} {H : Hp} {Q : VK} {p q : Addr} (xs ys : List Str) (b : Bool) (ha : SqL K H p (xs.map V.str)) (hb : SqL K H q (ys.map V.str)) (hs : (SeqAt.shaped (.list (xs.map .str)) && SeqAt.shaped (.list (ys.map .str))) = true)
    (e : PyData.eqv (.list (xs.map .str)) (.list (ys.map .str)) = b) (h : Q (.bl (!b)) H) : rNeD K (.ref p) (.ref q) H Q :=
  ⟨_, _, .lst ha (dp_strs xs), .lst hb (dp_strs ys), (Bool.and_eq_true_iff.mp hs).1, (Bool.and_eq_true_iff.mp hs).2, by rw [e]; exact h⟩
theorem r_make {C : Addr} {sp : Sp} {dvs : List V} {E : XK} {ta : TA} {σ : L2.St} {H : Hp} {Q : VK} (h : ta σ H fun vs H1 => ∀ x dx, H1 x = none → H1 dx = none → dx ≠ x → sp (.ref x :: (vs ++ dvs)) (upd (upd H1 dx (.own x)) x (.ins C dx [])) (fun v H2 => v = .non ∧ Q (.ref x) H2) E) : tMake C sp dvs E ta σ H Q := h
theorem r_bm {K : PySem.W.Frag} {ty : String} {r : V → List V → Hp → VK → Prop} {to : TE} {t : TA} {σ : L2.St} {H : Hp} {Q : VK} (h : to σ H fun x H1 => tyV K ty x H1 ∧ t σ H1 fun xs H2 => r x xs H2 Q) : tBM K ty r to t σ H Q := h
theorem r_bm0 {K : PySem.W.Frag} {ty : String} {r : V → List V → Hp → VK → Prop} {to : TE} {σ : L2.St} {H : Hp} {Q : VK} (h : to σ H fun x H1 => tyV K ty x H1 ∧ r x [] H1 Q) : tBM0 K ty r to σ H Q := h
theorem r_tyL {K : PySem.W.Frag} {H : Hp} {a : Addr} {xs : List V} {P : Prop} (e : SqL K H a xs) (h : P) : tyV K "list" (.ref a) H ∧ P := ⟨.inl ⟨rfl, _, e⟩, h⟩
theorem r_app {H : Hp} {l : Addr} {xs : List V} {y : V} {Q : VK} (e : H l = some (.lst xs)) (hz : xs.length ≤ 100000) (h : Q .non (upd H l (.lst (xs ++ [y])))) : rAppend (.ref l) [y] H Q := ⟨l, xs, y, rfl, rfl, e, line_lt hz, h⟩
theorem r_dput {td ty tv : TE} {D : Ends} {σ : L2.St} {H : Hp} (h : tv σ H fun v H1 => td σ H1 fun x H2 => ty σ H2 fun y H3 => ∃ a H4, x = .ref a ∧ DPut H3 a y v H4 ∧ D.nx σ H4) : sDPut td ty tv D σ H := h
theorem r_dputS {H : Hp} {a : Addr} {kvs : List (Key × V)} {n : Str} {v : V} {P : Hp → Prop} (e : H a = some (.dK kvs)) (hz : kvs.length ≤ 100000) (h : P (upd H a (.dK (putK kvs (Sum.inr n) v)))) : ∃ a' H4, V.ref a = .ref a' ∧ DPut H a' (.str n) v H4 ∧ P H4 := ⟨a, _, rfl, DPut.k (k := Sum.inr n) e (line_lt hz), h⟩
theorem r_dputI {H : Hp} {a : Addr} {kvs : List (Key × V)} {n : Int} {v : V} {P : Hp → Prop} (e : H a = some (.dK kvs)) (hz : kvs.length ≤ 100000) (h : P (upd H a (.dK (putK kvs (Sum.inl n) v)))) : ∃ a' H4, V.ref a = .ref a' ∧ DPut H a' (.int n) v H4 ∧ P H4 := ⟨a, _, rfl, DPut.k (k := Sum.inl n) e (line_lt hz), h⟩
theorem r_thru {t u : TS} {D : Ends} {σ : L2.St} {H : Hp} (h : t { D with nx := u D } σ H) : tThru t u D σ H := h
/-- the heap the same but at one place, and grown -/
def SameBut (r : Addr) (H H' : Hp) : Prop := ∀ b o, b ≠ r → H b = some o → H' b = some o
/-- the promise's end: the draft as it is then -/
def PostD (K : PySem.W.Frag) (F : Hp) (d : Addr) (M' : DM) (Q : VK) : Prop := ∀ F' A' H', Same F F' → Same F' H' → DAt K F' H' d M' A' → Q (.bl true) H'
/-- the rows of a draft with a row more -/
theorem addR_known (M : DM) (k : List Str) (x : Rows) : addR { M with known := k } x = { addR M x with known := k } := by
  obtain ⟨wd, ins, rows, outs, loops, known, chosen⟩ := M
  cases loops with
  | nil => rfl
  | cons y l => obtain ⟨a, b, c⟩ := y; rfl
theorem addR_chosen (M : DM) (k : List Str) (c : List (Int × KindM)) (x : Rows) : addR { M with known := k, chosen := c } x = { addR M x with known := k, chosen := c } := by
  obtain ⟨wd, ins, rows, outs, loops, known, chosen⟩ := M
  cases loops with
  | nil => rfl
  | cons y l => obtain ⟨a, b, c⟩ := y; rfl
theorem addR_known0 (M : DM) (x : Rows) : (addR M x).known = M.known ∧ (addR M x).wd = M.wd ∧ (addR M x).chosen = M.chosen := by
  obtain ⟨wd, ins, rows, outs, loops, known, chosen⟩ := M
  cases loops with
  | nil => exact ⟨rfl, rfl, rfl⟩
  | cons y l => obtain ⟨a, b, c⟩ := y; exact ⟨rfl, rfl, rfl⟩
/-! ### one line -/
/-- a thing behind a row's deed -/
inductive Arg where
  | nm (x : Str)
  | wy (x : Str)
  | kn (i : Int)
  | nn (i : Int)
  | fr (i j : Int)
  deriving DecidableEq
def Arg.text : Arg → Str
  | .nm x => x
  | .wy x => x
  | .kn i => num i
  | .nn i => num i
  | .fr i j => num i ++ ("/" : Str) ++ num j
def Arg.letter : Arg → Nat
  | .nm _ => 98
  | .wy _ => 119
  | .kn _ => 107
  | .nn _ => 110
  | .fr _ _ => 114
def Arg.reads : Arg → List Str
  | .nm x => [x]
  | _ => []
def Arg.nums : Arg → List Int
  | .kn i => [i]
  | .nn i => [i]
  | .fr i j => [i, j]
  | _ => []
def Arg.way : Arg → Str → Str
  | .wy x, _ => x
  | _, y => y
def readsA (as : List Arg) : List Str := as.flatMap Arg.reads
def numsA (as : List Arg) : List Int := as.flatMap Arg.nums
def wayA (as : List Arg) : Str := as.foldl (fun y a => a.way y) ""
def KindM.words (k : KindM) : List Str := match k.tag with
  | .plain => ["plain"]
  | .signed => ["signed"]
  | .point => ["point", num k.p]
inductive Ln where
  | width (w : Int)
  | inp (nm : Str) (kd : KindM)
  | out (nm : Str)
  | rep (n : Int)
  | fin
  | row (gs : List Str) (deed : Str) (args : List Arg)
  | set (g : Str) (kd : KindM) (txt : Str) (bits : Int)
  deriving DecidableEq
def Ln.words : Ln → List Str
  | .width w => ["width", num w]
  | .inp nm kd => "in" :: nm :: kd.words
  | .out nm => ["out", nm]
  | .rep n => ["repeat", num n]
  | .fin => ["end"]
  | .row gs deed args => gs ++ (("=" : Str) :: deed :: args.map Arg.text)
  | .set g kd txt _ => g :: ("=" : Str) :: ("set" : Str) :: (kd.words ++ [txt])
def Ln.rowM : Ln → RowM
  | .row gs deed args => ⟨deed, gs, readsA args, numsA args, wayA args⟩
  | .set g _ _ bits => ⟨"set", [g], [], [bits], ""⟩
  | _ => ⟨"", [], [], [], ""⟩
def Ln.step (ln : Int) (M : DM) : Ln → DM
  | .width w => { M with wd := w }
  | .inp nm kd => { M with ins := M.ins ++ [(ln, nm, kd)], known := putN M.known nm }
  | .out nm => { M with outs := M.outs ++ [(ln, nm)] }
  | .rep n => { M with loops := (ln, n, .nil) :: M.loops }
  | .fin => match M.loops with
    | [] => M
    | (a, b, y) :: l => addR { M with loops := l } (.rep a b y .nil)
  | .row gs deed args => addR { M with known := gs.foldl putN M.known } (.row ln (Ln.row gs deed args).rowM .nil)
  | .set g kd txt bits => addR { M with known := putN M.known g, chosen := (ln, kd) :: M.chosen } (.row ln (Ln.set g kd txt bits).rowM .nil)
end OW

set_option maxHeartbeats 4000000
namespace OW
open PySem PySem.Spec PyProof.Rows L2
/-! ### loops over lists -/
section
variable {σ : L2.St} {H : Hp} {D : Ends} {K : PySem.W.Frag} {tb : TS} {n j : Nat} {p : Addr} {xs : List V}
/-- the loop's steps -/
def ForL (K : PySem.W.Frag) (tb : TS) (j : Nat) (p : Addr) (xs : List V) (D : Ends) (σ : L2.St) (H : Hp) : Prop :=
  ∃ Pv : Nat → L2.St → Hp → Prop, Pv 0 σ H ∧ (∀ i σ' H', Pv i σ' H' → SqL K H' p xs) ∧
    (∀ i x σ' H', xs[i]? = some x → Pv i σ' H' → tb { D with nx := Pv (i + 1), ct := Pv (i + 1), bk := D.nx } (σ'.set j (some x)) H') ∧ ∀ σ' H', Pv xs.length σ' H' → D.nx σ' H'
theorem ForL.go (h : ForL K tb j p xs D σ H) : ∃ W : Nat → Nat → L2.St → Hp → Prop, (∃ m, W 0 m σ H) ∧ ∀ i m σ H, W i m σ H →
      ((Itl K p).stop i H ∧ D.nx σ H) ∨ ((Itl K p).go i H ∧ ∃ N : L2.St → Hp → Prop, (∀ σ' H', N σ' H' → ∃ m', m' < m ∧ W (i + 1) m' σ' H') ∧ ∀ x H', (Itl K p).yld i H x H' → gName j x σ H' fun σ2 H2 => tb { D with nx := N, ct := N, bk := D.nx } σ2 H2) := by
  obtain ⟨Pv, h0, hG, hs, hd⟩ := h
  refine for_it (walk_list (xs := xs)) Pv h0 (fun i σ' H' _ q => hG i σ' H' q) (fun i x σ' H' H'' hi q y => ?_) hd
  obtain ⟨rfl, hx⟩ := y
  exact hs i x σ' _ hx q
theorem r_forLv (e : σ[n]? = some (some (.ref p))) (hs : SqL K H p xs) (h : ForL K tb j p xs D σ H) : tFor (iList K (tVar n)) (gName j) tb D σ H :=
  ⟨_, e, p, rfl, ⟨xs, hs⟩, h.go⟩
theorem r_forLf {f : Str} {a C dx : Addr} {fs : List (Str × V)} (e : σ[n]? = some (some (.ref a))) (ho : H a = some (.ins C dx fs)) (hc : Cls K C) (hn : NoAttr K C f) (hl : fs.lookup f = some (.ref p)) (hs : SqL K H p xs) (h : ForL K tb j p xs D σ H) :
    tFor (iList K (tFld K (tVar n) f)) (gName j) tb D σ H :=
  ⟨_, e, a, C, dx, fs, _, rfl, ho, hc, hn, hl, p, rfl, ⟨xs, hs⟩, h.go⟩
/-- enumerate(l): a new pair at each turn -/
theorem r_forE {i1 i2 : Nat} (e : σ[n]? = some (some (.ref p))) (hq : SqL K H p xs) (Pv : Nat → L2.St → Hp → Prop) (h0 : Pv 0 σ H) (hG : ∀ i σ' H', Pv i σ' H' → SqL K H' p xs)
    (hs : ∀ i x T σ' H', xs[i]? = some x → Pv i σ' H' → H' T = none → tb { D with nx := Pv (i + 1), ct := Pv (i + 1), bk := D.nx } ((σ'.set i1 (some (.int (i : Nat)))).set i2 (some x)) (upd H' T (.tup [.int (i : Nat), x])))
    (hd : ∀ σ' H', Pv xs.length σ' H' → D.nx σ' H') : tFor (iEnum K (tCons (tVar n) tNil)) (gTup K 2 (gCons (gName i1) (gCons (gName i2) gNil))) tb D σ H := by
  refine ⟨_, e, p, xs, rfl, hq, ?_⟩
  refine for_it (walk_enum (xs := xs)) Pv h0 (fun i σ' H' _ q => hG i σ' H' q) (fun i x σ' H' H'' hi q y => ?_) hd
  obtain ⟨T, a, b, rfl, hT, rfl, ha, hb⟩ := y
  obtain rfl := Option.some.inj ha
  exact r_gT2 (SqT.of upd_same) (hs i b T σ' H' hb q hT)
/-- [.. for a, b in zip(text, list)] -/
theorem walk_zipSL {x : Str} {b : Addr} {ys : List V} : Walk (Itzs K x b) (min x.cps.size ys.length) (fun H => SqL K H b ys) (fun i H v H' => ∃ T c y, v = .ref T ∧ H T = none ∧ H' = upd H T (.tup [.str ⟨#[c]⟩, y]) ∧ x.cps[i]? = some c ∧ ys[i]? = some y) := by
  refine ⟨fun i H hi q => ⟨by omega, ys, ys[i]'(by omega), q, by simp [show i < ys.length by omega]⟩, fun H q => ⟨ys, q, by omega, by omega, by omega⟩, fun i H v H' hi q y => ?_⟩
  obtain ⟨T, c, y, h1, h2, h3, h4, h5⟩ := y
  exact ⟨T, c, y, h1, h2, h3, h4, h5 ys q⟩
theorem r_lcZ {Q : VK} {te : TE} {vs : List Nat} {m lj wj : Nat} {x : Str} {b : Addr} {ys : List V} (ex : σ[n]? = some (some (.str x))) (eb : σ[m]? = some (some (.ref b))) (hb : SqL K H b ys) (Pv : Addr → Nat → Hp → Prop)
    (hw : ∀ p q, wipe (((wipe σ vs).set lj p).set wj q) vs = wipe σ vs)
    (h0 : ∀ E, H E = none → Pv E 0 (upd H E (.lst []))) (hG : ∀ E i H', Pv E i H' → SqL K H' b ys)
    (hs : ∀ E i T c y H', x.cps[i]? = some c → ys[i]? = some y → Pv E i H' → H' T = none → te (((wipe σ vs).set lj (some (.str ⟨#[c]⟩))).set wj (some y)) (upd H' T (.tup [.str ⟨#[c]⟩, y])) fun z H4 => ∃ acc, H4 E = some (.lst acc) ∧ acc.length < sizeLine ∧ Pv E (i + 1) (upd H4 E (.lst (acc ++ [z]))))
    (hd : ∀ E H', Pv E (min x.cps.size ys.length) H' → Q (.ref E) H') : tLc (iZipSL K (tCons (tVar n) (tCons (tVar m) tNil))) (gTup K 2 (gCons (gName lj) (gCons (gName wj) gNil))) tYes te vs σ H Q := by
  refine ⟨_, ex, _, eb, x, b, ys, rfl, hb, fun E hE => ?_⟩
  refine lc_it (walk_zipSL (ys := ys)) (Pv E) (h0 E hE) (fun i H' _ q => hG E i H' q) (fun i v H' H'' hi q y => ?_) (fun H' q => hd E H' q)
  obtain ⟨T, c, y, rfl, hT, rfl, hc, hy⟩ := y
  refine r_gT2 (SqT.of upd_same) ⟨hw _ _, ?_⟩
  exact hs E i T c y H' hc hy q hT
end
section
variable {σ : L2.St} {H : Hp} {K : PySem.W.Frag} {n j : Nat} {p : Addr} {xs : List V}
/-- [.. for x in o.f] -/
theorem r_lcLf {Q : VK} {te : TE} {vs : List Nat} {f : Str} {a C dx : Addr} {fs : List (Str × V)} (e : σ[n]? = some (some (.ref a))) (ho : H a = some (.ins C dx fs)) (hc : Cls K C) (hn : NoAttr K C f) (hl : fs.lookup f = some (.ref p)) (hq : SqL K H p xs) (Pv : Addr → Nat → Hp → Prop)
    (hw : ∀ q, wipe ((wipe σ vs).set j q) vs = wipe σ vs) (h0 : ∀ E, H E = none → Pv E 0 (upd H E (.lst []))) (hG : ∀ E i H', Pv E i H' → SqL K H' p xs)
    (hs : ∀ E i x H', xs[i]? = some x → Pv E i H' → te ((wipe σ vs).set j (some x)) H' fun z H4 => ∃ acc, H4 E = some (.lst acc) ∧ acc.length < sizeLine ∧ Pv E (i + 1) (upd H4 E (.lst (acc ++ [z]))))
    (hd : ∀ E H', Pv E xs.length H' → Q (.ref E) H') : tLc (iList K (tFld K (tVar n) f)) (gName j) tYes te vs σ H Q := by
  refine ⟨_, e, a, C, dx, fs, _, rfl, ho, hc, hn, hl, p, rfl, ⟨xs, hq⟩, fun E hE => ?_⟩
  refine lc_it (walk_list (xs := xs)) (Pv E) (h0 E hE) (fun i H' _ q => hG E i H' q) (fun i v H' H'' hi q y => ?_) (fun H' q => hd E H' q)
  obtain ⟨rfl, hx⟩ := y
  exact ⟨hw _, hs E i v _ hx q⟩
end
theorem fold_len (M : List Str) (gs : List Str) : (gs.foldl putN M).length ≤ M.length + gs.length := by
  induction gs generalizing M with
  | nil => exact Nat.le_refl _
  | cons g gs ih =>
    have h1 := ih (putN M g)
    have h2 := putN_len M g
    simp only [List.foldl_cons, List.length_cons]
    omega
theorem take_fold {M gs : List Str} {i : Nat} {x : Str} (h : gs[i]? = some x) : (gs.take (i + 1)).foldl putN M = putN ((gs.take i).foldl putN M) x := by
  have : gs.take (i + 1) = gs.take i ++ [x] := by
    rw [List.take_add_one, h]
    rfl
  rw [this, List.foldl_append]
  rfl
/-- a row told: its lists' last contents -/
theorem DAt.proph {K : PySem.W.Frag} {F H : Hp} {d : Addr} {M : DM} {A : DA} {r n : Addr} (S : Same F H) (D : DAt K F H d M A) (hr : F r = none) (hn : F n = none) (ir : r ∉ A.fp d) (jn : n ∉ A.fp d) (hrn : r ≠ n) (o1 o2 : HO) :
    ∃ F2, Same F F2 ∧ (∀ x ∈ A.fp d, F2 x = none) ∧ (∀ x o, x ≠ r → x ≠ n → F2 x = some o → H x = some o) ∧ F2 r = some o1 ∧ F2 n = some o2 ∧ (∀ x o, x ∉ A.fp d → x ≠ r → x ≠ n → H x = some o → F2 x = some o) := by
  obtain ⟨Fz, z1, z2, Dz, z3⟩ := D.freeze S
  refine ⟨upd (upd Fz r o1) n o2, ?_, ?_, ?_, ?_, upd_same, ?_⟩
  · intro x o e
    have x1 : x ≠ r := fun z => by rw [z, hr] at e; cases e
    have x2 : x ≠ n := fun z => by rw [z, hn] at e; cases e
    rw [upd_ne x2, upd_ne x1]; exact z1 _ _ e
  · intro x hx
    have x1 : x ≠ r := fun z => ir (z ▸ hx)
    have x2 : x ≠ n := fun z => jn (z ▸ hx)
    rw [upd_ne x2, upd_ne x1]; exact Dz.fz x hx
  · intro x o x1 x2 e
    rw [upd_ne x2, upd_ne x1] at e; exact z2 _ _ e
  · rw [upd_ne hrn, upd_same]
  · intro x o hx x1 x2 e
    rw [upd_ne x2, upd_ne x1]; exact z3 x o hx e
theorem DAt.but {K : PySem.W.Frag} {F H H' : Hp} {d r : Addr} {M : DM} {A : DA} (h : DAt K F H d M A) (s : SameBut r H H') (hr : r ∉ A.fp d) : DAt K F H' d M A := h.frame fun x hx => by
  obtain ⟨o, e⟩ := h.alloc x hx
  have hxr : x ≠ r := fun z => hr (by rw [← z]; exact hx)
  rw [e]; exact s x o hxr e
theorem ne_of_none' {H : Hp} {a b : Addr} {o : HO} (h1 : H a = none) (h2 : H b = some o) : a ≠ b := fun z => by rw [z, h2] at h1; cases h1
theorem r_dget {td ty : TE} {σ : L2.St} {H : Hp} {Q : VK} (h : td σ H fun x H1 => ty σ H1 fun y H2 => ∃ a v, x = .ref a ∧ DGet H2 a y (some v) ∧ Q v H2) : tDGet td ty σ H Q := h
theorem r_dgetI {H : Hp} {a : Addr} {kvs : List (Key × V)} {n : Int} {v : V} {P : V → Prop} (e : H a = some (.dK kvs)) (hv : valV kvs (Sum.inl n) = some v) (h : P v) : ∃ a' v', V.ref a = .ref a' ∧ DGet H a' (.int n) (some v') ∧ P v' :=
  ⟨a, v, rfl, by rw [← hv]; exact DGet.k (k := Sum.inl n) e, h⟩
theorem r_dgetS {H : Hp} {a : Addr} {kvs : List (Key × V)} {n : Str} {v : V} {P : V → Prop} (e : H a = some (.dK kvs)) (hv : valV kvs (Sum.inr n) = some v) (h : P v) : ∃ a' v', V.ref a = .ref a' ∧ DGet H a' (.str n) (some v') ∧ P v' :=
  ⟨a, v, rfl, by rw [← hv]; exact DGet.k (k := Sum.inr n) e, h⟩
end OW

set_option maxHeartbeats 4000000
namespace OW
open PySem PySem.Spec PyProof.Rows L2
/-! ### all lines -/
def DM0 : DM := ⟨0, [], .nil, [], [], [], []⟩
def DM.great (ln : Int) (M : DM) : Bool := decide (ln ≥ 60) || (decide (M.known.length > 30) || decide (M.loops.length > 3))
/-- all lines read, one by one -/
def readM : Int → DM → List Ln → DM
  | _, M, [] => M
  | ln, M, l :: r => readM (ln + 1) (l.step ln M) r
structure TextOk (text : Str) (ls : List Ln) : Prop where
  len : text.length ≤ 90000
  ts : ∃ ts : List Str, Txt.split text "\n" = ts ∧ ts.length = ls.length ∧ ∀ (i : Nat) (t : Str) (l : Ln), ts[i]? = some t → ls[i]? = some l → Txt.split t " " = l.words ∧ t.length ≤ 90000 ∧ ("" : Str) ∉ l.words ∧ l.words.length ≤ 10
/-! ### rows counted -/
def Rows.count : Rows → Int
  | .nil => 0
  | .row _ _ t => 1 + t.count
  | .rep _ tm b t => tm * b.count + t.count
def Rows.depth : Rows → Nat
  | .nil => 0
  | .row _ _ t => t.depth
  | .rep _ _ b t => max (b.depth + 1) t.depth
def Rows.tl : Rows → Rows
  | .nil => .nil
  | .row _ _ t => t
  | .rep _ _ _ t => t
def Rows.dropN : Nat → Rows → Rows
  | 0, r => r
  | i + 1, r => (Rows.dropN i r).tl
/-- all counts are small -/
def Rows.small : Rows → Prop
  | .nil => True
  | .row _ _ t => t.small
  | .rep _ tm b t => 0 ≤ tm ∧ tm ≤ 1000 ∧ b.count ≤ 100000000 ∧ b.small ∧ t.small
theorem Rows.count0 : ∀ {r : Rows}, r.small → 0 ≤ r.count
  | .nil, _ => by show (0 : Int) ≤ 0; decide
  | .row _ _ t, h => by have := Rows.count0 (r := t) h; show 0 ≤ 1 + t.count; omega
  | .rep _ tm b t, h => by
    have h1 := Rows.count0 (r := b) h.2.2.2.1
    have h2 := Rows.count0 (r := t) h.2.2.2.2
    have := Int.mul_nonneg h.1 h1
    show 0 ≤ tm * b.count + t.count
    omega
theorem RowsAt.dropN {K : PySem.W.Frag} {F : Hp} {r : Rows} {vs : List V} (h : RowsAt K F r vs) : ∀ i, RowsAt K F (r.dropN i) (vs.drop i)
  | 0 => h
  | i + 1 => by
    have h1 := RowsAt.dropN h i
    have e : vs.drop (i + 1) = (vs.drop i).tail := by rw [List.tail_drop]
    rw [e]
    show RowsAt K F (r.dropN i).tl _
    revert h1
    generalize r.dropN i = s
    generalize vs.drop i = us
    cases s with
    | nil => intro h1; subst h1; exact rfl
    | row l q t => rintro ⟨a, dx, g, r, n, vs', e, h1, h2, h3, h4, h5⟩; subst e; exact h5
    | rep l m b t => rintro ⟨a, dx, b, ws, vs', e, h1, h2, h3, h4⟩; subst e; exact h4
theorem Rows.dropN_small {r : Rows} (h : r.small) : ∀ i, (r.dropN i).small ∧ (r.dropN i).depth ≤ r.depth
  | 0 => ⟨h, Nat.le_refl _⟩
  | i + 1 => by
    have h1 := Rows.dropN_small h i
    show (r.dropN i).tl.small ∧ (r.dropN i).tl.depth ≤ r.depth
    revert h1
    generalize r.dropN i = s
    cases s with
    | nil => exact fun h1 => h1
    | row l q t => exact fun h1 => h1
    | rep l m b t => exact fun h1 => ⟨h1.1.2.2.2.2, Nat.le_trans (Nat.le_max_right _ _) h1.2⟩
/-- the i-th item -/
theorem RowsAt.item {K : PySem.W.Frag} {F : Hp} {r : Rows} {vs : List V} {i : Nat} {x : V} (h : RowsAt K F r vs) (hx : vs[i]? = some x) :
    (∃ ln q a dx g rr n, x = .ref a ∧ r.dropN i = .row ln q (r.dropN (i + 1)) ∧ F a = some (.ins (He.ga K "Row") dx (rowFs ln q.deed g rr n q.way)) ∧ F g = some (.lst (q.goals.map .str)) ∧ F rr = some (.lst (q.reads.map .str)) ∧ F n = some (.lst (q.numbers.map .int))) ∨
    (∃ ln tm body a dx b ws, x = .ref a ∧ r.dropN i = .rep ln tm body (r.dropN (i + 1)) ∧ F a = some (.ins (He.ga K "Repeat") dx (repFs ln tm b)) ∧ F b = some (.lst ws) ∧ RowsAt K F body ws) := by
  have h1 := h.dropN i
  have hi := (List.getElem?_eq_some_iff.mp hx)
  obtain ⟨hl, hx⟩ := hi
  rw [List.drop_eq_getElem_cons hl, hx] at h1
  show (∃ ln q a dx g rr n, x = .ref a ∧ r.dropN i = .row ln q (r.dropN i).tl ∧ _) ∨ (∃ ln tm body a dx b ws, x = .ref a ∧ r.dropN i = .rep ln tm body (r.dropN i).tl ∧ _)
  revert h1
  generalize r.dropN i = s
  cases s with
  | nil => intro h1; cases h1
  | row l q t =>
    rintro ⟨a, dx, g', r', n', vs', e, h1, h2, h3, h4, h5⟩
    injection e with e1 e2
    exact .inl ⟨l, q, a, dx, g', r', n', e1, rfl, h1, h2, h3, h4⟩
  | rep l m b t =>
    rintro ⟨a, dx, b', ws, vs', e, h1, h2, h3, h4⟩
    injection e with e1 e2
    exact .inr ⟨l, m, b, a, dx, b', ws, e1, rfl, h1, h2, h3⟩
theorem RowsAt.done {K : PySem.W.Frag} {F : Hp} {r : Rows} {vs : List V} (h : RowsAt K F r vs) : r.dropN vs.length = .nil := by
  have h1 := h.dropN vs.length
  rw [List.drop_length] at h1
  exact h1.nil_iff.mp rfl
/-! ### the second walk -/
/-- the kinds by their names: the first of a name counts -/
def KindsAt (K : PySem.W.Frag) (F : Hp) (kvs : List (Key × V)) (ks : List (Str × KindM)) : Prop :=
  kvs.length ≤ ks.length ∧ ∀ n, match ks.lookup n with
  | some kd => ∃ a, valV kvs (Sum.inr n) = some (.ref a) ∧ KindAt K F a kd
  | none => valV kvs (Sum.inr n) = none
theorem KindsAt.on {K : PySem.W.Frag} {F F' : Hp} {kvs : List (Key × V)} {ks : List (Str × KindM)} (s : Same F F') (h : KindsAt K F kvs ks) : KindsAt K F' kvs ks := ⟨h.1, fun n => by
  have q := h.2 n
  cases e : ks.lookup n with
  | none => rw [e] at q; exact q
  | some kd =>
    rw [e] at q
    obtain ⟨k, e1, e2⟩ := q
    exact ⟨k, e1, e2.on s⟩⟩
theorem KindsAt.put {K : PySem.W.Frag} {F : Hp} {kvs : List (Key × V)} {ks : List (Str × KindM)} {k : Addr} {n : Str} {kd : KindM} (h : KindsAt K F kvs ks) (hk : KindAt K F k kd) : KindsAt K F (putK kvs (Sum.inr n) (.ref k)) ((n, kd) :: ks) := by
  refine ⟨?_, fun i => ?_⟩
  · have := length_putK kvs (Sum.inr n) (V.ref k)
    have := h.1
    show _ ≤ ks.length + 1; omega
  rw [valV_put, List.lookup_cons]
  by_cases e : i = n
  · subst e
    rw [if_pos rfl]
    simp only [beq_self_eq_true]
    exact ⟨k, rfl, hk⟩
  · rw [if_neg (fun z => e (Sum.inr.inj z)), show (i == n) = false from by simpa using e]
    exact h.2 i
theorem r_dget1 {td ty : TE} {σ : L2.St} {H : Hp} {Q : VK} (h : td σ H fun x H1 => ∃ a, x = .ref a ∧ IsD H1 a ∧ ty σ H1 fun y H2 => ∃ o, DGet H2 a y o ∧ Q (o.getD .non) H2) : tDGet1 td ty σ H Q := h
theorem r_dnin {td ty : TE} {σ : L2.St} {H : Hp} {Q : VK} (h : ty σ H fun y H1 => td σ H1 fun x H2 => ∃ a o, x = .ref a ∧ DGet H2 a y o ∧ Q (.bl (!o.isSome)) H2) : tDNotIn ty td σ H Q := h
theorem r_din {td ty : TE} {σ : L2.St} {H : Hp} {Q : VK} (h : ty σ H fun y H1 => td σ H1 fun x H2 => ∃ a o, x = .ref a ∧ DGet H2 a y o ∧ Q (.bl o.isSome) H2) : tDIn ty td σ H Q := h
theorem r_dinS {H : Hp} {a : Addr} {kvs : List (Key × V)} {n : Str} {P : Option V → Prop} (e : H a = some (.dK kvs)) (h : P (valV kvs (Sum.inr n))) : ∃ a' o, V.ref a = .ref a' ∧ DGet H a' (.str n) o ∧ P o := ⟨a, _, rfl, DGet.k (k := Sum.inr n) e, h⟩
theorem r_dsetd {td ty tx : TE} {σ : L2.St} {H : Hp} {Q : VK} (h : td σ H fun x H1 => ∃ a, x = .ref a ∧ IsD H1 a ∧ ty σ H1 fun y H2 => tx σ H2 fun z H3 => ∃ (kvs : List (Key × V)) (k : Key), H3 a = some (.dK kvs) ∧ y = kV k ∧ kvs.length < sizeLine ∧
  (∀ v, valV kvs k = some v → Q v H3) ∧ (valV kvs k = none → Q z (upd H3 a (.dK (putK kvs k z))))) : tDSetd td ty tx σ H Q := h
def Rows.total : Rows → Nat
  | .nil => 0
  | .row _ _ t => t.total + 1
  | .rep _ _ b t => b.total + t.total
theorem r_oN1 {X Y : Prop} (h : X) : if (!(none : Option V).isSome) = true then X else Y := h
theorem r_oS1 {X Y : Prop} {v : V} (h : Y) : if (!(some v : Option V).isSome) = true then X else Y := h
theorem r_oN2 {X Y : Prop} (h : Y) : if (none : Option V).isSome = true then X else Y := h
theorem r_oS2 {X Y : Prop} {v : V} (h : X) : if (some v : Option V).isSome = true then X else Y := h
/-! ### items of lists, loops with any target -/
theorem InsAt.item {K : PySem.W.Frag} {F : Hp} : ∀ {l : List (Int × Str × KindM)} {vs : List V} {i : Nat} {x : V}, InsAt K F l vs → vs[i]? = some x → ∃ ln nm kd t k, l[i]? = some (ln, nm, kd) ∧ x = .ref t ∧ F t = some (.tup [.int ln, .str nm, .ref k]) ∧ KindAt K F k kd
  | [], _, i, x, h, e => by rw [h] at e; exact absurd e (by simp)
  | (ln, nm, kd) :: l, _, 0, x, ⟨t, k, vs', e1, h1, h2, h3⟩, e => by
    rw [e1] at e
    exact ⟨ln, nm, kd, t, k, rfl, (Option.some.inj e).symm, h1, h2⟩
  | (ln, nm, kd) :: l, _, i + 1, x, ⟨t, k, vs', e1, h1, h2, h3⟩, e => by
    rw [e1] at e
    have := InsAt.item (l := l) (i := i) h3 e
    exact this
theorem OutsAt.item {F : Hp} : ∀ {l : List (Int × Str)} {vs : List V} {i : Nat} {x : V}, OutsAt F l vs → vs[i]? = some x → ∃ ln nm t, l[i]? = some (ln, nm) ∧ x = .ref t ∧ F t = some (.tup [.int ln, .str nm])
  | [], _, i, x, h, e => by rw [h] at e; exact absurd e (by simp)
  | (ln, nm) :: l, _, 0, x, ⟨t, vs', e1, h1, h3⟩, e => by
    rw [e1] at e
    exact ⟨ln, nm, t, rfl, (Option.some.inj e).symm, h1⟩
  | (ln, nm) :: l, _, i + 1, x, ⟨t, vs', e1, h1, h3⟩, e => by
    rw [e1] at e
    have := OutsAt.item (l := l) (i := i) h3 e
    exact this
theorem r_forGf {σ : L2.St} {H : Hp} {D : Ends} {K : PySem.W.Frag} {tb : TS} {g : TG} {n : Nat} {p : Addr} {xs : List V} {f : Str} {a C dx : Addr} {fs : List (Str × V)} (e : σ[n]? = some (some (.ref a))) (ho : H a = some (.ins C dx fs)) (hc : Cls K C) (hn : NoAttr K C f) (hl : fs.lookup f = some (.ref p)) (hq : SqL K H p xs)
    (Pv : Nat → L2.St → Hp → Prop) (h0 : Pv 0 σ H) (hG : ∀ i σ' H', Pv i σ' H' → SqL K H' p xs)
    (hs : ∀ i x σ' H', xs[i]? = some x → Pv i σ' H' → g x σ' H' fun σ2 H2 => tb { D with nx := Pv (i + 1), ct := Pv (i + 1), bk := D.nx } σ2 H2) (hd : ∀ σ' H', Pv xs.length σ' H' → D.nx σ' H') : tFor (iList K (tFld K (tVar n) f)) g tb D σ H := by
  refine ⟨_, e, a, C, dx, fs, _, rfl, ho, hc, hn, hl, p, rfl, ⟨xs, hq⟩, ?_⟩
  refine for_it (walk_list (xs := xs)) Pv h0 (fun i σ' H' _ q => hG i σ' H' q) (fun i x σ' H' H'' hi q y => ?_) hd
  obtain ⟨rfl, hx⟩ := y
  exact hs i x σ' _ hx q
theorem take_snd {l : List (Int × Str)} {i : Nat} {ln : Int} {nm : Str} (h : l[i]? = some (ln, nm)) : (l.take (i + 1)).map Prod.snd = (l.take i).map Prod.snd ++ [nm] := by
  rw [List.take_add_one, h, List.map_append]
  rfl
theorem nodup_take {l : List (Int × Str)} {i : Nat} {ln : Int} {nm : Str} (n : (l.map Prod.snd).Nodup) (h : l[i]? = some (ln, nm)) : nm ∉ (l.take i).map Prod.snd := by
  intro hm
  have hl := (List.getElem?_eq_some_iff.mp h).1
  have e : l.map Prod.snd = (l.take i).map Prod.snd ++ (nm :: (l.drop (i + 1)).map Prod.snd) := by
    have e2 : l.drop i = (ln, nm) :: l.drop (i + 1) := by
      rw [List.drop_eq_getElem_cons hl]
      congr 1
      rw [List.getElem?_eq_getElem hl] at h
      exact Option.some.inj h
    calc l.map Prod.snd = (l.take i ++ l.drop i).map Prod.snd := by rw [List.take_append_drop]
      _ = _ := by rw [List.map_append, e2]; rfl
  rw [e] at n
  exact (List.nodup_append.mp n).2.2 nm hm nm List.mem_cons_self rfl
end OW

set_option maxHeartbeats 4000000
namespace OW
open PySem PySem.Spec PyProof.Rows L2
/-! ### several clauses, some with names -/
def wNames (K : PySem.W.Frag) (Wout : WX) (D : Ends) : List (Value × Option Nat × (Addr → Value → Option Addr → TS)) → WX
  | [] => Wout
  | (c, none, ts) :: r => fun cls d σ H => ∃ b, PySem.W.exmOne K cls c = some b ∧ (b = true → ∀ a, H a = none → ts a cls d D σ H) ∧ (b = false → wNames K Wout D r cls d σ H)
  | (c, some i, ts) :: r => fun cls d σ H => ∃ b, PySem.W.exmOne K cls c = some b ∧ (b = true → ∀ a, H a = none → ts a cls d { nx := fun σ' H' => D.nx (σ'.set i none) H', rt := D.rt, bk := fun σ' H' => D.bk (σ'.set i none) H', ct := fun σ' H' => D.ct (σ'.set i none) H' } (σ.set i (some (.ref a))) H) ∧
      (b = false → wNames K Wout D r cls d σ H)
inductive HdsN (X : Cx) : List ExceptHandler → List (Value × Option Nat × (Addr → Value → Option Addr → TS)) → Prop
  | nil : HdsN X [] []
  | plain {x : Str} {c : Value} {ts : Addr → Value → Option Addr → TS} {b₀ : Stmt} {suite : List Stmt} {np pos' : Pos} {hds : List ExceptHandler} {l : List (Value × Option Nat × (Addr → Value → Option Addr → TS))} (hc : Names X x c)
      (hsu : ∀ (a : Addr) (oe : Obj) (cls : Value) (d : Option Addr) (pn : List (Addr × Obj)), Zc cls d oe → (∃ vs, oe.data = .fields vs) → PSs (X.suite a ((a, oe) :: pn)) (b₀ :: suite) (ts a cls d)) (r : HdsN X hds l) :
      HdsN X (.ExceptHandler (some (.Name x np)) none (b₀ :: suite) pos' :: hds) ((c, none, ts) :: l)
  | named {x n : Str} {c : Value} {i : Nat} {ts : Addr → Value → Option Addr → TS} {b₀ : Stmt} {suite : List Stmt} {np pos' : Pos} {hds : List ExceptHandler} {l : List (Value × Option Nat × (Addr → Value → Option Addr → TS))} (hc : Names X x c) (hN : X.N.Nodup) (hi : X.N[i]? = some n) (hln : X.env.kindOf n = some .local)
      (hsu : ∀ (a : Addr) (oe : Obj) (cls : Value) (d : Option Addr) (pn : List (Addr × Obj)), Zc cls d oe → (∃ vs, oe.data = .fields vs) → PSs (X.suite a ((a, oe) :: pn)) (b₀ :: suite) (ts a cls d)) (r : HdsN X hds l) :
      HdsN X (.ExceptHandler (some (.Name x np)) (some n) (b₀ :: suite) pos' :: hds) ((c, some i, ts) :: l)
section
variable {X : Cx} {body : List Stmt} {h₀ : ExceptHandler} {hds : List ExceptHandler} {l : List (Value × Option Nat × (Addr → Value → Option Addr → TS))} {pos : Pos} {tb : WX → TS} {Wout : WX}
theorem ps_try_names (hs : X.stack = X.env :: X.outer) (hf : X.env.frame = some X.env.locals) (tk : Takes X Wout)
    (hb : ∀ (W : WX) (pn : List (Addr × Obj)) (xe : Value → Shared → Prop), Takes (X.tr pn xe) W → PassesOwn (model X.prog X.w) X.A X.env xe → PSs (X.tr pn xe) body (tb W))
    (hh : HdsN X (h₀ :: hds) l) : PS X (.Try body (h₀ :: hds) [] [] pos) (fun D σ H => tb (wNames X.K Wout D l) D σ H) := by
  refine ⟨fun pins s σ H D I h => ?_⟩
  have ok := I.ok
  have hfr : X.A.frames = some (X.env :: X.outer) := by rw [ok.frames, hs]
  refine wpAny_Try_except ?_
  refine wpAny_mono ((hb (wNames X.K Wout D l) (X.pn ++ pins) (fun e s₁ => wpAny (model X.prog X.w) X.A (noteFrame e X.env) (fun _ s₂ => wpAny (model X.prog X.w) X.A (setFlight e none) (fun _ s₃ =>
    wpAny (model X.prog X.w) X.A (handleBy e X.env (h₀ :: hds)) (SP X pins D) X.xe s₃) X.xe s₂) X.xe s₁) (fun u s' xx => ?_) PassesOwn.looking).run [] s σ H D (I.toTry _) h) (fun f s1 hsp => ?_) (fun e s1 he => he)
  · -- the catch
    obtain ⟨a, B, sI, pins', σ', H', cls, d, rfl, J', nb, up, sky, na, os, ag, w⟩ := xx
    have J : Inv X pins σ' H' sI := J'.ofTry ok
    have sky' : Sky B (X.env :: X.outer) a (Zc cls d) X.env.locals s'.heap := by rw [← hs]; exact sky
    show wpAny (model X.prog X.w) X.A (noteFrame (.ref a) X.env) _ _ _
    refine Sky.land Zc.steady hfr hf sky' fun h3 fl3 up3 => ?_
    have J3 : Inv X pins σ' H' { s' with heap := h3 } := J.landed nb fl3.1 (up.trans up3) os ag
    obtain ⟨oe3, vs3, he3, hz3, hd3⟩ := fl3.there
    have notFr : ∀ {h : Heap} {o : Obj} {vs : Array Value}, h.FunFrames B (X.env :: X.outer) → h.get? a = some o → o.data = .fields vs → a ∉ frs (X.env :: X.outer) := fun {h o vs} ff e dd hm => by
      obtain ⟨_, o', e', hnf⟩ := ff.mem hm
      rw [e] at e'; cases e'
      exact hnf _ dd
    have nfr := notFr fl3.2.2.1 he3 hd3
    have nL : a ≠ X.env.locals := fun z => nfr (List.mem_filterMap.mpr ⟨X.env, List.mem_cons_self, by rw [hf, z]⟩)
    have nF : a ∉ X.fs := fun hm => by
      obtain ⟨e, he, q⟩ := List.mem_filterMap.mp hm
      exact nfr (List.mem_filterMap.mpr ⟨e, List.mem_cons_of_mem _ he, q⟩)
    have S3 := J3.suite he3 hd3 na nL nF
    have go : ∀ {hds' : List ExceptHandler} {l' : List (Value × Option Nat × (Addr → Value → Option Addr → TS))}, HdsN X hds' l' → wNames X.K Wout D l' cls d σ' H' →
        wpAny (model X.prog X.w) X.A (handleBy (.ref a) X.env hds') (SP X pins D) X.xe { s' with heap := h3 } := by
      intro hds' l' hk
      induction hk with
      | nil =>
        intro w
        refine wpAny_handleBy_nil ?_
        obtain ⟨k1, k2, k3, oe, vs, T, oT, ts', he, hz, hd, h1, hr⟩ := id fl3
        unfold PySem.passOn
        refine wpAny_bind (wpAny_field he hd h1 ?_)
        rw [if_neg (show ¬ ((Value.ref T == Value.none) = true) from by simp)]
        have fin : wpAny (model X.prog X.w) X.A (setFlight (.ref a) X.env.frame) (fun _ s4 => wpAny (model X.prog X.w) X.A (throw (.ref a) : Sem Flow) (SP X pins D) X.xe s4) X.xe { s' with heap := h3 } := by
          rw [hf]
          refine HandSPX.setFlight_upZ fl3 fun h4 hh4 up4 => wpAny_throw (tk _ _ ?_)
          exact ⟨a, B, sI, pins, σ', H', cls, d, rfl, J, nb, (up.trans up3).trans up4, .inr (.inr (by rw [hs]; exact hh4)), na, os, ag, w⟩
        first
          | exact wpAny_bind (wpAny_pure (wpAny_bind fin))
          | exact wpAny_bind fin
      | @plain x c ts b₀ suite np pos' hds2 l2 hc hsu r ih =>
        intro w
        obtain ⟨b, hb1, hyes, hno⟩ := w
        refine wpAny_handleBy_cons (codeAny_handlers_test ?_) (by intro q; cases q)
        have LT : PySem.W.Looks (model X.prog X.w) h3 (typeOf (.ref a)) cls := fun A Q E s k q => wpAny_typeOf_ref (k _ _ he3) (by rw [hz3.1]; exact q)
        have LM := PySem.W.exm_one (M := model X.prog X.w) (J3.kIn) LT hb1
        have test : ∀ {Q : Value → Shared → Prop} {E : Value → Shared → Prop}, Q c { s' with heap := h3 } → wpAny (model X.prog X.w) (X.A.mark (some (.ref a))) (eval (.Name x np) X.env) Q E { s' with heap := h3 } := fun {Q E} q => by
          obtain ⟨hg, hdbg, hm | ⟨hm, hv, hnn⟩⟩ := hc
          · exact ld_glob (X := X.suite a ((a, oe3) :: (X.pn ++ pins))) S3 hg hm q hdbg
          · exact ld_blt (X := X.suite a ((a, oe3) :: (X.pn ++ pins))) S3 hg hm hv q hnn hdbg
        refine test (LM.here ?_)
        cases b with
        | true =>
          refine codeAny_handlers_suite ?_
          refine HandSPX.lands_againZ fl3 fun h4 fl4 up4 => ?_
          have J4 : Inv X pins σ' H' { s' with heap := h4 } := J.landed nb fl4.1 ((up.trans up3).trans up4) os ag
          obtain ⟨oe4, vs4, he4, hz4, hd4⟩ := fl4.there
          have S4 := J4.suite he4 hd4 na nL nF
          refine wpAny_mono ((hsu a oe4 cls d (X.pn ++ pins) hz4 ⟨_, hd4⟩).run [] _ _ H' _ S4 (hyes rfl a na)) (fun f s6 hsp => ?_) (fun _ _ z => False.elim z)
          cases f with
          | next =>
            obtain ⟨σ6, H6, S6, q6⟩ := hsp
            exact ⟨_, _, S6.unsuite ok, q6⟩
          | brk =>
            obtain ⟨σ6, H6, S6, q6⟩ := hsp
            exact ⟨_, _, S6.unsuite ok, q6⟩
          | cont =>
            obtain ⟨σ6, H6, S6, q6⟩ := hsp
            exact ⟨_, _, S6.unsuite ok, q6⟩
          | ret u =>
            obtain ⟨v6, σ6, H6, S6, r6, q6⟩ := hsp
            exact ⟨_, _, _, S6.unsuite ok, r6, q6⟩
        | false =>
          show wpAny _ X.A (handleBy (.ref a) X.env hds2) _ _ _
          exact ih (hno rfl)
      | @named x n c i ts b₀ suite np pos' hds2 l2 hc hN hi hln hsu r ih =>
        intro w
        obtain ⟨b, hb1, hyes, hno⟩ := w
        have hloc : Loc X.env.scope n := .inl hln
        refine wpAny_handleBy_cons (codeAny_handlers_test ?_) (by intro q; cases q)
        have LT : PySem.W.Looks (model X.prog X.w) h3 (typeOf (.ref a)) cls := fun A Q E s k q => wpAny_typeOf_ref (k _ _ he3) (by rw [hz3.1]; exact q)
        have LM := PySem.W.exm_one (M := model X.prog X.w) (J3.kIn) LT hb1
        have test : ∀ {Q : Value → Shared → Prop} {E : Value → Shared → Prop}, Q c { s' with heap := h3 } → wpAny (model X.prog X.w) (X.A.mark (some (.ref a))) (eval (.Name x np) X.env) Q E { s' with heap := h3 } := fun {Q E} q => by
          obtain ⟨hg, hdbg, hm | ⟨hm, hv, hnn⟩⟩ := hc
          · exact ld_glob (X := X.suite a ((a, oe3) :: (X.pn ++ pins))) S3 hg hm q hdbg
          · exact ld_blt (X := X.suite a ((a, oe3) :: (X.pn ++ pins))) S3 hg hm hv q hnn hdbg
        refine test (LM.here ?_)
        cases b with
        | true =>
          refine codeAny_handlers_suite_as ?_
          refine HandSPX.lands_againZ fl3 fun h4 fl4 up4 => ?_
          have J4 : Inv X pins σ' H' { s' with heap := h4 } := J.landed nb fl4.1 ((up.trans up3).trans up4) os ag
          obtain ⟨oe4, vs4, he4, hz4, hd4⟩ := fl4.there
          have S4 := J4.suite he4 hd4 na nL nF
          refine store_ok (X := X.suite a ((a, oe4) :: (X.pn ++ pins))) (v := .ref a) S4 hN hi hloc rfl (fun s5 S5 => ?_) (.inr hln)
          refine wpAny_mono ((hsu a oe4 cls d (X.pn ++ pins) hz4 ⟨_, hd4⟩).run [] s5 _ H' _ S5 (hyes rfl a na)) (fun f s6 hsp => ?_) (fun _ _ z => False.elim z)
          have end_ : ∀ {σ6 : L2.St} {H6 : Hp} {Q : Shared → Prop}, Inv (X.suite a ((a, oe4) :: (X.pn ++ pins))) [] σ6 H6 s6 → (∀ s7, Inv X pins (σ6.set i none) H6 s7 → Q s7) →
              wpAny (model X.prog X.w) X.A (do bindName X.env n .none; unbindBehindTheSuite X.env n pos') (fun _ s7 => Q s7) X.xe s6 := fun {σ6 H6 Q} S6 hq => gone_ok (S6.unsuite ok) hN hi hln hq
          cases f with
          | next =>
            obtain ⟨σ6, H6, S6, q6⟩ := hsp
            exact end_ S6 fun s7 J7 => ⟨_, _, J7, q6⟩
          | brk =>
            obtain ⟨σ6, H6, S6, q6⟩ := hsp
            exact end_ S6 fun s7 J7 => ⟨_, _, J7, q6⟩
          | cont =>
            obtain ⟨σ6, H6, S6, q6⟩ := hsp
            exact end_ S6 fun s7 J7 => ⟨_, _, J7, q6⟩
          | ret u =>
            obtain ⟨v6, σ6, H6, S6, r6, q6⟩ := hsp
            exact end_ S6 fun s7 J7 => ⟨_, _, _, J7, r6, q6⟩
        | false =>
          show wpAny _ X.A (handleBy (.ref a) X.env hds2) _ _ _
          exact ih (hno rfl)
    exact go hh w
  · cases f with
    | next =>
      obtain ⟨σ', H', J', q⟩ := hsp
      exact wpAny_execs_nil ⟨σ', H', J'.ofTry ok, q⟩
    | brk =>
      obtain ⟨σ', H', J', q⟩ := hsp
      exact ⟨σ', H', J'.ofTry ok, q⟩
    | cont =>
      obtain ⟨σ', H', J', q⟩ := hsp
      exact ⟨σ', H', J'.ofTry ok, q⟩
    | ret u =>
      obtain ⟨v, σ', H', J', r, q⟩ := hsp
      exact ⟨v, σ', H', J'.ofTry ok, r, q⟩
end
/-- f(e, ..), f a def that may raise, within a try -/
theorem pe_cXS {X : Cx} {W : WX} {k j : Nat} {x : Str} {sp : Sp} {p pos : Pos} {e : Expr} {es : List Expr} {t : TA} (c : CalX X.prog X.w X.K X.mg X.base k x sp []) (hr : Room j X.A) (hk : k ≤ j) (hg : Gl X x) (tk : Takes X W) (ha : PA X (e :: es) t)
    (hdb : (x == ("__debug__" : Str)) = false := by decide) (he : starEach (e :: es) X.env = (false, eval e X.env) :: starEach es X.env := by rfl) (hpl : (backTo pos (starEach es X.env)).any (·.1) = false := by rfl) :
    PE X (.Call (.Name x p) (e :: es) [] pos) (tCallS sp (WE W) t) := by
  obtain ⟨f, fd, ps, ds, F, hm, hkp, hb, hd⟩ := c.ex
  cases hd
  exact pe_callS F (hr.mono hk) hg hm hkp hb (fun σ => passAt tk σ) ha hdb he hpl
theorem r_callS {sp : Sp} {E : L2.St → XK} {t : TA} {σ : L2.St} {H : Hp} {Q : VK} (h : t σ H fun vs H1 => sp vs H1 Q (E σ)) : tCallS sp E t σ H Q := h
theorem r_xf {a : Addr} {cls : Value} {d : Option Addr} {C : Addr} {f : Str} {te : TE} {σ : L2.St} {H : Hp} {Q : VK} (h : te σ H fun x H1 => x = .ref a ∧ cls = .ref C ∧ ∃ (dd : Addr) (fs : List (Str × V)) (v : V), d = some dd ∧ H1 dd = some (.xd fs) ∧ fs.lookup f = some v ∧ Q v H1) : tXf a cls d C f te σ H Q := h
end OW

set_option maxHeartbeats 4000000
namespace OW
open PySem PySem.Spec PyProof.Rows L2
/-! ### comprehensions, for and while, by what stands in the slots -/
section
variable {σ : L2.St} {H : Hp} {D : Ends} {K : PySem.W.Frag} {tb : TS} {n j : Nat} {p : Addr} {xs : List V}
/-- [.. for x in range(n)] -/
theorem r_lcR {Q : VK} {te : TE} {vs : List Nat} {m : Nat} (e : σ[n]? = some (some (.int (m : Int)))) (hm : m ≤ 100000) (Pv : Addr → Nat → Hp → Prop) (hw : ∀ q, wipe ((wipe σ vs).set j q) vs = wipe σ vs)
    (h0 : ∀ E, H E = none → Pv E 0 (upd H E (.lst []))) (hs : ∀ E i H', i < m → Pv E i H' → te ((wipe σ vs).set j (some (.int (i : Nat)))) H' fun z H4 => ∃ acc, H4 E = some (.lst acc) ∧ acc.length < sizeLine ∧ Pv E (i + 1) (upd H4 E (.lst (acc ++ [z]))))
    (hd : ∀ E H', Pv E m H' → Q (.ref E) H') : tLc (iRng1 (tCons (tVar n) tNil)) (gName j) tYes te vs σ H Q := by
  refine ⟨_, e, m, rfl, by omega, by omega, fun E hE => ?_⟩
  rw [Int.toNat_natCast]
  refine lc_range (lo := 0) (n := m) (Pv E) (h0 E hE) (fun i H' hi q => ?_) (fun H' q => hd E H' q)
  rw [Int.zero_add]
  exact ⟨hw _, hs E i H' hi q⟩
/-- what a comprehension over a list asks, the list evaluated -/
def LcGo (K : PySem.W.Frag) (j : Nat) (te : TE) (vs : List Nat) (τ : L2.St) (Q : VK) (a : Addr) (H : Hp) : Prop := (∃ xs, SqL K H a xs) ∧ ∀ D, H D = none → ∃ W : Nat → Nat → Hp → Prop, (∃ m, W 0 m (upd H D (.lst []))) ∧ ∀ i m H, W i m H →
      ((Itl K a).stop i H ∧ Q (.ref D) H) ∨ ((Itl K a).go i H ∧ ∃ N : Hp → Prop, (∀ H', N H' → ∃ m', m' < m ∧ W (i + 1) m' H') ∧ ∀ x H', (Itl K a).yld i H x H' → gName j x (wipe τ vs) H' fun σ2 H2 => wipe σ2 vs = wipe τ vs ∧ tYes σ2 H2 fun b H3 =>
        if b = true then te σ2 H3 fun y H4 => ∃ acc, H4 D = some (.lst acc) ∧ acc.length < sizeLine ∧ N (upd H4 D (.lst (acc ++ [y]))) else N H3)
theorem r_lcL {Q : VK} {te : TE} {vs : List Nat} {τ : L2.St} (hq : SqL K H p xs) (Pv : Addr → Nat → Hp → Prop) (hw : ∀ q, wipe ((wipe τ vs).set j q) vs = wipe τ vs)
    (h0 : ∀ E, H E = none → Pv E 0 (upd H E (.lst []))) (hG : ∀ E i H', Pv E i H' → SqL K H' p xs)
    (hs : ∀ E i x H', xs[i]? = some x → Pv E i H' → te ((wipe τ vs).set j (some x)) H' fun z H4 => ∃ acc, H4 E = some (.lst acc) ∧ acc.length < sizeLine ∧ Pv E (i + 1) (upd H4 E (.lst (acc ++ [z]))))
    (hd : ∀ E H', Pv E xs.length H' → Q (.ref E) H') : LcGo K j te vs τ Q p H := by
  refine ⟨⟨xs, hq⟩, fun E hE => ?_⟩
  refine lc_it (walk_list (xs := xs)) (Pv E) (h0 E hE) (fun i H' _ q => hG E i H' q) (fun i v H' H'' hi q y => ?_) (fun H' q => hd E H' q)
  obtain ⟨rfl, hx⟩ := y
  exact ⟨hw _, hs E i v _ hx q⟩
theorem r_lcI {ti : TE} {Q : VK} {te : TE} {vs : List Nat} (h : ti σ H fun x H1 => ∃ a, x = .ref a ∧ LcGo K j te vs σ Q a H1) : tLc (iList K ti) (gName j) tYes te vs σ H Q := h
/-- [.. for i, x in enumerate(l) if ..] -/
theorem r_lcE {Q : VK} {te : TE} {tt : TT} {vs : List Nat} {i1 i2 : Nat} (e : σ[n]? = some (some (.ref p))) (hq : SqL K H p xs) (Pv : Addr → Nat → Hp → Prop) (hw : ∀ q q', wipe (((wipe σ vs).set i1 q).set i2 q') vs = wipe σ vs)
    (h0 : ∀ E, H E = none → Pv E 0 (upd H E (.lst []))) (hG : ∀ E i H', Pv E i H' → SqL K H' p xs)
    (hs : ∀ E i x T H', xs[i]? = some x → Pv E i H' → H' T = none → tt (((wipe σ vs).set i1 (some (.int (i : Nat)))).set i2 (some x)) (upd H' T (.tup [.int (i : Nat), x])) fun b H3 =>
      if b = true then te (((wipe σ vs).set i1 (some (.int (i : Nat)))).set i2 (some x)) H3 fun z H4 => ∃ acc, H4 E = some (.lst acc) ∧ acc.length < sizeLine ∧ Pv E (i + 1) (upd H4 E (.lst (acc ++ [z]))) else Pv E (i + 1) H3)
    (hd : ∀ E H', Pv E xs.length H' → Q (.ref E) H') : tLc (iEnum K (tCons (tVar n) tNil)) (gTup K 2 (gCons (gName i1) (gCons (gName i2) gNil))) tt te vs σ H Q := by
  refine ⟨_, e, p, xs, rfl, hq, fun E hE => ?_⟩
  refine lc_it (walk_enum (xs := xs)) (Pv E) (h0 E hE) (fun i H' _ q => hG E i H' q) (fun i v H' H'' hi q y => ?_) (fun H' q => hd E H' q)
  obtain ⟨T, a, b, rfl, hT, rfl, ha, hb⟩ := y
  obtain rfl := Option.some.inj ha
  exact r_gT2 (SqT.of upd_same) ⟨hw _ _, hs E i b T H' hb q hT⟩
/-- for k in range(e) -/
theorem r_forR {ta : TA} {m : Nat} (h : ta σ H fun vs H1 => vs = [.int (m : Int)] ∧ m ≤ 100000 ∧ ∃ Pv : Nat → L2.St → Hp → Prop, Pv 0 σ H1 ∧
    (∀ i σ' H', i < m → Pv i σ' H' → tb { D with nx := Pv (i + 1), ct := Pv (i + 1), bk := D.nx } (σ'.set j (some (.int (i : Nat)))) H') ∧ ∀ σ' H', Pv m σ' H' → D.nx σ' H')
    (mono : ∀ R R' : List V → Hp → Prop, (∀ v H1, R v H1 → R' v H1) → ta σ H R → ta σ H R') : tFor (iRng1 ta) (gName j) tb D σ H := by
  refine mono _ _ (fun vs H1 ⟨e, hm, Pv, h0, hs, hd⟩ => ?_) h
  refine ⟨m, e, by omega, by omega, ?_⟩
  rw [Int.toNat_natCast]
  refine for_range (lo := 0) (n := m) Pv h0 (fun i σ' H' hi q => ?_) hd
  rw [Int.zero_add]
  exact hs i σ' H' hi q
/-- what a for over range(n) asks, n evaluated -/
def FrGo (tb : TS) (j : Nat) (D : Ends) (σ : L2.St) (n : Nat) (H : Hp) : Prop := ∃ W : Nat → Nat → L2.St → Hp → Prop, (∃ m, W 0 m σ H) ∧ ∀ i m σ H, W i m σ H →
  ((Itr 0 n).stop i H ∧ D.nx σ H) ∨ ((Itr 0 n).go i H ∧ ∃ N : L2.St → Hp → Prop, (∀ σ' H', N σ' H' → ∃ m', m' < m ∧ W (i + 1) m' σ' H') ∧ ∀ x H', (Itr 0 n).yld i H x H' → gName j x σ H' fun σ2 H2 => tb { D with nx := N, ct := N, bk := D.nx } σ2 H2)
theorem r_forI {ta : TA} (h : ta σ H fun vs H1 => ∃ i : Int, vs = [.int i] ∧ -(2 ^ 62) ≤ i ∧ i < 2 ^ 62 ∧ FrGo tb j D σ i.toNat H1) : tFor (iRng1 ta) (gName j) tb D σ H := h
theorem r_frGo {m : Nat} (Pv : Nat → L2.St → Hp → Prop) (h0 : Pv 0 σ H) (hs : ∀ i σ' H', i < m → Pv i σ' H' → tb { D with nx := Pv (i + 1), ct := Pv (i + 1), bk := D.nx } (σ'.set j (some (.int (i : Nat)))) H') (hd : ∀ σ' H', Pv m σ' H' → D.nx σ' H') : FrGo tb j D σ m H := by
  refine for_range (lo := 0) (n := m) Pv h0 (fun i σ' H' hi q => ?_) hd
  rw [Int.zero_add]
  exact hs i σ' H' hi q
theorem r_while {c : TT} (W : Nat → L2.St → Hp → Prop) (m : Nat) (h0 : W m σ H) (h : ∀ m σ H, W m σ H → c σ H fun b H1 => if b = true then ∃ N : L2.St → Hp → Prop, (∀ σ' H', N σ' H' → ∃ m', m' < m ∧ W m' σ' H') ∧ tb { D with nx := N, ct := N, bk := D.nx } σ H1 else D.nx σ H1) :
    tWhile c tb D σ H := ⟨W, ⟨m, h0⟩, h⟩
theorem r_addS {a b : Str} {P : Str → Prop} (hz : a.length + b.length ≤ 100000) (h : P (a ++ b)) : a.length + b.length ≤ sizeLine ∧ P (a ++ b) := ⟨line_le hz, h⟩
end
abbrev rInStr : R2 := fun x y H Q => ∃ i j, x = .str i ∧ y = .str j ∧ Q (.bl (!(Builtin.Str.occurrences j i 0 j.length 1).isEmpty)) H
theorem r_cut {t u : TS} {σ : L2.St} {H : Hp} {D : Ends} (Mid : L2.St → Hp → Prop) (h1 : t { D with nx := Mid } σ H) (h2 : ∀ σ' H', Mid σ' H' → u D σ' H') : C8.tCut t u D σ H := ⟨Mid, h1, h2⟩
theorem SameBut.same {r : Addr} {A B C : Hp} (f : SameBut r A B) (s : Same B C) : SameBut r A C := fun c o hc e => s _ _ (f c o hc e)
theorem SameBut.updL {r : Addr} {A B : Hp} {o : HO} (f : SameBut r A B) : SameBut r A (upd B r o) := fun c o hc e => by rw [upd_ne hc]; exact f c o hc e
theorem lenApp (a b : Str) : (a ++ b).length = a.length + b.length := Array.size_append
theorem cutTake (xs : List V) {k : Nat} (h : k ≤ xs.length) : cutV xs none (some (k : Int)) = xs.take k := by
  have e : HT.sIx xs.length xs.length (some (k : Int)) = k := by
    rw [HT.sIx_nat]; omega
  show (xs.drop 0).take (HT.sIx xs.length xs.length (some (k : Int)) - 0) = _
  rw [e]
  rfl
end OW

set_option maxHeartbeats 4000000
namespace OW
open PySem PySem.Spec PyProof.Rows L2
/-! ### C(), C a class whose __init__ is object's -/
structure Mk0 (K : PySem.W.Frag) (C : Addr) : Prop where
  makes : PySem.W.makesIn K C = true
  init : PySem.W.findIn K (.ref C) "__init__" = some (some (.builtin "object.__init__"))
  kp : PySem.W.keepIn K (.ref C) = true
def mk0B (x : Str) (K : PySem.W.Frag) : Bool := PySem.W.makesIn K (He.ga K x) && (He.eqO (PySem.W.findIn K (.ref (He.ga K x)) "__init__") (some (some (.builtin "object.__init__"))) && PySem.W.keepIn K (.ref (He.ga K x)))
theorem mk0_ok {x : Str} {K : PySem.W.Frag} (c : mk0B x K = true) : Mk0 K (He.ga K x) := by
  unfold mk0B at c
  simp only [Bool.and_eq_true] at c
  exact ⟨c.1, He.eqO_ok c.2.1, c.2.2⟩
def tMk0 (C : Addr) : TE := fun _ H Q => ∀ x dx, H x = none → H dx = none → dx ≠ x → Q (.ref x) (upd (upd H dx (.own x)) x (.ins C dx []))
theorem run_mk0 {X : Cx} {C : Addr} {pins : List (Addr × Obj)} {σ : L2.St} {H : Hp} {s : Shared} {Q : VK} (M : Mk0 X.K C) (I : Inv X pins σ H s) (h : tMk0 C σ H Q) : wpAny (model X.prog X.w) X.A (call (.ref C) []) (EP X pins σ Q) X.xe s := by
  have hq := h (s.heap.objs.size + 1) s.heap.objs.size (I.hok.fresh (Nat.le_succ _)) (I.hok.fresh (Nat.le_refl _)) (Nat.ne_of_lt (Nat.lt_succ_self _))
  have I2 := Inv.made (C := C) I
  refine wpAny_call (make_map0 I.kIn M.makes M.init (fun self => PySem.W.Looks.of_pure (PySem.W.oi_bind self)) ?_)
  have Y := PySem.W.makes_of (M := model X.prog X.w) I.kIn M.makes
  have hobj : ((s.heap.push PySem.W.emptyDict).push (PySem.W.instObj C s.heap.objs.size)).get? (s.heap.objs.size + 1) = some (PySem.W.instObj C s.heap.objs.size) := by
    have e := Heap.get?_push_size (s.heap.push PySem.W.emptyDict) (o := PySem.W.instObj C s.heap.objs.size) rfl
    rwa [Heap.size_push] at e
  have t1 : PySem.W.Looks (model X.prog X.w) ((s.heap.push PySem.W.emptyDict).push (PySem.W.instObj C s.heap.objs.size)) (typeOf (.ref (s.heap.objs.size + 1))) (.ref C) := (PySem.W.Looks.ld hobj).andThen .now
  have t2 : PySem.W.Looks (model X.prog X.w) ((s.heap.push PySem.W.emptyDict).push (PySem.W.instObj C s.heap.objs.size)) (isInstance (.ref (s.heap.objs.size + 1)) (.type "object")) true :=
    t1.andThen (Y.top.keeps fun b o e => Heap.get?_push_of_some _ (Heap.get?_push_of_some _ e))
  refine codeAny_call_builtin PySem.W.oi_plain PySem.W.entry_oi (@PySem.W.check_slot (model X.prog X.w) _ _ _ "object.__init__" "object" "__init__" (.ref (s.heap.objs.size + 1)) [] [] _ PySem.W.oi_kind PySem.W.oi_split t2 (PySem.W.oi_args (.ref (s.heap.objs.size + 1))) ?_)
  rw [PySem.W.oi_run]
  exact wpAny_pure ⟨rfl, V.ref (s.heap.objs.size + 1), _, I2, rfl, hq⟩
theorem pe_mk0 {X : Cx} {C : Addr} {x : Str} {p pos : Pos} (M : Mk0 X.K C) (hg : Gl X x) (hm : X.mg x = some (.ref C)) (hdb : (x == ("__debug__" : Str)) = false := by decide) : PE X (.Call (.Name x p) [] [] pos) (tMk0 C) := by
  refine ⟨fun pins s σ H Q I h => ?_⟩
  refine wpAny_Call_Name_kw (ld_glob I hg hm ?_ hdb)
  exact PySem.W.callWith_K0 I.kIn M.kp (run_mk0 M (I.tok _) h)
end OW

set_option maxHeartbeats 4000000
namespace PySem.SeqAt
open AutoSeq1 (wpAny_loadPart')
open MeetsSeq MeetsSeq2 MeetsSeq3 SeqRoads2
section
variable {prog : Program} {w : World}
/-- == of two tuples, item by item, within one model -/
theorem owTupEq (l b : Addr) (items items2 : Array Value) (n n2 : Nat) (dd dd2 : Option Addr) (sl sl2 : Array (Option Value)) (e : Nat → Bool) :
    MeetsIn prog w (Builtin.«tuple.__eq__» ⟨[.ref l, .ref b], []⟩)
      (fun A R s => s.heap.get? l = some { cls := .type "tuple", dict := dd, data := .seq items n, slots := sl } ∧ s.heap.get? b = some { cls := .type "tuple", dict := dd2, data := .seq items2 n2, slots := sl2 } ∧
        (∀ j (h1 : j < items.size) (h2 : j < items2.size), EqP prog w A.in1 s items[j] items2[j] (e j)) ∧
        R (.ok (.ret (.bool ((List.range (min items.size items2.size)).all e && items.size == items2.size)))) s) := by
  intro A R s h
  obtain ⟨hp, g, d, tk, os⟩ := s
  obtain ⟨hl, hb, he, h⟩ := h
  have f2 := AutoSeq1.sub_tuple_tuple
  have hZ : (items.toList.zip items2.toList).length = min items.size items2.size := by simp
  wp_walk using wpAny_loadPart' hl, wpAny_loadPart' hb, wpAny_forIn_list _ (fun rest b s' => b.1 = none ∧ s' = ⟨hp, g, d, tk, os⟩ ∧ ∃ i, rest = (items.toList.zip items2.toList).drop i ∧
    R (.ok (.ret (.bool (((List.range (min items.size items2.size)).drop i).all e && items.size == items2.size)))) ⟨hp, g, d, tk, os⟩) _
  case turn =>
    rintro ⟨y, x⟩ rest b s' ⟨hb', rfl, i, hz, hR⟩
    have hlt : i < (items.toList.zip items2.toList).length := Nat.lt_of_not_le fun h' => by rw [List.drop_of_length_le h'] at hz; cases hz
    have hm : i < min items.size items2.size := hZ ▸ hlt
    have h1 : i < items.size := Nat.lt_of_lt_of_le hm (Nat.min_le_left _ _)
    have h2 : i < items2.size := Nat.lt_of_lt_of_le hm (Nat.min_le_right _ _)
    rw [List.drop_eq_getElem_cons hlt] at hz
    injection hz with hyx hrest
    obtain rfl : y = items[i] := by simpa using congrArg Prod.fst hyx
    obtain rfl : x = items2[i] := by simpa using congrArg Prod.snd hyx
    rw [show (List.range (min items.size items2.size)).drop i = i :: (List.range (min items.size items2.size)).drop (i + 1) by simp [List.drop_eq_getElem_cons, hm], List.all_cons] at hR
    refine wpAny_bind (he i h1 h2 _ _ ?_)
    cases hy : e i with
    | true =>
      rw [hy] at hR
      wp_walk
      exact ⟨rfl, rfl, i + 1, hrest, by simpa using hR⟩
    | false =>
      rw [hy] at hR
      wp_walk
      simpa using hR
  case fin =>
    rintro ⟨b1, b2⟩ s' ⟨hb', rfl, i, hz, hR⟩
    simp only at hb'
    subst hb'
    have hge : (items.toList.zip items2.toList).length ≤ i := Nat.le_of_not_lt fun h' => by rw [List.drop_eq_getElem_cons h'] at hz; cases hz
    rw [List.drop_of_length_le (by simpa using hZ ▸ hge)] at hR
    wp_walk
    simpa [Builtin.Tuple.tupleCompareSizes] using hR
  case h =>
    exact ⟨rfl, rfl, 0, rfl, by simpa using h⟩
theorem rcP_tuples {A : Around} {s : Shared} {l b : Addr} {items items2 : Array Value} {e : Nat → Bool} (hl : s.heap.IsTuple l items) (hb : s.heap.IsTuple b items2) (hu : A.units < cLine)
    (he : ∀ j (h1 : j < items.size) (h2 : j < items2.size), EqP prog w A.in1 s items[j] items2[j] (e j)) (E Q : Value → Shared → Prop) (h : Q (.bool ((List.range (min items.size items2.size)).all e && items.size == items2.size)) s) : wpAny (model prog w) A (richCompare .Eq (.ref l) (.ref b)) Q E s := by
  obtain ⟨⟨cls, dd, data, sl⟩, ho, hc, n, hd⟩ := id hl
  obtain ⟨⟨cls2, dd2, data2, sl2⟩, ho2, hc2, n2, hd2⟩ := id hb
  simp only at hc hd hc2 hd2
  subst hc hd hc2 hd2
  have ta : s.TypeIs (.ref l) "tuple" := ⟨_, ho, rfl⟩
  have tb : s.TypeIs (.ref b) "tuple" := ⟨_, ho2, rfl⟩
  exact wpAny_richCompare_same_room (op := .Eq) ta tb F.slot_tuple_eq (call_meetsIn F.slot_tuple_eq ta F.entry_tuple_eq (F.args_tuple_eq_2 _ _) (owTupEq l b items items2 n n2 dd dd2 sl sl2 e)
    ⟨ho, ho2, he, show Value.bool _ ≠ Value.notImplemented ∧ Q (.bool _) s from ⟨(fun x => nomatch x), h⟩⟩) hu
end
end PySem.SeqAt
namespace PySem.W
open PySem PySem.Spec PySem.Calls PyProof.Rows
section
variable {prog : Program} {w : World} {A : Around} {E : Value → Shared → Prop} {s : Shared} {K : Frag} {x D : Addr} {ox : Obj} {od : Obj}
theorem ow_classE {Q : Option Value → Shared → Prop} (hga : findIn K (.ref D) "__getattribute__" = some (some (.builtin "BaseException.__getattribute__"))) (hgt : findIn K (.ref D) "__getattr__" = some none) (hsub : subIn K (.ref D) (.type "BaseException") = some true)
    (hdct : hasDictIn K D = true) (ha : findIn K (.ref D) "__class__" = some (some (.builtin "object.__class__")))
    (hn : specialIn K (.builtin "object.__class__") "__get__" = some (some (.builtin "getset_descriptor.__get__"))) (htk : takesIn K (.builtin "object.__class__") = some true) (hm : mroIn K D (.type "object") = some true)
    (X : K.In s.heap) (I : InstAt s.heap x ox D (some od)) (h : Q (some (.ref D)) { s with toks := s.toks + 1 }) : wpAny (model prog w) A (getAttr? (.ref x) "__class__") Q E s := by
  have hf : findObj K D (some od) "__class__" = some (.bind (.builtin "getset_descriptor.__get__") (.builtin "object.__class__")) := findObj_data (by obtain ⟨cd, hc, _⟩ := any_some hdct; rw [hc]; rfl) ha hn htk
  obtain ⟨hp, g, d, t, os⟩ := s
  have L0 := I.type (M := model prog w)
  have L1 := looks_findIn (M := model prog w) X hga
  have L2 := looks_findIn (M := model prog w) X hgt
  have L3 := looks_find (M := model prog w) X I hf
  have sub : Looks (model prog w) hp (isInstance (.ref x) (.type "BaseException")) true := L0.andThen (looks_subIn X hsub)
  have hx0 : (false && onTheHeap (Value.builtin "BaseException.__getattribute__")) = false := rfl
  have hx2 : (Value.builtin "BaseException.__getattribute__" == Value.builtin "object.__getattribute__") = false := by decide +kernel
  have hx1 : (onTheHeap (Value.ref D) && Value.builtin "BaseException.__getattribute__" == Value.builtin "object.__getattribute__") = false := by rw [hx2]; rfl
  unfold getAttr? getAttrBy? getAttrBy
  refine wpAny_bind (wpAny_mkText (wpAny_bind (wpAny_attempt (wpAny_holding (wpAny_bind (L0.at (wpAny_bind (L1.at ?_))))))))
  show wpAny _ _ (if (onTheHeap (Value.ref D) && Value.builtin "BaseException.__getattribute__" == Value.builtin "object.__getattribute__") = true then _ else _) _ _ _
  rw [hx1, if_neg Bool.false_ne_true]
  unfold getAttrByItsOwn hookBefore
  refine wpAny_bind ?_
  rw [if_pos (show onTheHeap (Value.ref D) = true from rfl)]
  refine L2.at ?_
  refine wpAny_bind (wpAny_attempt (wpAny_holding ?_))
  unfold callGetattribute
  rw [hx0, if_neg Bool.false_ne_true]
  unfold boundAndCalled
  rw [PySem.F.excAttr_ValueError.ga.bind (.ref x)]
  refine wpAny_bind (wpAny_pure ?_)
  show wpAny _ _ (call (.builtin "BaseException.__getattribute__") [.ref x, .str "__class__" t]) _ _ _
  refine wpAny_call (codeAny_call_builtin PySem.F.excAttr_ValueError.ga.plain PySem.F.entry_bexc_ga ?_)
  refine @check_slot (model prog w) _ _ ⟨hp, g, d, t + 1, os⟩ "BaseException.__getattribute__" "BaseException" "__getattribute__" (.ref x) [.str "__class__" t] [] _ (by decide +kernel) (by decide +kernel) sub (PySem.F.args_bexc_ga (.ref x) (.str "__class__" t)) ?_
  unfold Builtin.«object.__getattribute__»
  refine wpAny_bind (wpAny_of_eq (a := ((Value.ref x : Value), [Value.str "__class__" t])) (by first | rfl | (simp only [slotArgs]; rfl)) ?_)
  refine wpAny_bind (wpAny_pure (wpAny_bind (L0.at (wpAny_bind (L3.at ?_)))))
  show wpAny _ _ (holding [Value.builtin "object.__class__"] (call (.builtin "getset_descriptor.__get__") [.builtin "object.__class__", .ref x, .ref D]) >>= ret) _ _ _
  refine wpAny_bind (wpAny_holding (wpAny_call (class_get (s := ⟨hp, g, d, t + 1, os⟩) (ox := ox) (od := some od) X I hm ?_)))
  refine wpAny_pure ?_
  show wpAny _ _ (handedOut (.ref D)) _ _ _
  rw [handedOut_of (v := .ref D) rfl]
  first
    | exact wpAny_pure (wpAny_pure h)
    | exact wpAny_pure h
    | exact wpAny_pure (wpAny_bind (wpAny_pure (wpAny_pure h)))
theorem ow_kitx (hga : findIn K (.ref D) "__getattribute__" = some (some (.builtin "BaseException.__getattribute__"))) (hgt : findIn K (.ref D) "__getattr__" = some none) (hsub : subIn K (.ref D) (.type "BaseException") = some true) (hdct : hasDictIn K D = true) (ha : findIn K (.ref D) "__class__" = some (some (.builtin "object.__class__")))
    (hn : specialIn K (.builtin "object.__class__") "__get__" = some (some (.builtin "getset_descriptor.__get__"))) (htk : takesIn K (.builtin "object.__class__") = some true) (hm : mroIn K D (.type "object") = some true) :
    KitX K (.ref x) (.ref D) (fun h => InstAt h x ox D (some od)) where
  ty := fun _ _ _ I => I.type
  it := fun _ _ X _ => by
    obtain ⟨cdD, hcD, _⟩ := any_some hdct
    unfold clsIn at hcD
    split at hcD
    · rename_i c' d' cd' sl' ho
      intro A' Q' E' s' k q
      unfold isType loadHead
      exact wpAny_bind (wpAny_loadPart (k _ _ (X _ _ ho)) (wpAny_pure q))
    · cases hcD
  ne := fun h tp dd its n sl X htp => by
    obtain ⟨cdD, hcD, _⟩ := any_some hdct
    refine Bool.eq_false_iff.mpr fun q => ?_
    have e : D = tp := Value.ref.inj (beq_iff_eq.mp q)
    subst e
    unfold clsIn at hcD
    split at hcD
    · rename_i c' d' cd' sl' ho
      have z := (X _ _ ho).symm.trans htp
      cases z
    · cases hcD
  ca := fun X I k => ow_classE hga hgt hsub hdct ha hn htk hm X I k
end
end PySem.W
namespace OW
open PySem PySem.Spec PyProof.Rows L2
/-- isinstance(e, c), e the caught exception, d its dict -/
def rIsE2 (K : PySem.W.Frag) (cls : Value) (d : Option Addr) (a : Addr) : List V → Hp → VK → Prop := fun xs H Q => ∃ (D : Addr) (c : V) (cv : Value) (b : Bool) (dd : Addr) (fs : List (Str × V)), cls = .ref D ∧ d = some dd ∧ H dd = some (.xd fs) ∧ L2.ExcC K D ∧ xs = [.ref a, c] ∧ (∀ u, RelV c u → u = cv) ∧ PySem.W.kitOne K (.ref D) cv = some b ∧ Q (.bl b) H
theorem call_isE2 {X : Cx} {a : Addr} {cls : Value} {d : Option Addr} {oe : Obj} {pn : List (Addr × Obj)} (hz : Zc cls d oe) (hf : ∃ vs, oe.data = .fields vs) : CallR (X.suite a ((a, oe) :: pn)) (.builtin "isinstance") (rIsE2 X.K cls d a) := by
  intro pins s σ H xs us Q I r h
  obtain ⟨D, c, cv, b, dd, fs, rfl, rfl, hd, C, rfl, hcv, e, q⟩ := h
  cases r with
  | cons rx rr =>
    cases rr with
    | cons rt rr =>
      cases rr
      cases rx
      have ec := hcv _ rt
      subst ec
      obtain ⟨hget, _⟩ := I.pin (a, oe) (List.mem_append.mpr (.inl List.mem_cons_self))
      obtain ⟨vs, hv⟩ := hf
      have hx : ObjOk X.prog X.w H s.heap dd (.xd fs) := I.hok dd _ hd
      obtain ⟨mA, hns, hr⟩ := hx
      obtain ⟨od, ho, hl⟩ := lookIn_ns hns
      have J : PySem.W.InstAt s.heap a oe D (some od) := ⟨hget, hz.1, by unfold PySem.W.notCls; rw [hv] <;> rfl, by rw [hz.2]; exact ho⟩
      exact PySem.W.kia_one (PySem.W.ow_kitx C.hg C.hk C.hs C.hd C.ha C.hn C.ht C.hm) I.kIn J e (fun z => nomatch z) fun tk => ⟨.bl b, H, I.kept (t' := tk) fun _ _ z => z, rfl, q⟩
/-! ### two dicts that hold the same, references too; two tuples of such -/
def flatR (v : V) : Prop := flatB v = true ∨ ∃ c, v = .ref c
theorem hits_ref {A : Around} {s : Shared} {kvs : List (Key × V)} {vb : List (Key × Value)} (rb : KV kvs vb) {ks : List (Key × V)} {va : List (Key × Value)} (ra : KV ks va) :
    (∀ p ∈ ks, valV kvs p.1 = some p.2 ∧ flatR p.2) → PySem.W.KeqHits A s vb va true := by
  unfold KV at ra
  induction ra with
  | nil => intro _; exact .nil
  | @cons p q ps qs h t ih =>
    intro hp
    obtain ⟨h1, h2⟩ := h
    obtain ⟨e, f⟩ := hp p List.mem_cons_self
    have rr : RelO (some p.2) (valueAt vb p.1) := by rw [← e]; exact rb.val p.1
    obtain ⟨y, hy, ry⟩ := rr.some_of
    obtain ⟨k, v⟩ := q
    have h1' : p.1 = k := h1
    rw [h1'] at hy
    show PySem.W.KeqHits A s vb ((k, v) :: qs) (true && true)
    refine .hit hy ?_ (ih fun p' hm => hp p' (List.mem_cons_of_mem _ hm))
    rcases f with f | ⟨c, ec⟩
    · exact eqAt_same h2 ry f
    · rw [ec] at h2 ry
      cases (show v = Value.ref c from h2)
      cases (show y = Value.ref c from ry)
      exact SeqAt.EqAt.same _
section
variable {X : Cx} {pins : List (Addr × Obj)} {σ : L2.St} {H : Hp} {s : Shared}
theorem fin_blO (I : Inv X pins σ H s) {b c : Bool} {Q : VK} (q : Q (.bl b) H) (e : c = b) : EP X pins σ Q (.bool c) s := by subst e; exact ⟨.bl c, H, I, rfl, q⟩
def rNeDR : R2 := fun x y H Q => ∃ a b ks ls, x = .ref a ∧ y = .ref b ∧ H a = some (.dK ks) ∧ H b = some (.dK ls) ∧ ks.length = ls.length ∧ (∀ p ∈ ks, valV ls p.1 = some p.2 ∧ flatR p.2) ∧ Q (.bl false) H
theorem op_neDR (hu : X.A.units + 64 < cLine) : OpR X (compareOp .NotEq) rNeDR := by
  intro pins s σ H x y v u Q I rx ry h
  obtain ⟨a, b, ks, ls, rfl, rfl, ea, eb, hlen, hp, q⟩ := h
  obtain rfl : v = Value.ref a := rx
  obtain rfl : u = Value.ref b := ry
  obtain ⟨_, ya, va, ra, da⟩ := (show ObjOk X.prog X.w H s.heap a (.dK ks) from I.hok a _ ea)
  obtain ⟨_, yb, vb, rb, db⟩ := (show ObjOk X.prog X.w H s.heap b (.dK ls) from I.hok b _ eb)
  have hl : va.length = vb.length := by rw [← ra.length, ← rb.length]; exact hlen
  exact PySem.W.keq_ne (knd := mixKind X.prog X.w) (r := true) ya yb da db (by omega) (fun _ => hits_ref rb ra hp) (fin_blO I q (by simp [hl]))
def rEqDR : R2 := fun x y H Q => ∃ a b ks ls, x = .ref a ∧ y = .ref b ∧ H a = some (.dK ks) ∧ H b = some (.dK ls) ∧ ks.length = ls.length ∧ (∀ p ∈ ks, valV ls p.1 = some p.2 ∧ flatR p.2) ∧ Q (.bl true) H
theorem op_eqDR (hu : X.A.units + 64 < cLine) : OpR X (compareOp .Eq) rEqDR := by
  intro pins s σ H x y v u Q I rx ry h
  obtain ⟨a, b, ks, ls, rfl, rfl, ea, eb, hlen, hp, q⟩ := h
  obtain rfl : v = Value.ref a := rx
  obtain rfl : u = Value.ref b := ry
  obtain ⟨_, ya, va, ra, da⟩ := (show ObjOk X.prog X.w H s.heap a (.dK ks) from I.hok a _ ea)
  obtain ⟨_, yb, vb, rb, db⟩ := (show ObjOk X.prog X.w H s.heap b (.dK ls) from I.hok b _ eb)
  have hl : va.length = vb.length := by rw [← ra.length, ← rb.length]; exact hlen
  exact PySem.W.keq_eq (knd := mixKind X.prog X.w) (r := true) ya yb da db (by omega) (fun _ => hits_ref rb ra hp) (fin_blO I q (by simp [hl]))
def rEqTV (K : PySem.W.Frag) : R2 := fun x y H Q => ∃ n a b xs ys, n ≤ 60 ∧ x = .ref a ∧ y = .ref b ∧ SqT K H a xs ∧ SqT K H b ys ∧ Paired (EqV K H n) xs ys ∧ Q (.bl true) H
theorem op_eqTV (hu : X.A.units + 64 < cLine) : OpR X (compareOp .Eq) (rEqTV X.K) := by
  intro pins s σ H x y v u Q I rx ry h
  obtain ⟨n, a, b, xs, ys, hn, rfl, rfl, ha, hb, hp, q⟩ := h
  obtain rfl : v = Value.ref a := rx
  obtain rfl : u = Value.ref b := ry
  obtain ⟨us, r1, p1, _⟩ := I.tuple ha
  obtain ⟨ws, r2, p2, _⟩ := I.tuple hb
  have hsz : us.toArray.size = ws.toArray.size := by
    rw [List.size_toArray, List.size_toArray, ← r1.length, ← r2.length]
    exact Paired.length hp
  refine SeqAt.rcP_tuples (e := fun _ => true) p1 p2 (by omega) (fun j h1 h2 => ?_) _ _ ?_
  · have k := items_run (eqV_run I n X.A.in1 (by show X.A.units + 1 + n < cLine; omega)) hp r1 r2 j (by simpa using h1) (by simpa using h2)
    simpa using k
  · refine ⟨.bl true, H, I, ?_, q⟩
    rw [hsz]
    show Value.bool _ = Value.bool true
    simp
end
end OW

set_option maxHeartbeats 0
namespace OW
open PySem PySem.Spec PyProof.Rows L2

abbrev theLaw : PySem.W.OpenLaw := PySem.Challenge.rw_overwise_k67_words_that_come_in
abbrev R : PySem.W.OpenRow := PySem.W.OpenLaw.row PySem.Challenge.rw_overwise_k67_words_that_come_in
def top (i : Nat) : Stmt := PySem.Challenge.pw_overwise_k67_words_that_come_in.main.body.getD i (.Pass ⟨0, 0, 0, 0⟩)
abbrev s__wall : Stmt := top 0
abbrev s_NoWidth_init : Stmt := inClass (top 3) 0
abbrev s_NoWord_init : Stmt := inClass (top 4) 0
abbrev s_NoKind_init : Stmt := inClass (top 5) 0
abbrev s_NoText_init : Stmt := inClass (top 6) 0
abbrev s_NoWay_init : Stmt := inClass (top 7) 0
abbrev s_NoProgram_init : Stmt := inClass (top 8) 0
abbrev s_TooMuch_init : Stmt := inClass (top 9) 0
abbrev s_Unknown_init : Stmt := inClass (top 10) 0
abbrev s_WrongKind_init : Stmt := inClass (top 11) 0
abbrev s_Twice_init : Stmt := inClass (top 12) 0
abbrev s_NoInput_init : Stmt := inClass (top 13) 0
abbrev s_is_whole : Stmt := top 17
abbrev s_need_width : Stmt := top 18
abbrev s_are_signs : Stmt := top 19
abbrev s_Kind_init : Stmt := inClass (top 22) 0
abbrev s_Kind_word : Stmt := inClass (top 22) 1
abbrev s_Kind_least : Stmt := inClass (top 22) 2
abbrev s_Kind_greatest : Stmt := inClass (top 22) 3
abbrev s_Kind_is_count : Stmt := inClass (top 22) 4
abbrev s_Kind_count_of : Stmt := inClass (top 22) 5
abbrev s_Kind_bits_of : Stmt := inClass (top 22) 6
abbrev s_Kind_go_round : Stmt := inClass (top 22) 8
abbrev s_Kind_stop_at : Stmt := inClass (top 22) 9
abbrev s_Kind_shown : Stmt := inClass (top 22) 10
abbrev s_Kind_read : Stmt := inClass (top 22) 11
abbrev s_Plain_init : Stmt := inClass (top 23) 0
abbrev s_Plain_word : Stmt := inClass (top 23) 1
abbrev s_Plain_least : Stmt := inClass (top 23) 2
abbrev s_Plain_greatest : Stmt := inClass (top 23) 3
abbrev s_Signed_init : Stmt := inClass (top 24) 0
abbrev s_Pointed_init : Stmt := inClass (top 25) 0
abbrev s_Pointed_word : Stmt := inClass (top 25) 1
abbrev s_same_kind : Stmt := top 26
abbrev s_Row_init : Stmt := inClass (top 36) 0
abbrev s_Repeat_init : Stmt := inClass (top 37) 0
abbrev s_form_of : Stmt := top 38
abbrev s_is_name : Stmt := top 39
abbrev s_number_in : Stmt := top 40
abbrev s_kind_in : Stmt := top 41
abbrev s_bits_shown : Stmt := top 42
abbrev s_taken : Stmt := top 43
abbrev s_Draft_init : Stmt := inClass (top 44) 0
abbrev s_Draft_block : Stmt := inClass (top 44) 1
abbrev s_Draft_take : Stmt := inClass (top 44) 2
abbrev s_Draft_take_width : Stmt := inClass (top 44) 3
abbrev s_Draft_take_in : Stmt := inClass (top 44) 4
abbrev s_Draft_take_out : Stmt := inClass (top 44) 5
abbrev s_Draft_take_repeat : Stmt := inClass (top 44) 6
abbrev s_Draft_take_end : Stmt := inClass (top 44) 7
abbrev s_Draft_take_row : Stmt := inClass (top 44) 8
abbrev s_Draft_is_great : Stmt := inClass (top 44) 9
abbrev s_read_lines : Stmt := top 45
abbrev s_Way_word : Stmt := inClass (top 47) 0
abbrev s_Way_adjust : Stmt := inClass (top 47) 1
abbrev s_Way_rounded : Stmt := inClass (top 47) 3
abbrev s_Down_word : Stmt := inClass (top 48) 0
abbrev s_Down_adjust : Stmt := inClass (top 48) 1
abbrev s_Up_word : Stmt := inClass (top 49) 0
abbrev s_Up_adjust : Stmt := inClass (top 49) 1
abbrev s_Cut_word : Stmt := inClass (top 50) 0
abbrev s_Near_word : Stmt := inClass (top 51) 0
abbrev s_Near_adjust : Stmt := inClass (top 51) 2
abbrev s_all_ways : Stmt := top 52
abbrev s_way_of : Stmt := top 53
abbrev s_summed : Stmt := top 57
abbrev s_moved : Stmt := top 58
abbrev s_reckoned : Stmt := top 59
abbrev s_worked : Stmt := top 60
abbrev s_Running_init : Stmt := inClass (top 61) 0
abbrev s_Running_go : Stmt := inClass (top 61) 1
abbrev s_Running_do : Stmt := inClass (top 61) 2
abbrev s_Running_put : Stmt := inClass (top 61) 3
abbrev s_ran : Stmt := top 62
abbrev s_run : Stmt := top 63
abbrev s_trace : Stmt := top 64
abbrev s_kind_words : Stmt := top 69
abbrev s_count_rows : Stmt := top 70
abbrev s_Program_init : Stmt := inClass (top 71) 0
abbrev s_Program_kind_of : Stmt := inClass (top 71) 1
abbrev s_Program_names : Stmt := inClass (top 71) 2
abbrev s_Program_rows_run : Stmt := inClass (top 71) 3
abbrev s_Program_text : Stmt := inClass (top 71) 4
abbrev s_Program_write : Stmt := inClass (top 71) 5
abbrev s_Program_words_behind : Stmt := inClass (top 71) 6
abbrev s_Program_look : Stmt := inClass (top 71) 7
abbrev s_Program_made_kind : Stmt := inClass (top 71) 8
abbrev s_read_program : Stmt := top 72
abbrev s_L_cell : Stmt := top 74
abbrev s_L_box : Stmt := top 75
abbrev s_L_take : Stmt := top 76
abbrev s_L_bits : Stmt := top 77
abbrev s_L_spec : Stmt := top 78
abbrev s_L_kind_words : Stmt := top 79
abbrev s_L_told : Stmt := top 80
abbrev s_L_odd : Stmt := top 81
abbrev s_L_spoilt : Stmt := top 82
abbrev s_L_good : Stmt := top 83
abbrev s_law : Stmt := top 84
def d__wall : He.DefD := ⟨("_wall", none), "_wall", "_wall", defArgs s__wall, defBody s__wall, defScope s__wall, [], []⟩
def d_NoWidth_init : He.DefD := ⟨("NoWidth", some "__init__"), "__init__", "NoWidth.__init__", defArgs s_NoWidth_init, defBody s_NoWidth_init, defScope s_NoWidth_init, [], []⟩
def d_NoWord_init : He.DefD := ⟨("NoWord", some "__init__"), "__init__", "NoWord.__init__", defArgs s_NoWord_init, defBody s_NoWord_init, defScope s_NoWord_init, [], []⟩
def d_NoKind_init : He.DefD := ⟨("NoKind", some "__init__"), "__init__", "NoKind.__init__", defArgs s_NoKind_init, defBody s_NoKind_init, defScope s_NoKind_init, [], []⟩
def d_NoText_init : He.DefD := ⟨("NoText", some "__init__"), "__init__", "NoText.__init__", defArgs s_NoText_init, defBody s_NoText_init, defScope s_NoText_init, [], []⟩
def d_NoWay_init : He.DefD := ⟨("NoWay", some "__init__"), "__init__", "NoWay.__init__", defArgs s_NoWay_init, defBody s_NoWay_init, defScope s_NoWay_init, [], []⟩
def d_NoProgram_init : He.DefD := ⟨("NoProgram", some "__init__"), "__init__", "NoProgram.__init__", defArgs s_NoProgram_init, defBody s_NoProgram_init, defScope s_NoProgram_init, [], []⟩
def d_TooMuch_init : He.DefD := ⟨("TooMuch", some "__init__"), "__init__", "TooMuch.__init__", defArgs s_TooMuch_init, defBody s_TooMuch_init, defScope s_TooMuch_init, [], []⟩
def d_Unknown_init : He.DefD := ⟨("Unknown", some "__init__"), "__init__", "Unknown.__init__", defArgs s_Unknown_init, defBody s_Unknown_init, defScope s_Unknown_init, [], []⟩
def d_WrongKind_init : He.DefD := ⟨("WrongKind", some "__init__"), "__init__", "WrongKind.__init__", defArgs s_WrongKind_init, defBody s_WrongKind_init, defScope s_WrongKind_init, [], []⟩
def d_Twice_init : He.DefD := ⟨("Twice", some "__init__"), "__init__", "Twice.__init__", defArgs s_Twice_init, defBody s_Twice_init, defScope s_Twice_init, [], []⟩
def d_NoInput_init : He.DefD := ⟨("NoInput", some "__init__"), "__init__", "NoInput.__init__", defArgs s_NoInput_init, defBody s_NoInput_init, defScope s_NoInput_init, [], []⟩
def d_is_whole : He.DefD := ⟨("is_whole", none), "is_whole", "is_whole", defArgs s_is_whole, defBody s_is_whole, defScope s_is_whole, [], []⟩
def d_need_width : He.DefD := ⟨("need_width", none), "need_width", "need_width", defArgs s_need_width, defBody s_need_width, defScope s_need_width, [], []⟩
def d_are_signs : He.DefD := ⟨("are_signs", none), "are_signs", "are_signs", defArgs s_are_signs, defBody s_are_signs, defScope s_are_signs, [], []⟩
def d_Kind_init : He.DefD := ⟨("Kind", some "__init__"), "__init__", "Kind.__init__", defArgs s_Kind_init, defBody s_Kind_init, defScope s_Kind_init, [], []⟩
def d_Kind_word : He.DefD := ⟨("Kind", some "word"), "word", "Kind.word", defArgs s_Kind_word, defBody s_Kind_word, defScope s_Kind_word, [], []⟩
def d_Kind_least : He.DefD := ⟨("Kind", some "least"), "least", "Kind.least", defArgs s_Kind_least, defBody s_Kind_least, defScope s_Kind_least, [], []⟩
def d_Kind_greatest : He.DefD := ⟨("Kind", some "greatest"), "greatest", "Kind.greatest", defArgs s_Kind_greatest, defBody s_Kind_greatest, defScope s_Kind_greatest, [], []⟩
def d_Kind_is_count : He.DefD := ⟨("Kind", some "is_count"), "is_count", "Kind.is_count", defArgs s_Kind_is_count, defBody s_Kind_is_count, defScope s_Kind_is_count, [], []⟩
def d_Kind_count_of : He.DefD := ⟨("Kind", some "count_of"), "count_of", "Kind.count_of", defArgs s_Kind_count_of, defBody s_Kind_count_of, defScope s_Kind_count_of, [], []⟩
def d_Kind_bits_of : He.DefD := ⟨("Kind", some "bits_of"), "bits_of", "Kind.bits_of", defArgs s_Kind_bits_of, defBody s_Kind_bits_of, defScope s_Kind_bits_of, [], []⟩
def d_Kind_go_round : He.DefD := ⟨("Kind", some "go_round"), "go_round", "Kind.go_round", defArgs s_Kind_go_round, defBody s_Kind_go_round, defScope s_Kind_go_round, [], []⟩
def d_Kind_stop_at : He.DefD := ⟨("Kind", some "stop_at"), "stop_at", "Kind.stop_at", defArgs s_Kind_stop_at, defBody s_Kind_stop_at, defScope s_Kind_stop_at, [], []⟩
def d_Kind_shown : He.DefD := ⟨("Kind", some "shown"), "shown", "Kind.shown", defArgs s_Kind_shown, defBody s_Kind_shown, defScope s_Kind_shown, [], []⟩
def d_Kind_read : He.DefD := ⟨("Kind", some "read"), "read", "Kind.read", defArgs s_Kind_read, defBody s_Kind_read, defScope s_Kind_read, [], []⟩
def d_Plain_init : He.DefD := ⟨("Plain", some "__init__"), "__init__", "Plain.__init__", defArgs s_Plain_init, defBody s_Plain_init, defScope s_Plain_init, [], []⟩
def d_Plain_word : He.DefD := ⟨("Plain", some "word"), "word", "Plain.word", defArgs s_Plain_word, defBody s_Plain_word, defScope s_Plain_word, [], []⟩
def d_Plain_least : He.DefD := ⟨("Plain", some "least"), "least", "Plain.least", defArgs s_Plain_least, defBody s_Plain_least, defScope s_Plain_least, [], []⟩
def d_Plain_greatest : He.DefD := ⟨("Plain", some "greatest"), "greatest", "Plain.greatest", defArgs s_Plain_greatest, defBody s_Plain_greatest, defScope s_Plain_greatest, [], []⟩
def d_Signed_init : He.DefD := ⟨("Signed", some "__init__"), "__init__", "Signed.__init__", defArgs s_Signed_init, defBody s_Signed_init, defScope s_Signed_init, [], []⟩
def d_Pointed_init : He.DefD := ⟨("Pointed", some "__init__"), "__init__", "Pointed.__init__", defArgs s_Pointed_init, defBody s_Pointed_init, defScope s_Pointed_init, [], []⟩
def d_Pointed_word : He.DefD := ⟨("Pointed", some "word"), "word", "Pointed.word", defArgs s_Pointed_word, defBody s_Pointed_word, defScope s_Pointed_word, [], []⟩
def d_same_kind : He.DefD := ⟨("same_kind", none), "same_kind", "same_kind", defArgs s_same_kind, defBody s_same_kind, defScope s_same_kind, [], []⟩
def d_Row_init : He.DefD := ⟨("Row", some "__init__"), "__init__", "Row.__init__", defArgs s_Row_init, defBody s_Row_init, defScope s_Row_init, [], []⟩
def d_Repeat_init : He.DefD := ⟨("Repeat", some "__init__"), "__init__", "Repeat.__init__", defArgs s_Repeat_init, defBody s_Repeat_init, defScope s_Repeat_init, [], []⟩
def d_form_of : He.DefD := ⟨("form_of", none), "form_of", "form_of", defArgs s_form_of, defBody s_form_of, defScope s_form_of, [], []⟩
def d_is_name : He.DefD := ⟨("is_name", none), "is_name", "is_name", defArgs s_is_name, defBody s_is_name, defScope s_is_name, [], []⟩
def d_number_in : He.DefD := ⟨("number_in", none), "number_in", "number_in", defArgs s_number_in, defBody s_number_in, defScope s_number_in, [], []⟩
def d_kind_in : He.DefD := ⟨("kind_in", none), "kind_in", "kind_in", defArgs s_kind_in, defBody s_kind_in, defScope s_kind_in, [], []⟩
def d_bits_shown : He.DefD := ⟨("bits_shown", none), "bits_shown", "bits_shown", defArgs s_bits_shown, defBody s_bits_shown, defScope s_bits_shown, [], []⟩
def d_taken : He.DefD := ⟨("taken", none), "taken", "taken", defArgs s_taken, defBody s_taken, defScope s_taken, [], []⟩
def d_Draft_init : He.DefD := ⟨("Draft", some "__init__"), "__init__", "Draft.__init__", defArgs s_Draft_init, defBody s_Draft_init, defScope s_Draft_init, [], []⟩
def d_Draft_block : He.DefD := ⟨("Draft", some "block"), "block", "Draft.block", defArgs s_Draft_block, defBody s_Draft_block, defScope s_Draft_block, [], []⟩
def d_Draft_take : He.DefD := ⟨("Draft", some "take"), "take", "Draft.take", defArgs s_Draft_take, defBody s_Draft_take, defScope s_Draft_take, [], []⟩
def d_Draft_take_width : He.DefD := ⟨("Draft", some "take_width"), "take_width", "Draft.take_width", defArgs s_Draft_take_width, defBody s_Draft_take_width, defScope s_Draft_take_width, [], []⟩
def d_Draft_take_in : He.DefD := ⟨("Draft", some "take_in"), "take_in", "Draft.take_in", defArgs s_Draft_take_in, defBody s_Draft_take_in, defScope s_Draft_take_in, [], []⟩
def d_Draft_take_out : He.DefD := ⟨("Draft", some "take_out"), "take_out", "Draft.take_out", defArgs s_Draft_take_out, defBody s_Draft_take_out, defScope s_Draft_take_out, [], []⟩
def d_Draft_take_repeat : He.DefD := ⟨("Draft", some "take_repeat"), "take_repeat", "Draft.take_repeat", defArgs s_Draft_take_repeat, defBody s_Draft_take_repeat, defScope s_Draft_take_repeat, [], []⟩
def d_Draft_take_end : He.DefD := ⟨("Draft", some "take_end"), "take_end", "Draft.take_end", defArgs s_Draft_take_end, defBody s_Draft_take_end, defScope s_Draft_take_end, [], []⟩
def d_Draft_take_row : He.DefD := ⟨("Draft", some "take_row"), "take_row", "Draft.take_row", defArgs s_Draft_take_row, defBody s_Draft_take_row, defScope s_Draft_take_row, [], []⟩
def d_Draft_is_great : He.DefD := ⟨("Draft", some "is_great"), "is_great", "Draft.is_great", defArgs s_Draft_is_great, defBody s_Draft_is_great, defScope s_Draft_is_great, [], []⟩
def d_read_lines : He.DefD := ⟨("read_lines", none), "read_lines", "read_lines", defArgs s_read_lines, defBody s_read_lines, defScope s_read_lines, [], []⟩
def d_Way_word : He.DefD := ⟨("Way", some "word"), "word", "Way.word", defArgs s_Way_word, defBody s_Way_word, defScope s_Way_word, [], []⟩
def d_Way_adjust : He.DefD := ⟨("Way", some "adjust"), "adjust", "Way.adjust", defArgs s_Way_adjust, defBody s_Way_adjust, defScope s_Way_adjust, [], []⟩
def d_Way_rounded : He.DefD := ⟨("Way", some "rounded"), "rounded", "Way.rounded", defArgs s_Way_rounded, defBody s_Way_rounded, defScope s_Way_rounded, [], []⟩
def d_Down_word : He.DefD := ⟨("Down", some "word"), "word", "Down.word", defArgs s_Down_word, defBody s_Down_word, defScope s_Down_word, [], []⟩
def d_Down_adjust : He.DefD := ⟨("Down", some "adjust"), "adjust", "Down.adjust", defArgs s_Down_adjust, defBody s_Down_adjust, defScope s_Down_adjust, [], []⟩
def d_Up_word : He.DefD := ⟨("Up", some "word"), "word", "Up.word", defArgs s_Up_word, defBody s_Up_word, defScope s_Up_word, [], []⟩
def d_Up_adjust : He.DefD := ⟨("Up", some "adjust"), "adjust", "Up.adjust", defArgs s_Up_adjust, defBody s_Up_adjust, defScope s_Up_adjust, [], []⟩
def d_Cut_word : He.DefD := ⟨("Cut", some "word"), "word", "Cut.word", defArgs s_Cut_word, defBody s_Cut_word, defScope s_Cut_word, [], []⟩
def d_Near_word : He.DefD := ⟨("Near", some "word"), "word", "Near.word", defArgs s_Near_word, defBody s_Near_word, defScope s_Near_word, [], []⟩
def d_Near_adjust : He.DefD := ⟨("Near", some "adjust"), "adjust", "Near.adjust", defArgs s_Near_adjust, defBody s_Near_adjust, defScope s_Near_adjust, [], []⟩
def d_all_ways : He.DefD := ⟨("all_ways", none), "all_ways", "all_ways", defArgs s_all_ways, defBody s_all_ways, defScope s_all_ways, [], []⟩
def d_way_of : He.DefD := ⟨("way_of", none), "way_of", "way_of", defArgs s_way_of, defBody s_way_of, defScope s_way_of, [], []⟩
def d_summed : He.DefD := ⟨("summed", none), "summed", "summed", defArgs s_summed, defBody s_summed, defScope s_summed, [], []⟩
def d_moved : He.DefD := ⟨("moved", none), "moved", "moved", defArgs s_moved, defBody s_moved, defScope s_moved, [], []⟩
def d_reckoned : He.DefD := ⟨("reckoned", none), "reckoned", "reckoned", defArgs s_reckoned, defBody s_reckoned, defScope s_reckoned, [], []⟩
def d_worked : He.DefD := ⟨("worked", none), "worked", "worked", defArgs s_worked, defBody s_worked, defScope s_worked, [], []⟩
def d_Running_init : He.DefD := ⟨("Running", some "__init__"), "__init__", "Running.__init__", defArgs s_Running_init, defBody s_Running_init, defScope s_Running_init, [], []⟩
def d_Running_go : He.DefD := ⟨("Running", some "go"), "go", "Running.go", defArgs s_Running_go, defBody s_Running_go, defScope s_Running_go, [], []⟩
def d_Running_do : He.DefD := ⟨("Running", some "do"), "do", "Running.do", defArgs s_Running_do, defBody s_Running_do, defScope s_Running_do, [], []⟩
def d_Running_put : He.DefD := ⟨("Running", some "put"), "put", "Running.put", defArgs s_Running_put, defBody s_Running_put, defScope s_Running_put, [], []⟩
def d_ran : He.DefD := ⟨("ran", none), "ran", "ran", defArgs s_ran, defBody s_ran, defScope s_ran, [], []⟩
def d_run : He.DefD := ⟨("run", none), "run", "run", defArgs s_run, defBody s_run, defScope s_run, [], []⟩
def d_trace : He.DefD := ⟨("trace", none), "trace", "trace", defArgs s_trace, defBody s_trace, defScope s_trace, [], []⟩
def d_kind_words : He.DefD := ⟨("kind_words", none), "kind_words", "kind_words", defArgs s_kind_words, defBody s_kind_words, defScope s_kind_words, [], []⟩
def d_count_rows : He.DefD := ⟨("count_rows", none), "count_rows", "count_rows", defArgs s_count_rows, defBody s_count_rows, defScope s_count_rows, [], []⟩
def d_Program_init : He.DefD := ⟨("Program", some "__init__"), "__init__", "Program.__init__", defArgs s_Program_init, defBody s_Program_init, defScope s_Program_init, [], []⟩
def d_Program_kind_of : He.DefD := ⟨("Program", some "kind_of"), "kind_of", "Program.kind_of", defArgs s_Program_kind_of, defBody s_Program_kind_of, defScope s_Program_kind_of, [], []⟩
def d_Program_names : He.DefD := ⟨("Program", some "names"), "names", "Program.names", defArgs s_Program_names, defBody s_Program_names, defScope s_Program_names, [], []⟩
def d_Program_rows_run : He.DefD := ⟨("Program", some "rows_run"), "rows_run", "Program.rows_run", defArgs s_Program_rows_run, defBody s_Program_rows_run, defScope s_Program_rows_run, [], []⟩
def d_Program_text : He.DefD := ⟨("Program", some "text"), "text", "Program.text", defArgs s_Program_text, defBody s_Program_text, defScope s_Program_text, [], []⟩
def d_Program_write : He.DefD := ⟨("Program", some "write"), "write", "Program.write", defArgs s_Program_write, defBody s_Program_write, defScope s_Program_write, [], []⟩
def d_Program_words_behind : He.DefD := ⟨("Program", some "words_behind"), "words_behind", "Program.words_behind", defArgs s_Program_words_behind, defBody s_Program_words_behind, defScope s_Program_words_behind, [], []⟩
def d_Program_look : He.DefD := ⟨("Program", some "look"), "look", "Program.look", defArgs s_Program_look, defBody s_Program_look, defScope s_Program_look, [], []⟩
def d_Program_made_kind : He.DefD := ⟨("Program", some "made_kind"), "made_kind", "Program.made_kind", defArgs s_Program_made_kind, defBody s_Program_made_kind, defScope s_Program_made_kind, [], []⟩
def d_read_program : He.DefD := ⟨("read_program", none), "read_program", "read_program", defArgs s_read_program, defBody s_read_program, defScope s_read_program, [], []⟩
def d_L_cell : He.DefD := ⟨("_law_cell", none), "_law_cell", "_law_cell", defArgs s_L_cell, defBody s_L_cell, defScope s_L_cell, [], []⟩
def d_L_box : He.DefD := ⟨("_law_box", none), "_law_box", "_law_box", defArgs s_L_box, defBody s_L_box, defScope s_L_box, [], []⟩
def d_L_take : He.DefD := ⟨("_law_take", none), "_law_take", "_law_take", defArgs s_L_take, defBody s_L_take, defScope s_L_take, [], []⟩
def d_L_bits : He.DefD := ⟨("_law_bits", none), "_law_bits", "_law_bits", defArgs s_L_bits, defBody s_L_bits, defScope s_L_bits, [], []⟩
def d_L_spec : He.DefD := ⟨("_law_spec", none), "_law_spec", "_law_spec", defArgs s_L_spec, defBody s_L_spec, defScope s_L_spec, [], []⟩
def d_L_kind_words : He.DefD := ⟨("_law_kind_words", none), "_law_kind_words", "_law_kind_words", defArgs s_L_kind_words, defBody s_L_kind_words, defScope s_L_kind_words, [], []⟩
def d_L_told : He.DefD := ⟨("_law_told", none), "_law_told", "_law_told", defArgs s_L_told, defBody s_L_told, defScope s_L_told, [], []⟩
def d_L_odd : He.DefD := ⟨("_law_odd", none), "_law_odd", "_law_odd", defArgs s_L_odd, defBody s_L_odd, defScope s_L_odd, [], []⟩
def d_L_spoilt : He.DefD := ⟨("_law_spoilt", none), "_law_spoilt", "_law_spoilt", defArgs s_L_spoilt, defBody s_L_spoilt, defScope s_L_spoilt, [], []⟩
def d_L_good : He.DefD := ⟨("_law_good", none), "_law_good", "_law_good", defArgs s_L_good, defBody s_L_good, defScope s_L_good, [], []⟩
def d_law : He.DefD := ⟨("law", none), "law", "law", defArgs s_law, defBody s_law, defScope s_law, [], []⟩
def d_Plain__is_count : He.DefD := ⟨("Plain", some "is_count"), "is_count", "Kind.is_count", defArgs s_Kind_is_count, defBody s_Kind_is_count, defScope s_Kind_is_count, [], []⟩
def d_Plain__count_of : He.DefD := ⟨("Plain", some "count_of"), "count_of", "Kind.count_of", defArgs s_Kind_count_of, defBody s_Kind_count_of, defScope s_Kind_count_of, [], []⟩
def d_Plain__bits_of : He.DefD := ⟨("Plain", some "bits_of"), "bits_of", "Kind.bits_of", defArgs s_Kind_bits_of, defBody s_Kind_bits_of, defScope s_Kind_bits_of, [], []⟩
def d_Plain__go_round : He.DefD := ⟨("Plain", some "go_round"), "go_round", "Kind.go_round", defArgs s_Kind_go_round, defBody s_Kind_go_round, defScope s_Kind_go_round, [], []⟩
def d_Plain__stop_at : He.DefD := ⟨("Plain", some "stop_at"), "stop_at", "Kind.stop_at", defArgs s_Kind_stop_at, defBody s_Kind_stop_at, defScope s_Kind_stop_at, [], []⟩
def d_Plain__shown : He.DefD := ⟨("Plain", some "shown"), "shown", "Kind.shown", defArgs s_Kind_shown, defBody s_Kind_shown, defScope s_Kind_shown, [], []⟩
def d_Plain__read : He.DefD := ⟨("Plain", some "read"), "read", "Kind.read", defArgs s_Kind_read, defBody s_Kind_read, defScope s_Kind_read, [], []⟩
def d_Signed__word : He.DefD := ⟨("Signed", some "word"), "word", "Kind.word", defArgs s_Kind_word, defBody s_Kind_word, defScope s_Kind_word, [], []⟩
def d_Signed__least : He.DefD := ⟨("Signed", some "least"), "least", "Kind.least", defArgs s_Kind_least, defBody s_Kind_least, defScope s_Kind_least, [], []⟩
def d_Signed__greatest : He.DefD := ⟨("Signed", some "greatest"), "greatest", "Kind.greatest", defArgs s_Kind_greatest, defBody s_Kind_greatest, defScope s_Kind_greatest, [], []⟩
def d_Signed__is_count : He.DefD := ⟨("Signed", some "is_count"), "is_count", "Kind.is_count", defArgs s_Kind_is_count, defBody s_Kind_is_count, defScope s_Kind_is_count, [], []⟩
def d_Signed__count_of : He.DefD := ⟨("Signed", some "count_of"), "count_of", "Kind.count_of", defArgs s_Kind_count_of, defBody s_Kind_count_of, defScope s_Kind_count_of, [], []⟩
def d_Signed__bits_of : He.DefD := ⟨("Signed", some "bits_of"), "bits_of", "Kind.bits_of", defArgs s_Kind_bits_of, defBody s_Kind_bits_of, defScope s_Kind_bits_of, [], []⟩
def d_Signed__go_round : He.DefD := ⟨("Signed", some "go_round"), "go_round", "Kind.go_round", defArgs s_Kind_go_round, defBody s_Kind_go_round, defScope s_Kind_go_round, [], []⟩
def d_Signed__stop_at : He.DefD := ⟨("Signed", some "stop_at"), "stop_at", "Kind.stop_at", defArgs s_Kind_stop_at, defBody s_Kind_stop_at, defScope s_Kind_stop_at, [], []⟩
def d_Signed__shown : He.DefD := ⟨("Signed", some "shown"), "shown", "Kind.shown", defArgs s_Kind_shown, defBody s_Kind_shown, defScope s_Kind_shown, [], []⟩
def d_Signed__read : He.DefD := ⟨("Signed", some "read"), "read", "Kind.read", defArgs s_Kind_read, defBody s_Kind_read, defScope s_Kind_read, [], []⟩
def d_Pointed__least : He.DefD := ⟨("Pointed", some "least"), "least", "Kind.least", defArgs s_Kind_least, defBody s_Kind_least, defScope s_Kind_least, [], []⟩
def d_Pointed__greatest : He.DefD := ⟨("Pointed", some "greatest"), "greatest", "Kind.greatest", defArgs s_Kind_greatest, defBody s_Kind_greatest, defScope s_Kind_greatest, [], []⟩
def d_Pointed__is_count : He.DefD := ⟨("Pointed", some "is_count"), "is_count", "Kind.is_count", defArgs s_Kind_is_count, defBody s_Kind_is_count, defScope s_Kind_is_count, [], []⟩
def d_Pointed__count_of : He.DefD := ⟨("Pointed", some "count_of"), "count_of", "Kind.count_of", defArgs s_Kind_count_of, defBody s_Kind_count_of, defScope s_Kind_count_of, [], []⟩
def d_Pointed__bits_of : He.DefD := ⟨("Pointed", some "bits_of"), "bits_of", "Kind.bits_of", defArgs s_Kind_bits_of, defBody s_Kind_bits_of, defScope s_Kind_bits_of, [], []⟩
def d_Pointed__go_round : He.DefD := ⟨("Pointed", some "go_round"), "go_round", "Kind.go_round", defArgs s_Kind_go_round, defBody s_Kind_go_round, defScope s_Kind_go_round, [], []⟩
def d_Pointed__stop_at : He.DefD := ⟨("Pointed", some "stop_at"), "stop_at", "Kind.stop_at", defArgs s_Kind_stop_at, defBody s_Kind_stop_at, defScope s_Kind_stop_at, [], []⟩
def d_Pointed__shown : He.DefD := ⟨("Pointed", some "shown"), "shown", "Kind.shown", defArgs s_Kind_shown, defBody s_Kind_shown, defScope s_Kind_shown, [], []⟩
def d_Pointed__read : He.DefD := ⟨("Pointed", some "read"), "read", "Kind.read", defArgs s_Kind_read, defBody s_Kind_read, defScope s_Kind_read, [], []⟩
def d_Down__rounded : He.DefD := ⟨("Down", some "rounded"), "rounded", "Way.rounded", defArgs s_Way_rounded, defBody s_Way_rounded, defScope s_Way_rounded, [], []⟩
def d_Up__rounded : He.DefD := ⟨("Up", some "rounded"), "rounded", "Way.rounded", defArgs s_Way_rounded, defBody s_Way_rounded, defScope s_Way_rounded, [], []⟩
def d_Cut__adjust : He.DefD := ⟨("Cut", some "adjust"), "adjust", "Way.adjust", defArgs s_Way_adjust, defBody s_Way_adjust, defScope s_Way_adjust, [], []⟩
def d_Cut__rounded : He.DefD := ⟨("Cut", some "rounded"), "rounded", "Way.rounded", defArgs s_Way_rounded, defBody s_Way_rounded, defScope s_Way_rounded, [], []⟩
def d_Near__rounded : He.DefD := ⟨("Near", some "rounded"), "rounded", "Way.rounded", defArgs s_Way_rounded, defBody s_Way_rounded, defScope s_Way_rounded, [], []⟩
def fnL : List He.DefD := [d__wall, d_NoWidth_init, d_NoWord_init, d_NoKind_init, d_NoText_init, d_NoWay_init, d_NoProgram_init, d_TooMuch_init, d_Unknown_init, d_WrongKind_init, d_Twice_init, d_NoInput_init, d_is_whole, d_need_width, d_are_signs, d_Kind_init, d_Kind_word, d_Kind_least, d_Kind_greatest, d_Kind_is_count, d_Kind_count_of, d_Kind_bits_of, d_Kind_go_round, d_Kind_stop_at, d_Kind_shown, d_Kind_read, d_Plain_init, d_Plain_word, d_Plain_least, d_Plain_greatest, d_Signed_init, d_Pointed_init, d_Pointed_word, d_same_kind, d_Row_init, d_Repeat_init, d_form_of, d_is_name, d_number_in, d_kind_in, d_bits_shown, d_taken, d_Draft_init, d_Draft_block, d_Draft_take, d_Draft_take_width, d_Draft_take_in, d_Draft_take_out, d_Draft_take_repeat, d_Draft_take_end, d_Draft_take_row, d_Draft_is_great, d_read_lines, d_Way_word, d_Way_adjust, d_Way_rounded, d_Down_word, d_Down_adjust, d_Up_word, d_Up_adjust, d_Cut_word, d_Near_word, d_Near_adjust, d_all_ways, d_way_of, d_summed, d_moved, d_reckoned, d_worked, d_Running_init, d_Running_go, d_Running_do, d_Running_put, d_ran, d_run, d_trace, d_kind_words, d_count_rows, d_Program_init, d_Program_kind_of, d_Program_names, d_Program_rows_run, d_Program_text, d_Program_write, d_Program_words_behind, d_Program_look, d_Program_made_kind, d_read_program, d_L_cell, d_L_box, d_L_take, d_L_bits, d_L_spec, d_L_kind_words, d_L_told, d_L_odd, d_L_spoilt, d_L_good, d_law, d_Plain__is_count, d_Plain__count_of, d_Plain__bits_of, d_Plain__go_round, d_Plain__stop_at, d_Plain__shown, d_Plain__read, d_Signed__word, d_Signed__least, d_Signed__greatest, d_Signed__is_count, d_Signed__count_of, d_Signed__bits_of, d_Signed__go_round, d_Signed__stop_at, d_Signed__shown, d_Signed__read, d_Pointed__least, d_Pointed__greatest, d_Pointed__is_count, d_Pointed__count_of, d_Pointed__bits_of, d_Pointed__go_round, d_Pointed__stop_at, d_Pointed__shown, d_Pointed__read, d_Down__rounded, d_Up__rounded, d_Cut__adjust, d_Cut__rounded, d_Near__rounded]
def faL : List He.Fa := [.glo "_wall", .glo "is_whole", .glo "need_width", .glo "are_signs", .glo "same_kind", .glo "form_of", .glo "is_name", .glo "number_in", .glo "kind_in", .glo "bits_shown", .glo "taken", .glo "read_lines", .glo "all_ways", .glo "way_of", .glo "summed", .glo "moved", .glo "reckoned", .glo "worked", .glo "ran", .glo "run", .glo "trace", .glo "kind_words", .glo "count_rows", .glo "read_program", .glo "_law_cell", .glo "_law_box", .glo "_law_take", .glo "_law_bits", .glo "_law_spec", .glo "_law_kind_words", .glo "_law_told", .glo "_law_odd", .glo "_law_spoilt", .glo "_law_good", .glo "law", .glo "WiseError", .keep "WiseError", .glo "NoWidth", .keep "NoWidth", .noat "NoWidth" "found", .glo "NoWord", .keep "NoWord", .noat "NoWord" "found", .glo "NoKind", .keep "NoKind", .noat "NoKind" "found", .glo "NoText", .keep "NoText", .noat "NoText" "found", .glo "NoWay", .keep "NoWay", .noat "NoWay" "found", .glo "NoProgram", .keep "NoProgram", .noat "NoProgram" "line", .glo "TooMuch", .keep "TooMuch", .noat "TooMuch" "line", .glo "Unknown", .keep "Unknown", .noat "Unknown" "line", .noat "Unknown" "name", .glo "WrongKind", .keep "WrongKind", .noat "WrongKind" "line", .noat "WrongKind" "name", .glo "Twice", .keep "Twice", .noat "Twice" "line", .noat "Twice" "name", .glo "NoInput", .keep "NoInput", .noat "NoInput" "name", .glo "Kind", .keep "Kind", .cls "Kind", .mkr "Kind", .noat "Kind" "width", .noat "Kind" "point", .meth "Kind" "word", .meth "Kind" "least", .meth "Kind" "greatest", .meth "Kind" "is_count", .meth "Kind" "count_of", .meth "Kind" "bits_of", .meth "Kind" "value_of", .meth "Kind" "go_round", .meth "Kind" "stop_at", .meth "Kind" "shown", .meth "Kind" "read", .glo "Plain", .keep "Plain", .cls "Plain", .mkr "Plain", .noat "Plain" "width", .noat "Plain" "point", .meth "Plain" "word", .meth "Plain" "least", .meth "Plain" "greatest", .meth "Plain" "is_count", .meth "Plain" "count_of", .meth "Plain" "bits_of", .meth "Plain" "value_of", .meth "Plain" "go_round", .meth "Plain" "stop_at", .meth "Plain" "shown", .meth "Plain" "read", .glo "Signed", .keep "Signed", .cls "Signed", .mkr "Signed", .noat "Signed" "width", .noat "Signed" "point", .meth "Signed" "word", .meth "Signed" "least", .meth "Signed" "greatest", .meth "Signed" "is_count", .meth "Signed" "count_of", .meth "Signed" "bits_of", .meth "Signed" "value_of", .meth "Signed" "go_round", .meth "Signed" "stop_at", .meth "Signed" "shown", .meth "Signed" "read", .glo "Pointed", .keep "Pointed", .cls "Pointed", .mkr "Pointed", .noat "Pointed" "width", .noat "Pointed" "point", .meth "Pointed" "word", .meth "Pointed" "least", .meth "Pointed" "greatest", .meth "Pointed" "is_count", .meth "Pointed" "count_of", .meth "Pointed" "bits_of", .meth "Pointed" "value_of", .meth "Pointed" "go_round", .meth "Pointed" "stop_at", .meth "Pointed" "shown", .meth "Pointed" "read", .glo "Row", .keep "Row", .cls "Row", .mkr "Row", .noat "Row" "line", .noat "Row" "deed", .noat "Row" "goals", .noat "Row" "reads", .noat "Row" "numbers", .noat "Row" "way", .glo "Repeat", .keep "Repeat", .cls "Repeat", .mkr "Repeat", .noat "Repeat" "line", .noat "Repeat" "times", .noat "Repeat" "rows", .glo "Draft", .keep "Draft", .cls "Draft", .mkr "Draft", .noat "Draft" "width", .noat "Draft" "inputs", .noat "Draft" "rows", .noat "Draft" "outs", .noat "Draft" "loops", .noat "Draft" "known", .noat "Draft" "chosen", .meth "Draft" "block", .meth "Draft" "take", .meth "Draft" "take_width", .meth "Draft" "take_in", .meth "Draft" "take_out", .meth "Draft" "take_repeat", .meth "Draft" "take_end", .meth "Draft" "take_row", .meth "Draft" "is_great", .glo "Way", .keep "Way", .cls "Way", .meth "Way" "word", .meth "Way" "adjust", .meth "Way" "most_miss", .meth "Way" "rounded", .glo "Down", .keep "Down", .cls "Down", .meth "Down" "word", .meth "Down" "adjust", .meth "Down" "most_miss", .meth "Down" "rounded", .glo "Up", .keep "Up", .cls "Up", .meth "Up" "word", .meth "Up" "adjust", .meth "Up" "most_miss", .meth "Up" "rounded", .glo "Cut", .keep "Cut", .cls "Cut", .meth "Cut" "word", .meth "Cut" "adjust", .meth "Cut" "most_miss", .meth "Cut" "rounded", .glo "Near", .keep "Near", .cls "Near", .meth "Near" "word", .meth "Near" "adjust", .meth "Near" "most_miss", .meth "Near" "rounded", .glo "Running", .keep "Running", .cls "Running", .mkr "Running", .noat "Running" "program", .noat "Running" "bits", .noat "Running" "marks", .noat "Running" "puts", .meth "Running" "go", .meth "Running" "do", .meth "Running" "put", .glo "Program", .keep "Program", .cls "Program", .mkr "Program", .noat "Program" "width", .noat "Program" "inputs", .noat "Program" "rows", .noat "Program" "outs", .noat "Program" "kinds", .meth "Program" "kind_of", .meth "Program" "names", .meth "Program" "rows_run", .meth "Program" "text", .meth "Program" "write", .meth "Program" "words_behind", .meth "Program" "look", .meth "Program" "made_kind", .free "len", .free "isinstance", .free "int", .free "bool", .free "str", .free "list", .free "dict", .free "abs", .free "divmod", .free "range", .free "enumerate", .free "zip", .free "max", .free "min", .free "all", .free "sorted", .free "ValueError", .int "LEAST_WIDTH" 4, .int "GREATEST_WIDTH" 32, .int "LONGEST_SHOWN" 60, .int "MOST_LINES" 60, .int "MOST_NAMES" 30, .int "DEEPEST" 3, .int "MOST_TURNS" 32, .int "LONGEST_NAME" 6, .int "LONGEST_NUMBER" 10, .glo "WAYS", .glo "HEADS", .glo "ROUND_DEEDS", .glo "STOP_DEEDS", .int "MOST_RUN" 600, .glo "PLAIN_DEEDS", .glo "LIKE_DEEDS", .exm "NoWidth" "NoText" false, .exm "NoWord" "NoText" false, .exm "NoKind" "NoText" false, .exm "NoText" "NoText" true, .exm "NoWay" "NoText" false, .exm "NoProgram" "NoText" false, .exm "TooMuch" "NoText" false, .exm "Unknown" "NoText" false, .exm "WrongKind" "NoText" false, .exm "Twice" "NoText" false, .exm "NoInput" "NoText" false, .exm "NoWidth" "WiseError" true, .exm "NoWord" "WiseError" true, .exm "NoKind" "WiseError" true, .exm "NoText" "WiseError" true, .exm "NoWay" "WiseError" true, .exm "NoProgram" "WiseError" true, .exm "TooMuch" "WiseError" true, .exm "Unknown" "WiseError" true, .exm "WrongKind" "WiseError" true, .exm "Twice" "WiseError" true, .exm "NoInput" "WiseError" true]
def exL : List (PySem.W.Frag → Bool) := [fun K => He2.excB "WiseError" K, fun K => He2.excB "NoWidth" K, fun K => He2.einB "NoWidth" K, fun K => He2.excB "NoWord" K, fun K => He2.einB "NoWord" K, fun K => He2.excB "NoKind" K, fun K => He2.einB "NoKind" K, fun K => He2.excB "NoText" K, fun K => He2.einB "NoText" K, fun K => He2.excB "NoWay" K, fun K => He2.einB "NoWay" K, fun K => He2.excB "NoProgram" K, fun K => He2.einB "NoProgram" K, fun K => He2.excB "TooMuch" K, fun K => He2.einB "TooMuch" K, fun K => He2.excB "Unknown" K, fun K => He2.einB "Unknown" K, fun K => He2.excB "WrongKind" K, fun K => He2.einB "WrongKind" K, fun K => He2.excB "Twice" K, fun K => He2.einB "Twice" K, fun K => He2.excB "NoInput" K, fun K => He2.einB "NoInput" K, fun K => mk0B "Way" K, fun K => mk0B "Down" K, fun K => mk0B "Up" K, fun K => mk0B "Cut" K, fun K => mk0B "Near" K, fun K => He.tupB K "WAYS" [.str "down", .str "up", .str "cut", .str "near"], fun K => He.tupB K "HEADS" [.str "width", .str "in", .str "out", .str "plain", .str "signed", .str "point", .str "set", .str "repeat", .str "end"], fun K => He.tupB K "ROUND_DEEDS" [.str "add", .str "sub", .str "low", .str "left"], fun K => He.tupB K "STOP_DEEDS" [.str "addstop", .str "substop", .str "mul"], fun K => He.tupB K "PLAIN_DEEDS" [.str "low", .str "high", .str "rest", .str "over", .str "part"], fun K => He.tupB K "LIKE_DEEDS" [.str "add", .str "sub", .str "addstop", .str "substop", .str "less", .str "same"], fun K => !decide (He.ga K "Kind" = He.ga K "Plain"), fun K => !decide (He.ga K "Kind" = He.ga K "Signed"), fun K => !decide (He.ga K "Kind" = He.ga K "Pointed"), fun K => !decide (He.ga K "Kind" = He.ga K "Row"), fun K => !decide (He.ga K "Kind" = He.ga K "Repeat"), fun K => !decide (He.ga K "Kind" = He.ga K "Draft"), fun K => !decide (He.ga K "Kind" = He.ga K "Way"), fun K => !decide (He.ga K "Kind" = He.ga K "Down"), fun K => !decide (He.ga K "Kind" = He.ga K "Up"), fun K => !decide (He.ga K "Kind" = He.ga K "Cut"), fun K => !decide (He.ga K "Kind" = He.ga K "Near"), fun K => !decide (He.ga K "Kind" = He.ga K "Running"), fun K => !decide (He.ga K "Kind" = He.ga K "Program"), fun K => !decide (He.ga K "Plain" = He.ga K "Signed"), fun K => !decide (He.ga K "Plain" = He.ga K "Pointed"), fun K => !decide (He.ga K "Plain" = He.ga K "Row"), fun K => !decide (He.ga K "Plain" = He.ga K "Repeat"), fun K => !decide (He.ga K "Plain" = He.ga K "Draft"), fun K => !decide (He.ga K "Plain" = He.ga K "Way"), fun K => !decide (He.ga K "Plain" = He.ga K "Down"), fun K => !decide (He.ga K "Plain" = He.ga K "Up"), fun K => !decide (He.ga K "Plain" = He.ga K "Cut"), fun K => !decide (He.ga K "Plain" = He.ga K "Near"), fun K => !decide (He.ga K "Plain" = He.ga K "Running"), fun K => !decide (He.ga K "Plain" = He.ga K "Program"), fun K => !decide (He.ga K "Signed" = He.ga K "Pointed"), fun K => !decide (He.ga K "Signed" = He.ga K "Row"), fun K => !decide (He.ga K "Signed" = He.ga K "Repeat"), fun K => !decide (He.ga K "Signed" = He.ga K "Draft"), fun K => !decide (He.ga K "Signed" = He.ga K "Way"), fun K => !decide (He.ga K "Signed" = He.ga K "Down"), fun K => !decide (He.ga K "Signed" = He.ga K "Up"), fun K => !decide (He.ga K "Signed" = He.ga K "Cut"), fun K => !decide (He.ga K "Signed" = He.ga K "Near"), fun K => !decide (He.ga K "Signed" = He.ga K "Running"), fun K => !decide (He.ga K "Signed" = He.ga K "Program"), fun K => !decide (He.ga K "Pointed" = He.ga K "Row"), fun K => !decide (He.ga K "Pointed" = He.ga K "Repeat"), fun K => !decide (He.ga K "Pointed" = He.ga K "Draft"), fun K => !decide (He.ga K "Pointed" = He.ga K "Way"), fun K => !decide (He.ga K "Pointed" = He.ga K "Down"), fun K => !decide (He.ga K "Pointed" = He.ga K "Up"), fun K => !decide (He.ga K "Pointed" = He.ga K "Cut"), fun K => !decide (He.ga K "Pointed" = He.ga K "Near"), fun K => !decide (He.ga K "Pointed" = He.ga K "Running"), fun K => !decide (He.ga K "Pointed" = He.ga K "Program"), fun K => !decide (He.ga K "Row" = He.ga K "Repeat"), fun K => !decide (He.ga K "Row" = He.ga K "Draft"), fun K => !decide (He.ga K "Row" = He.ga K "Way"), fun K => !decide (He.ga K "Row" = He.ga K "Down"), fun K => !decide (He.ga K "Row" = He.ga K "Up"), fun K => !decide (He.ga K "Row" = He.ga K "Cut"), fun K => !decide (He.ga K "Row" = He.ga K "Near"), fun K => !decide (He.ga K "Row" = He.ga K "Running"), fun K => !decide (He.ga K "Row" = He.ga K "Program"), fun K => !decide (He.ga K "Repeat" = He.ga K "Draft"), fun K => !decide (He.ga K "Repeat" = He.ga K "Way"), fun K => !decide (He.ga K "Repeat" = He.ga K "Down"), fun K => !decide (He.ga K "Repeat" = He.ga K "Up"), fun K => !decide (He.ga K "Repeat" = He.ga K "Cut"), fun K => !decide (He.ga K "Repeat" = He.ga K "Near"), fun K => !decide (He.ga K "Repeat" = He.ga K "Running"), fun K => !decide (He.ga K "Repeat" = He.ga K "Program"), fun K => !decide (He.ga K "Draft" = He.ga K "Way"), fun K => !decide (He.ga K "Draft" = He.ga K "Down"), fun K => !decide (He.ga K "Draft" = He.ga K "Up"), fun K => !decide (He.ga K "Draft" = He.ga K "Cut"), fun K => !decide (He.ga K "Draft" = He.ga K "Near"), fun K => !decide (He.ga K "Draft" = He.ga K "Running"), fun K => !decide (He.ga K "Draft" = He.ga K "Program"), fun K => !decide (He.ga K "Way" = He.ga K "Down"), fun K => !decide (He.ga K "Way" = He.ga K "Up"), fun K => !decide (He.ga K "Way" = He.ga K "Cut"), fun K => !decide (He.ga K "Way" = He.ga K "Near"), fun K => !decide (He.ga K "Way" = He.ga K "Running"), fun K => !decide (He.ga K "Way" = He.ga K "Program"), fun K => !decide (He.ga K "Down" = He.ga K "Up"), fun K => !decide (He.ga K "Down" = He.ga K "Cut"), fun K => !decide (He.ga K "Down" = He.ga K "Near"), fun K => !decide (He.ga K "Down" = He.ga K "Running"), fun K => !decide (He.ga K "Down" = He.ga K "Program"), fun K => !decide (He.ga K "Up" = He.ga K "Cut"), fun K => !decide (He.ga K "Up" = He.ga K "Near"), fun K => !decide (He.ga K "Up" = He.ga K "Running"), fun K => !decide (He.ga K "Up" = He.ga K "Program"), fun K => !decide (He.ga K "Cut" = He.ga K "Near"), fun K => !decide (He.ga K "Cut" = He.ga K "Running"), fun K => !decide (He.ga K "Cut" = He.ga K "Program"), fun K => !decide (He.ga K "Near" = He.ga K "Running"), fun K => !decide (He.ga K "Near" = He.ga K "Program"), fun K => !decide (He.ga K "Running" = He.ga K "Program"), fun K => He2.catB "WiseError" "__init__" (He2.vBlt "ValueError.__init__") K, fun K => He2.catB "Kind" "__init__" (He2.vDef "Kind" "__init__") K, fun K => He2.isiB "NoInput" K, fun K => He2.kitB "NoInput" "NoInput" true K, fun K => He2.isiB "Kind" K, fun K => He2.kitB "Kind" "Repeat" false K, fun K => He2.isiB "Plain" K, fun K => He2.kitB "Plain" "Repeat" false K, fun K => He2.isiB "Signed" K, fun K => He2.kitB "Signed" "Repeat" false K, fun K => He2.isiB "Pointed" K, fun K => He2.kitB "Pointed" "Repeat" false K, fun K => He2.isiB "Row" K, fun K => He2.kitB "Row" "Repeat" false K, fun K => He2.isiB "Repeat" K, fun K => He2.kitB "Repeat" "Repeat" true K, fun K => He2.isiB "Draft" K, fun K => He2.kitB "Draft" "Repeat" false K, fun K => He2.isiB "Way" K, fun K => He2.kitB "Way" "Repeat" false K, fun K => He2.isiB "Down" K, fun K => He2.kitB "Down" "Repeat" false K, fun K => He2.isiB "Up" K, fun K => He2.kitB "Up" "Repeat" false K, fun K => He2.isiB "Cut" K, fun K => He2.kitB "Cut" "Repeat" false K, fun K => He2.isiB "Near" K, fun K => He2.kitB "Near" "Repeat" false K, fun K => He2.isiB "Running" K, fun K => He2.kitB "Running" "Repeat" false K, fun K => He2.isiB "Program" K, fun K => He2.kitB "Program" "Repeat" false K]
def exB (K : PySem.W.Frag) : Bool := exL.all fun f => f K
def loose0 : List PySem.Str := ["_wall", "WiseError", "NoWidth", "NoWord", "NoKind", "NoText", "NoWay", "NoProgram", "TooMuch", "Unknown", "WrongKind", "Twice", "NoInput", "LEAST_WIDTH", "GREATEST_WIDTH", "is_whole", "need_width", "are_signs", "LONGEST_SHOWN", "Kind", "Plain", "Signed", "Pointed", "same_kind", "MOST_LINES", "MOST_NAMES", "DEEPEST", "MOST_TURNS", "LONGEST_NAME", "LONGEST_NUMBER"]
def loose1 : List PySem.Str := ["WAYS", "HEADS", "Row", "Repeat", "form_of", "is_name", "number_in", "kind_in", "bits_shown", "taken", "Draft", "read_lines", "Way", "Down", "Up", "Cut", "Near", "all_ways", "way_of", "ROUND_DEEDS", "STOP_DEEDS", "summed", "moved", "reckoned", "worked", "Running", "ran", "run", "trace", "MOST_RUN"]
def loose2 : List PySem.Str := ["PLAIN_DEEDS", "LIKE_DEEDS", "kind_words", "count_rows", "Program", "read_program", "_law_cell", "_law_box", "_law_take", "_law_bits", "_law_spec", "_law_kind_words", "_law_told", "_law_odd", "_law_spoilt", "_law_good"]
def looseL : List PySem.Str := loose0 ++ loose1 ++ loose2
def lawI : Nat := 84
abbrev hk : PySem.W.Hook := He2.hookM faL fnL exB
def ob (s : PySem.W.SharedT) : He2.AlM := He2.obsMG faL fnL exB (HandSHeadRun.getT s)
theorem ob_eq (s : PySem.W.SharedT) : ob s = hk.obs s.abs := He2.obsMG_eq (HandSHeadRun.getT_eq s)
theorem run (w : World) : HandSHeadRun.RunEq R (PySem.W.view R.prog [84]) hk ob 60000 looseL w := by
  intro os
  kernel_rfl
/-! ### the facts by their names -/
structure Tx (K : PySem.W.Frag) (mg : Str → Option Value) : Prop where
  c : He2.SaysM faL fnL exB K
  h : ∃ h : Heap, K.In h ∧ h.Ns mainGlobals mg
section
variable {K : PySem.W.Frag} {mg : Str → Option Value}
theorem Tx.fa (T : Tx K mg) (i : Nat) {f : He.Fa} (e : faL[i]? = some f := by rfl) : f.ok K = true := T.c.1.fact i e
theorem Tx.glo (T : Tx K mg) (i : Nat) {x : Str} (e : faL[i]? = some (.glo x) := by rfl) : mg x = some (.ref (He.ga K x)) := by
  obtain ⟨h, X, G⟩ := T.h
  exact He.glo_ok X G (T.fa i e)
theorem Tx.free (T : Tx K mg) (i : Nat) {x : Str} (e : faL[i]? = some (.free x) := by rfl) : mg x = none := by
  obtain ⟨h, X, G⟩ := T.h
  exact He.free_ok X G (T.fa i e)
theorem Tx.int (T : Tx K mg) (i : Nat) {x : Str} {n : Int} (e : faL[i]? = some (.int x n) := by rfl) : ∃ t, mg x = some (.int n t) := by
  obtain ⟨h, X, G⟩ := T.h
  exact He.int_ok X G (T.fa i e)
theorem Tx.ex (T : Tx K mg) (i : Nat) {f : PySem.W.Frag → Bool} (e : exL[i]? = some f := by rfl) : f K = true := List.all_eq_true.mp (show (exL.all fun f => f K) = true from T.c.2) f (List.mem_of_getElem? e)
theorem Tx.def_ (T : Tx K mg) (i : Nat) {d : He.DefD} (e : fnL[i]? = some d := by rfl) : ∃ fd, FunD K d.name d.qual d.params d.body d.scope (d.dvs K) (d.kws K) (He.fAd K d.at_) fd := T.c.1.def_ i e
theorem g__wall (T : Tx K mg) : mg "_wall" = some (.ref (He.ga K "_wall")) := T.glo 0
theorem g_is_whole (T : Tx K mg) : mg "is_whole" = some (.ref (He.ga K "is_whole")) := T.glo 1
theorem g_need_width (T : Tx K mg) : mg "need_width" = some (.ref (He.ga K "need_width")) := T.glo 2
theorem g_are_signs (T : Tx K mg) : mg "are_signs" = some (.ref (He.ga K "are_signs")) := T.glo 3
theorem g_same_kind (T : Tx K mg) : mg "same_kind" = some (.ref (He.ga K "same_kind")) := T.glo 4
theorem g_form_of (T : Tx K mg) : mg "form_of" = some (.ref (He.ga K "form_of")) := T.glo 5
theorem g_is_name (T : Tx K mg) : mg "is_name" = some (.ref (He.ga K "is_name")) := T.glo 6
theorem g_number_in (T : Tx K mg) : mg "number_in" = some (.ref (He.ga K "number_in")) := T.glo 7
theorem g_kind_in (T : Tx K mg) : mg "kind_in" = some (.ref (He.ga K "kind_in")) := T.glo 8
theorem g_bits_shown (T : Tx K mg) : mg "bits_shown" = some (.ref (He.ga K "bits_shown")) := T.glo 9
theorem g_taken (T : Tx K mg) : mg "taken" = some (.ref (He.ga K "taken")) := T.glo 10
theorem g_read_lines (T : Tx K mg) : mg "read_lines" = some (.ref (He.ga K "read_lines")) := T.glo 11
theorem g_all_ways (T : Tx K mg) : mg "all_ways" = some (.ref (He.ga K "all_ways")) := T.glo 12
theorem g_way_of (T : Tx K mg) : mg "way_of" = some (.ref (He.ga K "way_of")) := T.glo 13
theorem g_summed (T : Tx K mg) : mg "summed" = some (.ref (He.ga K "summed")) := T.glo 14
theorem g_moved (T : Tx K mg) : mg "moved" = some (.ref (He.ga K "moved")) := T.glo 15
theorem g_reckoned (T : Tx K mg) : mg "reckoned" = some (.ref (He.ga K "reckoned")) := T.glo 16
theorem g_worked (T : Tx K mg) : mg "worked" = some (.ref (He.ga K "worked")) := T.glo 17
theorem g_ran (T : Tx K mg) : mg "ran" = some (.ref (He.ga K "ran")) := T.glo 18
theorem g_run (T : Tx K mg) : mg "run" = some (.ref (He.ga K "run")) := T.glo 19
theorem g_trace (T : Tx K mg) : mg "trace" = some (.ref (He.ga K "trace")) := T.glo 20
theorem g_kind_words (T : Tx K mg) : mg "kind_words" = some (.ref (He.ga K "kind_words")) := T.glo 21
theorem g_count_rows (T : Tx K mg) : mg "count_rows" = some (.ref (He.ga K "count_rows")) := T.glo 22
theorem g_read_program (T : Tx K mg) : mg "read_program" = some (.ref (He.ga K "read_program")) := T.glo 23
theorem g__law_cell (T : Tx K mg) : mg "_law_cell" = some (.ref (He.ga K "_law_cell")) := T.glo 24
theorem g__law_box (T : Tx K mg) : mg "_law_box" = some (.ref (He.ga K "_law_box")) := T.glo 25
theorem g__law_take (T : Tx K mg) : mg "_law_take" = some (.ref (He.ga K "_law_take")) := T.glo 26
theorem g__law_bits (T : Tx K mg) : mg "_law_bits" = some (.ref (He.ga K "_law_bits")) := T.glo 27
theorem g__law_spec (T : Tx K mg) : mg "_law_spec" = some (.ref (He.ga K "_law_spec")) := T.glo 28
theorem g__law_kind_words (T : Tx K mg) : mg "_law_kind_words" = some (.ref (He.ga K "_law_kind_words")) := T.glo 29
theorem g__law_told (T : Tx K mg) : mg "_law_told" = some (.ref (He.ga K "_law_told")) := T.glo 30
theorem g__law_odd (T : Tx K mg) : mg "_law_odd" = some (.ref (He.ga K "_law_odd")) := T.glo 31
theorem g__law_spoilt (T : Tx K mg) : mg "_law_spoilt" = some (.ref (He.ga K "_law_spoilt")) := T.glo 32
theorem g__law_good (T : Tx K mg) : mg "_law_good" = some (.ref (He.ga K "_law_good")) := T.glo 33
theorem g_law (T : Tx K mg) : mg "law" = some (.ref (He.ga K "law")) := T.glo 34
theorem g_WiseError (T : Tx K mg) : mg "WiseError" = some (.ref (He.ga K "WiseError")) := T.glo 35
theorem kp_WiseError (T : Tx K mg) : PySem.W.keepIn K (.ref (He.ga K "WiseError")) = true := He.keep_ok (T.fa 36)
theorem g_NoWidth (T : Tx K mg) : mg "NoWidth" = some (.ref (He.ga K "NoWidth")) := T.glo 37
theorem kp_NoWidth (T : Tx K mg) : PySem.W.keepIn K (.ref (He.ga K "NoWidth")) = true := He.keep_ok (T.fa 38)
theorem na_NoWidth_found (T : Tx K mg) : NoAttr K (He.ga K "NoWidth") "found" := He.noat_ok (T.fa 39)
theorem g_NoWord (T : Tx K mg) : mg "NoWord" = some (.ref (He.ga K "NoWord")) := T.glo 40
theorem kp_NoWord (T : Tx K mg) : PySem.W.keepIn K (.ref (He.ga K "NoWord")) = true := He.keep_ok (T.fa 41)
theorem na_NoWord_found (T : Tx K mg) : NoAttr K (He.ga K "NoWord") "found" := He.noat_ok (T.fa 42)
theorem g_NoKind (T : Tx K mg) : mg "NoKind" = some (.ref (He.ga K "NoKind")) := T.glo 43
theorem kp_NoKind (T : Tx K mg) : PySem.W.keepIn K (.ref (He.ga K "NoKind")) = true := He.keep_ok (T.fa 44)
theorem na_NoKind_found (T : Tx K mg) : NoAttr K (He.ga K "NoKind") "found" := He.noat_ok (T.fa 45)
theorem g_NoText (T : Tx K mg) : mg "NoText" = some (.ref (He.ga K "NoText")) := T.glo 46
theorem kp_NoText (T : Tx K mg) : PySem.W.keepIn K (.ref (He.ga K "NoText")) = true := He.keep_ok (T.fa 47)
theorem na_NoText_found (T : Tx K mg) : NoAttr K (He.ga K "NoText") "found" := He.noat_ok (T.fa 48)
theorem g_NoWay (T : Tx K mg) : mg "NoWay" = some (.ref (He.ga K "NoWay")) := T.glo 49
theorem kp_NoWay (T : Tx K mg) : PySem.W.keepIn K (.ref (He.ga K "NoWay")) = true := He.keep_ok (T.fa 50)
theorem na_NoWay_found (T : Tx K mg) : NoAttr K (He.ga K "NoWay") "found" := He.noat_ok (T.fa 51)
theorem g_NoProgram (T : Tx K mg) : mg "NoProgram" = some (.ref (He.ga K "NoProgram")) := T.glo 52
theorem kp_NoProgram (T : Tx K mg) : PySem.W.keepIn K (.ref (He.ga K "NoProgram")) = true := He.keep_ok (T.fa 53)
theorem na_NoProgram_line (T : Tx K mg) : NoAttr K (He.ga K "NoProgram") "line" := He.noat_ok (T.fa 54)
theorem g_TooMuch (T : Tx K mg) : mg "TooMuch" = some (.ref (He.ga K "TooMuch")) := T.glo 55
theorem kp_TooMuch (T : Tx K mg) : PySem.W.keepIn K (.ref (He.ga K "TooMuch")) = true := He.keep_ok (T.fa 56)
theorem na_TooMuch_line (T : Tx K mg) : NoAttr K (He.ga K "TooMuch") "line" := He.noat_ok (T.fa 57)
theorem g_Unknown (T : Tx K mg) : mg "Unknown" = some (.ref (He.ga K "Unknown")) := T.glo 58
theorem kp_Unknown (T : Tx K mg) : PySem.W.keepIn K (.ref (He.ga K "Unknown")) = true := He.keep_ok (T.fa 59)
theorem na_Unknown_line (T : Tx K mg) : NoAttr K (He.ga K "Unknown") "line" := He.noat_ok (T.fa 60)
theorem na_Unknown_name (T : Tx K mg) : NoAttr K (He.ga K "Unknown") "name" := He.noat_ok (T.fa 61)
theorem g_WrongKind (T : Tx K mg) : mg "WrongKind" = some (.ref (He.ga K "WrongKind")) := T.glo 62
theorem kp_WrongKind (T : Tx K mg) : PySem.W.keepIn K (.ref (He.ga K "WrongKind")) = true := He.keep_ok (T.fa 63)
theorem na_WrongKind_line (T : Tx K mg) : NoAttr K (He.ga K "WrongKind") "line" := He.noat_ok (T.fa 64)
theorem na_WrongKind_name (T : Tx K mg) : NoAttr K (He.ga K "WrongKind") "name" := He.noat_ok (T.fa 65)
theorem g_Twice (T : Tx K mg) : mg "Twice" = some (.ref (He.ga K "Twice")) := T.glo 66
theorem kp_Twice (T : Tx K mg) : PySem.W.keepIn K (.ref (He.ga K "Twice")) = true := He.keep_ok (T.fa 67)
theorem na_Twice_line (T : Tx K mg) : NoAttr K (He.ga K "Twice") "line" := He.noat_ok (T.fa 68)
theorem na_Twice_name (T : Tx K mg) : NoAttr K (He.ga K "Twice") "name" := He.noat_ok (T.fa 69)
theorem g_NoInput (T : Tx K mg) : mg "NoInput" = some (.ref (He.ga K "NoInput")) := T.glo 70
theorem kp_NoInput (T : Tx K mg) : PySem.W.keepIn K (.ref (He.ga K "NoInput")) = true := He.keep_ok (T.fa 71)
theorem na_NoInput_name (T : Tx K mg) : NoAttr K (He.ga K "NoInput") "name" := He.noat_ok (T.fa 72)
theorem g_Kind (T : Tx K mg) : mg "Kind" = some (.ref (He.ga K "Kind")) := T.glo 73
theorem kp_Kind (T : Tx K mg) : PySem.W.keepIn K (.ref (He.ga K "Kind")) = true := He.keep_ok (T.fa 74)
theorem c_Kind (T : Tx K mg) : Cls K (He.ga K "Kind") := He.cls_ok (T.fa 75)
theorem mk_Kind (T : Tx K mg) : Mk K (He.ga K "Kind") (He.ma K (He.ga K "Kind") "__init__") := He.mkr_ok (T.fa 76)
theorem na_Kind_width (T : Tx K mg) : NoAttr K (He.ga K "Kind") "width" := He.noat_ok (T.fa 77)
theorem na_Kind_point (T : Tx K mg) : NoAttr K (He.ga K "Kind") "point" := He.noat_ok (T.fa 78)
theorem m_Kind_word (T : Tx K mg) : Meth K (He.ga K "Kind") "word" (He.ma K (He.ga K "Kind") "word") := He.meth_ok (T.fa 79)
theorem m_Kind_least (T : Tx K mg) : Meth K (He.ga K "Kind") "least" (He.ma K (He.ga K "Kind") "least") := He.meth_ok (T.fa 80)
theorem m_Kind_greatest (T : Tx K mg) : Meth K (He.ga K "Kind") "greatest" (He.ma K (He.ga K "Kind") "greatest") := He.meth_ok (T.fa 81)
theorem m_Kind_is_count (T : Tx K mg) : Meth K (He.ga K "Kind") "is_count" (He.ma K (He.ga K "Kind") "is_count") := He.meth_ok (T.fa 82)
theorem m_Kind_count_of (T : Tx K mg) : Meth K (He.ga K "Kind") "count_of" (He.ma K (He.ga K "Kind") "count_of") := He.meth_ok (T.fa 83)
theorem m_Kind_bits_of (T : Tx K mg) : Meth K (He.ga K "Kind") "bits_of" (He.ma K (He.ga K "Kind") "bits_of") := He.meth_ok (T.fa 84)
theorem m_Kind_value_of (T : Tx K mg) : Meth K (He.ga K "Kind") "value_of" (He.ma K (He.ga K "Kind") "value_of") := He.meth_ok (T.fa 85)
theorem m_Kind_go_round (T : Tx K mg) : Meth K (He.ga K "Kind") "go_round" (He.ma K (He.ga K "Kind") "go_round") := He.meth_ok (T.fa 86)
theorem m_Kind_stop_at (T : Tx K mg) : Meth K (He.ga K "Kind") "stop_at" (He.ma K (He.ga K "Kind") "stop_at") := He.meth_ok (T.fa 87)
theorem m_Kind_shown (T : Tx K mg) : Meth K (He.ga K "Kind") "shown" (He.ma K (He.ga K "Kind") "shown") := He.meth_ok (T.fa 88)
theorem m_Kind_read (T : Tx K mg) : Meth K (He.ga K "Kind") "read" (He.ma K (He.ga K "Kind") "read") := He.meth_ok (T.fa 89)
theorem g_Plain (T : Tx K mg) : mg "Plain" = some (.ref (He.ga K "Plain")) := T.glo 90
theorem kp_Plain (T : Tx K mg) : PySem.W.keepIn K (.ref (He.ga K "Plain")) = true := He.keep_ok (T.fa 91)
theorem c_Plain (T : Tx K mg) : Cls K (He.ga K "Plain") := He.cls_ok (T.fa 92)
theorem mk_Plain (T : Tx K mg) : Mk K (He.ga K "Plain") (He.ma K (He.ga K "Plain") "__init__") := He.mkr_ok (T.fa 93)
theorem na_Plain_width (T : Tx K mg) : NoAttr K (He.ga K "Plain") "width" := He.noat_ok (T.fa 94)
theorem na_Plain_point (T : Tx K mg) : NoAttr K (He.ga K "Plain") "point" := He.noat_ok (T.fa 95)
theorem m_Plain_word (T : Tx K mg) : Meth K (He.ga K "Plain") "word" (He.ma K (He.ga K "Plain") "word") := He.meth_ok (T.fa 96)
theorem m_Plain_least (T : Tx K mg) : Meth K (He.ga K "Plain") "least" (He.ma K (He.ga K "Plain") "least") := He.meth_ok (T.fa 97)
theorem m_Plain_greatest (T : Tx K mg) : Meth K (He.ga K "Plain") "greatest" (He.ma K (He.ga K "Plain") "greatest") := He.meth_ok (T.fa 98)
theorem m_Plain_is_count (T : Tx K mg) : Meth K (He.ga K "Plain") "is_count" (He.ma K (He.ga K "Plain") "is_count") := He.meth_ok (T.fa 99)
theorem m_Plain_count_of (T : Tx K mg) : Meth K (He.ga K "Plain") "count_of" (He.ma K (He.ga K "Plain") "count_of") := He.meth_ok (T.fa 100)
theorem m_Plain_bits_of (T : Tx K mg) : Meth K (He.ga K "Plain") "bits_of" (He.ma K (He.ga K "Plain") "bits_of") := He.meth_ok (T.fa 101)
theorem m_Plain_value_of (T : Tx K mg) : Meth K (He.ga K "Plain") "value_of" (He.ma K (He.ga K "Plain") "value_of") := He.meth_ok (T.fa 102)
theorem m_Plain_go_round (T : Tx K mg) : Meth K (He.ga K "Plain") "go_round" (He.ma K (He.ga K "Plain") "go_round") := He.meth_ok (T.fa 103)
theorem m_Plain_stop_at (T : Tx K mg) : Meth K (He.ga K "Plain") "stop_at" (He.ma K (He.ga K "Plain") "stop_at") := He.meth_ok (T.fa 104)
theorem m_Plain_shown (T : Tx K mg) : Meth K (He.ga K "Plain") "shown" (He.ma K (He.ga K "Plain") "shown") := He.meth_ok (T.fa 105)
theorem m_Plain_read (T : Tx K mg) : Meth K (He.ga K "Plain") "read" (He.ma K (He.ga K "Plain") "read") := He.meth_ok (T.fa 106)
theorem g_Signed (T : Tx K mg) : mg "Signed" = some (.ref (He.ga K "Signed")) := T.glo 107
theorem kp_Signed (T : Tx K mg) : PySem.W.keepIn K (.ref (He.ga K "Signed")) = true := He.keep_ok (T.fa 108)
theorem c_Signed (T : Tx K mg) : Cls K (He.ga K "Signed") := He.cls_ok (T.fa 109)
theorem mk_Signed (T : Tx K mg) : Mk K (He.ga K "Signed") (He.ma K (He.ga K "Signed") "__init__") := He.mkr_ok (T.fa 110)
theorem na_Signed_width (T : Tx K mg) : NoAttr K (He.ga K "Signed") "width" := He.noat_ok (T.fa 111)
theorem na_Signed_point (T : Tx K mg) : NoAttr K (He.ga K "Signed") "point" := He.noat_ok (T.fa 112)
theorem m_Signed_word (T : Tx K mg) : Meth K (He.ga K "Signed") "word" (He.ma K (He.ga K "Signed") "word") := He.meth_ok (T.fa 113)
theorem m_Signed_least (T : Tx K mg) : Meth K (He.ga K "Signed") "least" (He.ma K (He.ga K "Signed") "least") := He.meth_ok (T.fa 114)
theorem m_Signed_greatest (T : Tx K mg) : Meth K (He.ga K "Signed") "greatest" (He.ma K (He.ga K "Signed") "greatest") := He.meth_ok (T.fa 115)
theorem m_Signed_is_count (T : Tx K mg) : Meth K (He.ga K "Signed") "is_count" (He.ma K (He.ga K "Signed") "is_count") := He.meth_ok (T.fa 116)
theorem m_Signed_count_of (T : Tx K mg) : Meth K (He.ga K "Signed") "count_of" (He.ma K (He.ga K "Signed") "count_of") := He.meth_ok (T.fa 117)
theorem m_Signed_bits_of (T : Tx K mg) : Meth K (He.ga K "Signed") "bits_of" (He.ma K (He.ga K "Signed") "bits_of") := He.meth_ok (T.fa 118)
theorem m_Signed_value_of (T : Tx K mg) : Meth K (He.ga K "Signed") "value_of" (He.ma K (He.ga K "Signed") "value_of") := He.meth_ok (T.fa 119)
theorem m_Signed_go_round (T : Tx K mg) : Meth K (He.ga K "Signed") "go_round" (He.ma K (He.ga K "Signed") "go_round") := He.meth_ok (T.fa 120)
theorem m_Signed_stop_at (T : Tx K mg) : Meth K (He.ga K "Signed") "stop_at" (He.ma K (He.ga K "Signed") "stop_at") := He.meth_ok (T.fa 121)
theorem m_Signed_shown (T : Tx K mg) : Meth K (He.ga K "Signed") "shown" (He.ma K (He.ga K "Signed") "shown") := He.meth_ok (T.fa 122)
theorem m_Signed_read (T : Tx K mg) : Meth K (He.ga K "Signed") "read" (He.ma K (He.ga K "Signed") "read") := He.meth_ok (T.fa 123)
theorem g_Pointed (T : Tx K mg) : mg "Pointed" = some (.ref (He.ga K "Pointed")) := T.glo 124
theorem kp_Pointed (T : Tx K mg) : PySem.W.keepIn K (.ref (He.ga K "Pointed")) = true := He.keep_ok (T.fa 125)
theorem c_Pointed (T : Tx K mg) : Cls K (He.ga K "Pointed") := He.cls_ok (T.fa 126)
theorem mk_Pointed (T : Tx K mg) : Mk K (He.ga K "Pointed") (He.ma K (He.ga K "Pointed") "__init__") := He.mkr_ok (T.fa 127)
theorem na_Pointed_width (T : Tx K mg) : NoAttr K (He.ga K "Pointed") "width" := He.noat_ok (T.fa 128)
theorem na_Pointed_point (T : Tx K mg) : NoAttr K (He.ga K "Pointed") "point" := He.noat_ok (T.fa 129)
theorem m_Pointed_word (T : Tx K mg) : Meth K (He.ga K "Pointed") "word" (He.ma K (He.ga K "Pointed") "word") := He.meth_ok (T.fa 130)
theorem m_Pointed_least (T : Tx K mg) : Meth K (He.ga K "Pointed") "least" (He.ma K (He.ga K "Pointed") "least") := He.meth_ok (T.fa 131)
theorem m_Pointed_greatest (T : Tx K mg) : Meth K (He.ga K "Pointed") "greatest" (He.ma K (He.ga K "Pointed") "greatest") := He.meth_ok (T.fa 132)
theorem m_Pointed_is_count (T : Tx K mg) : Meth K (He.ga K "Pointed") "is_count" (He.ma K (He.ga K "Pointed") "is_count") := He.meth_ok (T.fa 133)
theorem m_Pointed_count_of (T : Tx K mg) : Meth K (He.ga K "Pointed") "count_of" (He.ma K (He.ga K "Pointed") "count_of") := He.meth_ok (T.fa 134)
theorem m_Pointed_bits_of (T : Tx K mg) : Meth K (He.ga K "Pointed") "bits_of" (He.ma K (He.ga K "Pointed") "bits_of") := He.meth_ok (T.fa 135)
theorem m_Pointed_value_of (T : Tx K mg) : Meth K (He.ga K "Pointed") "value_of" (He.ma K (He.ga K "Pointed") "value_of") := He.meth_ok (T.fa 136)
theorem m_Pointed_go_round (T : Tx K mg) : Meth K (He.ga K "Pointed") "go_round" (He.ma K (He.ga K "Pointed") "go_round") := He.meth_ok (T.fa 137)
theorem m_Pointed_stop_at (T : Tx K mg) : Meth K (He.ga K "Pointed") "stop_at" (He.ma K (He.ga K "Pointed") "stop_at") := He.meth_ok (T.fa 138)
theorem m_Pointed_shown (T : Tx K mg) : Meth K (He.ga K "Pointed") "shown" (He.ma K (He.ga K "Pointed") "shown") := He.meth_ok (T.fa 139)
theorem m_Pointed_read (T : Tx K mg) : Meth K (He.ga K "Pointed") "read" (He.ma K (He.ga K "Pointed") "read") := He.meth_ok (T.fa 140)
theorem g_Row (T : Tx K mg) : mg "Row" = some (.ref (He.ga K "Row")) := T.glo 141
theorem kp_Row (T : Tx K mg) : PySem.W.keepIn K (.ref (He.ga K "Row")) = true := He.keep_ok (T.fa 142)
theorem c_Row (T : Tx K mg) : Cls K (He.ga K "Row") := He.cls_ok (T.fa 143)
theorem mk_Row (T : Tx K mg) : Mk K (He.ga K "Row") (He.ma K (He.ga K "Row") "__init__") := He.mkr_ok (T.fa 144)
theorem na_Row_line (T : Tx K mg) : NoAttr K (He.ga K "Row") "line" := He.noat_ok (T.fa 145)
theorem na_Row_deed (T : Tx K mg) : NoAttr K (He.ga K "Row") "deed" := He.noat_ok (T.fa 146)
theorem na_Row_goals (T : Tx K mg) : NoAttr K (He.ga K "Row") "goals" := He.noat_ok (T.fa 147)
theorem na_Row_reads (T : Tx K mg) : NoAttr K (He.ga K "Row") "reads" := He.noat_ok (T.fa 148)
theorem na_Row_numbers (T : Tx K mg) : NoAttr K (He.ga K "Row") "numbers" := He.noat_ok (T.fa 149)
theorem na_Row_way (T : Tx K mg) : NoAttr K (He.ga K "Row") "way" := He.noat_ok (T.fa 150)
theorem g_Repeat (T : Tx K mg) : mg "Repeat" = some (.ref (He.ga K "Repeat")) := T.glo 151
theorem kp_Repeat (T : Tx K mg) : PySem.W.keepIn K (.ref (He.ga K "Repeat")) = true := He.keep_ok (T.fa 152)
theorem c_Repeat (T : Tx K mg) : Cls K (He.ga K "Repeat") := He.cls_ok (T.fa 153)
theorem mk_Repeat (T : Tx K mg) : Mk K (He.ga K "Repeat") (He.ma K (He.ga K "Repeat") "__init__") := He.mkr_ok (T.fa 154)
theorem na_Repeat_line (T : Tx K mg) : NoAttr K (He.ga K "Repeat") "line" := He.noat_ok (T.fa 155)
theorem na_Repeat_times (T : Tx K mg) : NoAttr K (He.ga K "Repeat") "times" := He.noat_ok (T.fa 156)
theorem na_Repeat_rows (T : Tx K mg) : NoAttr K (He.ga K "Repeat") "rows" := He.noat_ok (T.fa 157)
theorem g_Draft (T : Tx K mg) : mg "Draft" = some (.ref (He.ga K "Draft")) := T.glo 158
theorem kp_Draft (T : Tx K mg) : PySem.W.keepIn K (.ref (He.ga K "Draft")) = true := He.keep_ok (T.fa 159)
theorem c_Draft (T : Tx K mg) : Cls K (He.ga K "Draft") := He.cls_ok (T.fa 160)
theorem mk_Draft (T : Tx K mg) : Mk K (He.ga K "Draft") (He.ma K (He.ga K "Draft") "__init__") := He.mkr_ok (T.fa 161)
theorem na_Draft_width (T : Tx K mg) : NoAttr K (He.ga K "Draft") "width" := He.noat_ok (T.fa 162)
theorem na_Draft_inputs (T : Tx K mg) : NoAttr K (He.ga K "Draft") "inputs" := He.noat_ok (T.fa 163)
theorem na_Draft_rows (T : Tx K mg) : NoAttr K (He.ga K "Draft") "rows" := He.noat_ok (T.fa 164)
theorem na_Draft_outs (T : Tx K mg) : NoAttr K (He.ga K "Draft") "outs" := He.noat_ok (T.fa 165)
theorem na_Draft_loops (T : Tx K mg) : NoAttr K (He.ga K "Draft") "loops" := He.noat_ok (T.fa 166)
theorem na_Draft_known (T : Tx K mg) : NoAttr K (He.ga K "Draft") "known" := He.noat_ok (T.fa 167)
theorem na_Draft_chosen (T : Tx K mg) : NoAttr K (He.ga K "Draft") "chosen" := He.noat_ok (T.fa 168)
theorem m_Draft_block (T : Tx K mg) : Meth K (He.ga K "Draft") "block" (He.ma K (He.ga K "Draft") "block") := He.meth_ok (T.fa 169)
theorem m_Draft_take (T : Tx K mg) : Meth K (He.ga K "Draft") "take" (He.ma K (He.ga K "Draft") "take") := He.meth_ok (T.fa 170)
theorem m_Draft_take_width (T : Tx K mg) : Meth K (He.ga K "Draft") "take_width" (He.ma K (He.ga K "Draft") "take_width") := He.meth_ok (T.fa 171)
theorem m_Draft_take_in (T : Tx K mg) : Meth K (He.ga K "Draft") "take_in" (He.ma K (He.ga K "Draft") "take_in") := He.meth_ok (T.fa 172)
theorem m_Draft_take_out (T : Tx K mg) : Meth K (He.ga K "Draft") "take_out" (He.ma K (He.ga K "Draft") "take_out") := He.meth_ok (T.fa 173)
theorem m_Draft_take_repeat (T : Tx K mg) : Meth K (He.ga K "Draft") "take_repeat" (He.ma K (He.ga K "Draft") "take_repeat") := He.meth_ok (T.fa 174)
theorem m_Draft_take_end (T : Tx K mg) : Meth K (He.ga K "Draft") "take_end" (He.ma K (He.ga K "Draft") "take_end") := He.meth_ok (T.fa 175)
theorem m_Draft_take_row (T : Tx K mg) : Meth K (He.ga K "Draft") "take_row" (He.ma K (He.ga K "Draft") "take_row") := He.meth_ok (T.fa 176)
theorem m_Draft_is_great (T : Tx K mg) : Meth K (He.ga K "Draft") "is_great" (He.ma K (He.ga K "Draft") "is_great") := He.meth_ok (T.fa 177)
theorem g_Way (T : Tx K mg) : mg "Way" = some (.ref (He.ga K "Way")) := T.glo 178
theorem kp_Way (T : Tx K mg) : PySem.W.keepIn K (.ref (He.ga K "Way")) = true := He.keep_ok (T.fa 179)
theorem c_Way (T : Tx K mg) : Cls K (He.ga K "Way") := He.cls_ok (T.fa 180)
theorem m_Way_word (T : Tx K mg) : Meth K (He.ga K "Way") "word" (He.ma K (He.ga K "Way") "word") := He.meth_ok (T.fa 181)
theorem m_Way_adjust (T : Tx K mg) : Meth K (He.ga K "Way") "adjust" (He.ma K (He.ga K "Way") "adjust") := He.meth_ok (T.fa 182)
theorem m_Way_most_miss (T : Tx K mg) : Meth K (He.ga K "Way") "most_miss" (He.ma K (He.ga K "Way") "most_miss") := He.meth_ok (T.fa 183)
theorem m_Way_rounded (T : Tx K mg) : Meth K (He.ga K "Way") "rounded" (He.ma K (He.ga K "Way") "rounded") := He.meth_ok (T.fa 184)
theorem g_Down (T : Tx K mg) : mg "Down" = some (.ref (He.ga K "Down")) := T.glo 185
theorem kp_Down (T : Tx K mg) : PySem.W.keepIn K (.ref (He.ga K "Down")) = true := He.keep_ok (T.fa 186)
theorem c_Down (T : Tx K mg) : Cls K (He.ga K "Down") := He.cls_ok (T.fa 187)
theorem m_Down_word (T : Tx K mg) : Meth K (He.ga K "Down") "word" (He.ma K (He.ga K "Down") "word") := He.meth_ok (T.fa 188)
theorem m_Down_adjust (T : Tx K mg) : Meth K (He.ga K "Down") "adjust" (He.ma K (He.ga K "Down") "adjust") := He.meth_ok (T.fa 189)
theorem m_Down_most_miss (T : Tx K mg) : Meth K (He.ga K "Down") "most_miss" (He.ma K (He.ga K "Down") "most_miss") := He.meth_ok (T.fa 190)
theorem m_Down_rounded (T : Tx K mg) : Meth K (He.ga K "Down") "rounded" (He.ma K (He.ga K "Down") "rounded") := He.meth_ok (T.fa 191)
theorem g_Up (T : Tx K mg) : mg "Up" = some (.ref (He.ga K "Up")) := T.glo 192
theorem kp_Up (T : Tx K mg) : PySem.W.keepIn K (.ref (He.ga K "Up")) = true := He.keep_ok (T.fa 193)
theorem c_Up (T : Tx K mg) : Cls K (He.ga K "Up") := He.cls_ok (T.fa 194)
theorem m_Up_word (T : Tx K mg) : Meth K (He.ga K "Up") "word" (He.ma K (He.ga K "Up") "word") := He.meth_ok (T.fa 195)
theorem m_Up_adjust (T : Tx K mg) : Meth K (He.ga K "Up") "adjust" (He.ma K (He.ga K "Up") "adjust") := He.meth_ok (T.fa 196)
theorem m_Up_most_miss (T : Tx K mg) : Meth K (He.ga K "Up") "most_miss" (He.ma K (He.ga K "Up") "most_miss") := He.meth_ok (T.fa 197)
theorem m_Up_rounded (T : Tx K mg) : Meth K (He.ga K "Up") "rounded" (He.ma K (He.ga K "Up") "rounded") := He.meth_ok (T.fa 198)
theorem g_Cut (T : Tx K mg) : mg "Cut" = some (.ref (He.ga K "Cut")) := T.glo 199
theorem kp_Cut (T : Tx K mg) : PySem.W.keepIn K (.ref (He.ga K "Cut")) = true := He.keep_ok (T.fa 200)
theorem c_Cut (T : Tx K mg) : Cls K (He.ga K "Cut") := He.cls_ok (T.fa 201)
theorem m_Cut_word (T : Tx K mg) : Meth K (He.ga K "Cut") "word" (He.ma K (He.ga K "Cut") "word") := He.meth_ok (T.fa 202)
theorem m_Cut_adjust (T : Tx K mg) : Meth K (He.ga K "Cut") "adjust" (He.ma K (He.ga K "Cut") "adjust") := He.meth_ok (T.fa 203)
theorem m_Cut_most_miss (T : Tx K mg) : Meth K (He.ga K "Cut") "most_miss" (He.ma K (He.ga K "Cut") "most_miss") := He.meth_ok (T.fa 204)
theorem m_Cut_rounded (T : Tx K mg) : Meth K (He.ga K "Cut") "rounded" (He.ma K (He.ga K "Cut") "rounded") := He.meth_ok (T.fa 205)
theorem g_Near (T : Tx K mg) : mg "Near" = some (.ref (He.ga K "Near")) := T.glo 206
theorem kp_Near (T : Tx K mg) : PySem.W.keepIn K (.ref (He.ga K "Near")) = true := He.keep_ok (T.fa 207)
theorem c_Near (T : Tx K mg) : Cls K (He.ga K "Near") := He.cls_ok (T.fa 208)
theorem m_Near_word (T : Tx K mg) : Meth K (He.ga K "Near") "word" (He.ma K (He.ga K "Near") "word") := He.meth_ok (T.fa 209)
theorem m_Near_adjust (T : Tx K mg) : Meth K (He.ga K "Near") "adjust" (He.ma K (He.ga K "Near") "adjust") := He.meth_ok (T.fa 210)
theorem m_Near_most_miss (T : Tx K mg) : Meth K (He.ga K "Near") "most_miss" (He.ma K (He.ga K "Near") "most_miss") := He.meth_ok (T.fa 211)
theorem m_Near_rounded (T : Tx K mg) : Meth K (He.ga K "Near") "rounded" (He.ma K (He.ga K "Near") "rounded") := He.meth_ok (T.fa 212)
theorem g_Running (T : Tx K mg) : mg "Running" = some (.ref (He.ga K "Running")) := T.glo 213
theorem kp_Running (T : Tx K mg) : PySem.W.keepIn K (.ref (He.ga K "Running")) = true := He.keep_ok (T.fa 214)
theorem c_Running (T : Tx K mg) : Cls K (He.ga K "Running") := He.cls_ok (T.fa 215)
theorem mk_Running (T : Tx K mg) : Mk K (He.ga K "Running") (He.ma K (He.ga K "Running") "__init__") := He.mkr_ok (T.fa 216)
theorem na_Running_program (T : Tx K mg) : NoAttr K (He.ga K "Running") "program" := He.noat_ok (T.fa 217)
theorem na_Running_bits (T : Tx K mg) : NoAttr K (He.ga K "Running") "bits" := He.noat_ok (T.fa 218)
theorem na_Running_marks (T : Tx K mg) : NoAttr K (He.ga K "Running") "marks" := He.noat_ok (T.fa 219)
theorem na_Running_puts (T : Tx K mg) : NoAttr K (He.ga K "Running") "puts" := He.noat_ok (T.fa 220)
theorem m_Running_go (T : Tx K mg) : Meth K (He.ga K "Running") "go" (He.ma K (He.ga K "Running") "go") := He.meth_ok (T.fa 221)
theorem m_Running_do (T : Tx K mg) : Meth K (He.ga K "Running") "do" (He.ma K (He.ga K "Running") "do") := He.meth_ok (T.fa 222)
theorem m_Running_put (T : Tx K mg) : Meth K (He.ga K "Running") "put" (He.ma K (He.ga K "Running") "put") := He.meth_ok (T.fa 223)
theorem g_Program (T : Tx K mg) : mg "Program" = some (.ref (He.ga K "Program")) := T.glo 224
theorem kp_Program (T : Tx K mg) : PySem.W.keepIn K (.ref (He.ga K "Program")) = true := He.keep_ok (T.fa 225)
theorem c_Program (T : Tx K mg) : Cls K (He.ga K "Program") := He.cls_ok (T.fa 226)
theorem mk_Program (T : Tx K mg) : Mk K (He.ga K "Program") (He.ma K (He.ga K "Program") "__init__") := He.mkr_ok (T.fa 227)
theorem na_Program_width (T : Tx K mg) : NoAttr K (He.ga K "Program") "width" := He.noat_ok (T.fa 228)
theorem na_Program_inputs (T : Tx K mg) : NoAttr K (He.ga K "Program") "inputs" := He.noat_ok (T.fa 229)
theorem na_Program_rows (T : Tx K mg) : NoAttr K (He.ga K "Program") "rows" := He.noat_ok (T.fa 230)
theorem na_Program_outs (T : Tx K mg) : NoAttr K (He.ga K "Program") "outs" := He.noat_ok (T.fa 231)
theorem na_Program_kinds (T : Tx K mg) : NoAttr K (He.ga K "Program") "kinds" := He.noat_ok (T.fa 232)
theorem m_Program_kind_of (T : Tx K mg) : Meth K (He.ga K "Program") "kind_of" (He.ma K (He.ga K "Program") "kind_of") := He.meth_ok (T.fa 233)
theorem m_Program_names (T : Tx K mg) : Meth K (He.ga K "Program") "names" (He.ma K (He.ga K "Program") "names") := He.meth_ok (T.fa 234)
theorem m_Program_rows_run (T : Tx K mg) : Meth K (He.ga K "Program") "rows_run" (He.ma K (He.ga K "Program") "rows_run") := He.meth_ok (T.fa 235)
theorem m_Program_text (T : Tx K mg) : Meth K (He.ga K "Program") "text" (He.ma K (He.ga K "Program") "text") := He.meth_ok (T.fa 236)
theorem m_Program_write (T : Tx K mg) : Meth K (He.ga K "Program") "write" (He.ma K (He.ga K "Program") "write") := He.meth_ok (T.fa 237)
theorem m_Program_words_behind (T : Tx K mg) : Meth K (He.ga K "Program") "words_behind" (He.ma K (He.ga K "Program") "words_behind") := He.meth_ok (T.fa 238)
theorem m_Program_look (T : Tx K mg) : Meth K (He.ga K "Program") "look" (He.ma K (He.ga K "Program") "look") := He.meth_ok (T.fa 239)
theorem m_Program_made_kind (T : Tx K mg) : Meth K (He.ga K "Program") "made_kind" (He.ma K (He.ga K "Program") "made_kind") := He.meth_ok (T.fa 240)
theorem fr_len (T : Tx K mg) : mg "len" = none := T.free 241
theorem fr_isinstance (T : Tx K mg) : mg "isinstance" = none := T.free 242
theorem fr_int (T : Tx K mg) : mg "int" = none := T.free 243
theorem fr_bool (T : Tx K mg) : mg "bool" = none := T.free 244
theorem fr_str (T : Tx K mg) : mg "str" = none := T.free 245
theorem fr_list (T : Tx K mg) : mg "list" = none := T.free 246
theorem fr_dict (T : Tx K mg) : mg "dict" = none := T.free 247
theorem fr_abs (T : Tx K mg) : mg "abs" = none := T.free 248
theorem fr_divmod (T : Tx K mg) : mg "divmod" = none := T.free 249
theorem fr_range (T : Tx K mg) : mg "range" = none := T.free 250
theorem fr_enumerate (T : Tx K mg) : mg "enumerate" = none := T.free 251
theorem fr_zip (T : Tx K mg) : mg "zip" = none := T.free 252
theorem fr_max (T : Tx K mg) : mg "max" = none := T.free 253
theorem fr_min (T : Tx K mg) : mg "min" = none := T.free 254
theorem fr_all (T : Tx K mg) : mg "all" = none := T.free 255
theorem fr_sorted (T : Tx K mg) : mg "sorted" = none := T.free 256
theorem fr_ValueError (T : Tx K mg) : mg "ValueError" = none := T.free 257
theorem i_LEAST_WIDTH (T : Tx K mg) : ∃ t, mg "LEAST_WIDTH" = some (.int 4 t) := T.int 258
theorem i_GREATEST_WIDTH (T : Tx K mg) : ∃ t, mg "GREATEST_WIDTH" = some (.int 32 t) := T.int 259
theorem i_LONGEST_SHOWN (T : Tx K mg) : ∃ t, mg "LONGEST_SHOWN" = some (.int 60 t) := T.int 260
theorem i_MOST_LINES (T : Tx K mg) : ∃ t, mg "MOST_LINES" = some (.int 60 t) := T.int 261
theorem i_MOST_NAMES (T : Tx K mg) : ∃ t, mg "MOST_NAMES" = some (.int 30 t) := T.int 262
theorem i_DEEPEST (T : Tx K mg) : ∃ t, mg "DEEPEST" = some (.int 3 t) := T.int 263
theorem i_MOST_TURNS (T : Tx K mg) : ∃ t, mg "MOST_TURNS" = some (.int 32 t) := T.int 264
theorem i_LONGEST_NAME (T : Tx K mg) : ∃ t, mg "LONGEST_NAME" = some (.int 6 t) := T.int 265
theorem i_LONGEST_NUMBER (T : Tx K mg) : ∃ t, mg "LONGEST_NUMBER" = some (.int 10 t) := T.int 266
theorem g_WAYS (T : Tx K mg) : mg "WAYS" = some (.ref (He.ga K "WAYS")) := T.glo 267
theorem g_HEADS (T : Tx K mg) : mg "HEADS" = some (.ref (He.ga K "HEADS")) := T.glo 268
theorem g_ROUND_DEEDS (T : Tx K mg) : mg "ROUND_DEEDS" = some (.ref (He.ga K "ROUND_DEEDS")) := T.glo 269
theorem g_STOP_DEEDS (T : Tx K mg) : mg "STOP_DEEDS" = some (.ref (He.ga K "STOP_DEEDS")) := T.glo 270
theorem i_MOST_RUN (T : Tx K mg) : ∃ t, mg "MOST_RUN" = some (.int 600 t) := T.int 271
theorem g_PLAIN_DEEDS (T : Tx K mg) : mg "PLAIN_DEEDS" = some (.ref (He.ga K "PLAIN_DEEDS")) := T.glo 272
theorem g_LIKE_DEEDS (T : Tx K mg) : mg "LIKE_DEEDS" = some (.ref (He.ga K "LIKE_DEEDS")) := T.glo 273
theorem xm_NoWidth_NoText (T : Tx K mg) : PySem.W.exmOne K (.ref (He.ga K "NoWidth")) (.ref (He.ga K "NoText")) = some false := He.exm_ok (T.fa 274)
theorem xm_NoWord_NoText (T : Tx K mg) : PySem.W.exmOne K (.ref (He.ga K "NoWord")) (.ref (He.ga K "NoText")) = some false := He.exm_ok (T.fa 275)
theorem xm_NoKind_NoText (T : Tx K mg) : PySem.W.exmOne K (.ref (He.ga K "NoKind")) (.ref (He.ga K "NoText")) = some false := He.exm_ok (T.fa 276)
theorem xm_NoText_NoText (T : Tx K mg) : PySem.W.exmOne K (.ref (He.ga K "NoText")) (.ref (He.ga K "NoText")) = some true := He.exm_ok (T.fa 277)
theorem xm_NoWay_NoText (T : Tx K mg) : PySem.W.exmOne K (.ref (He.ga K "NoWay")) (.ref (He.ga K "NoText")) = some false := He.exm_ok (T.fa 278)
theorem xm_NoProgram_NoText (T : Tx K mg) : PySem.W.exmOne K (.ref (He.ga K "NoProgram")) (.ref (He.ga K "NoText")) = some false := He.exm_ok (T.fa 279)
theorem xm_TooMuch_NoText (T : Tx K mg) : PySem.W.exmOne K (.ref (He.ga K "TooMuch")) (.ref (He.ga K "NoText")) = some false := He.exm_ok (T.fa 280)
theorem xm_Unknown_NoText (T : Tx K mg) : PySem.W.exmOne K (.ref (He.ga K "Unknown")) (.ref (He.ga K "NoText")) = some false := He.exm_ok (T.fa 281)
theorem xm_WrongKind_NoText (T : Tx K mg) : PySem.W.exmOne K (.ref (He.ga K "WrongKind")) (.ref (He.ga K "NoText")) = some false := He.exm_ok (T.fa 282)
theorem xm_Twice_NoText (T : Tx K mg) : PySem.W.exmOne K (.ref (He.ga K "Twice")) (.ref (He.ga K "NoText")) = some false := He.exm_ok (T.fa 283)
theorem xm_NoInput_NoText (T : Tx K mg) : PySem.W.exmOne K (.ref (He.ga K "NoInput")) (.ref (He.ga K "NoText")) = some false := He.exm_ok (T.fa 284)
theorem xm_NoWidth_WiseError (T : Tx K mg) : PySem.W.exmOne K (.ref (He.ga K "NoWidth")) (.ref (He.ga K "WiseError")) = some true := He.exm_ok (T.fa 285)
theorem xm_NoWord_WiseError (T : Tx K mg) : PySem.W.exmOne K (.ref (He.ga K "NoWord")) (.ref (He.ga K "WiseError")) = some true := He.exm_ok (T.fa 286)
theorem xm_NoKind_WiseError (T : Tx K mg) : PySem.W.exmOne K (.ref (He.ga K "NoKind")) (.ref (He.ga K "WiseError")) = some true := He.exm_ok (T.fa 287)
theorem xm_NoText_WiseError (T : Tx K mg) : PySem.W.exmOne K (.ref (He.ga K "NoText")) (.ref (He.ga K "WiseError")) = some true := He.exm_ok (T.fa 288)
theorem xm_NoWay_WiseError (T : Tx K mg) : PySem.W.exmOne K (.ref (He.ga K "NoWay")) (.ref (He.ga K "WiseError")) = some true := He.exm_ok (T.fa 289)
theorem xm_NoProgram_WiseError (T : Tx K mg) : PySem.W.exmOne K (.ref (He.ga K "NoProgram")) (.ref (He.ga K "WiseError")) = some true := He.exm_ok (T.fa 290)
theorem xm_TooMuch_WiseError (T : Tx K mg) : PySem.W.exmOne K (.ref (He.ga K "TooMuch")) (.ref (He.ga K "WiseError")) = some true := He.exm_ok (T.fa 291)
theorem xm_Unknown_WiseError (T : Tx K mg) : PySem.W.exmOne K (.ref (He.ga K "Unknown")) (.ref (He.ga K "WiseError")) = some true := He.exm_ok (T.fa 292)
theorem xm_WrongKind_WiseError (T : Tx K mg) : PySem.W.exmOne K (.ref (He.ga K "WrongKind")) (.ref (He.ga K "WiseError")) = some true := He.exm_ok (T.fa 293)
theorem xm_Twice_WiseError (T : Tx K mg) : PySem.W.exmOne K (.ref (He.ga K "Twice")) (.ref (He.ga K "WiseError")) = some true := He.exm_ok (T.fa 294)
theorem xm_NoInput_WiseError (T : Tx K mg) : PySem.W.exmOne K (.ref (He.ga K "NoInput")) (.ref (He.ga K "WiseError")) = some true := He.exm_ok (T.fa 295)
theorem xc_WiseError (T : Tx K mg) : He2.ExcC K (He.ga K "WiseError") := He2.exc_ok (T.ex 0)
theorem xc_NoWidth (T : Tx K mg) : He2.ExcC K (He.ga K "NoWidth") := He2.exc_ok (T.ex 1)
theorem xi_NoWidth (T : Tx K mg) : PySem.W.findIn K (.ref (He.ga K "NoWidth")) "__init__" = some (some (.ref (He.ma K (He.ga K "NoWidth") "__init__"))) ∧ PySem.W.typeIn K (.ref (He.ma K (He.ga K "NoWidth") "__init__")) = some (.type "function") := He2.ein_ok (T.ex 2)
theorem xc_NoWord (T : Tx K mg) : He2.ExcC K (He.ga K "NoWord") := He2.exc_ok (T.ex 3)
theorem xi_NoWord (T : Tx K mg) : PySem.W.findIn K (.ref (He.ga K "NoWord")) "__init__" = some (some (.ref (He.ma K (He.ga K "NoWord") "__init__"))) ∧ PySem.W.typeIn K (.ref (He.ma K (He.ga K "NoWord") "__init__")) = some (.type "function") := He2.ein_ok (T.ex 4)
theorem xc_NoKind (T : Tx K mg) : He2.ExcC K (He.ga K "NoKind") := He2.exc_ok (T.ex 5)
theorem xi_NoKind (T : Tx K mg) : PySem.W.findIn K (.ref (He.ga K "NoKind")) "__init__" = some (some (.ref (He.ma K (He.ga K "NoKind") "__init__"))) ∧ PySem.W.typeIn K (.ref (He.ma K (He.ga K "NoKind") "__init__")) = some (.type "function") := He2.ein_ok (T.ex 6)
theorem xc_NoText (T : Tx K mg) : He2.ExcC K (He.ga K "NoText") := He2.exc_ok (T.ex 7)
theorem xi_NoText (T : Tx K mg) : PySem.W.findIn K (.ref (He.ga K "NoText")) "__init__" = some (some (.ref (He.ma K (He.ga K "NoText") "__init__"))) ∧ PySem.W.typeIn K (.ref (He.ma K (He.ga K "NoText") "__init__")) = some (.type "function") := He2.ein_ok (T.ex 8)
theorem xc_NoWay (T : Tx K mg) : He2.ExcC K (He.ga K "NoWay") := He2.exc_ok (T.ex 9)
theorem xi_NoWay (T : Tx K mg) : PySem.W.findIn K (.ref (He.ga K "NoWay")) "__init__" = some (some (.ref (He.ma K (He.ga K "NoWay") "__init__"))) ∧ PySem.W.typeIn K (.ref (He.ma K (He.ga K "NoWay") "__init__")) = some (.type "function") := He2.ein_ok (T.ex 10)
theorem xc_NoProgram (T : Tx K mg) : He2.ExcC K (He.ga K "NoProgram") := He2.exc_ok (T.ex 11)
theorem xi_NoProgram (T : Tx K mg) : PySem.W.findIn K (.ref (He.ga K "NoProgram")) "__init__" = some (some (.ref (He.ma K (He.ga K "NoProgram") "__init__"))) ∧ PySem.W.typeIn K (.ref (He.ma K (He.ga K "NoProgram") "__init__")) = some (.type "function") := He2.ein_ok (T.ex 12)
theorem xc_TooMuch (T : Tx K mg) : He2.ExcC K (He.ga K "TooMuch") := He2.exc_ok (T.ex 13)
theorem xi_TooMuch (T : Tx K mg) : PySem.W.findIn K (.ref (He.ga K "TooMuch")) "__init__" = some (some (.ref (He.ma K (He.ga K "TooMuch") "__init__"))) ∧ PySem.W.typeIn K (.ref (He.ma K (He.ga K "TooMuch") "__init__")) = some (.type "function") := He2.ein_ok (T.ex 14)
theorem xc_Unknown (T : Tx K mg) : He2.ExcC K (He.ga K "Unknown") := He2.exc_ok (T.ex 15)
theorem xi_Unknown (T : Tx K mg) : PySem.W.findIn K (.ref (He.ga K "Unknown")) "__init__" = some (some (.ref (He.ma K (He.ga K "Unknown") "__init__"))) ∧ PySem.W.typeIn K (.ref (He.ma K (He.ga K "Unknown") "__init__")) = some (.type "function") := He2.ein_ok (T.ex 16)
theorem xc_WrongKind (T : Tx K mg) : He2.ExcC K (He.ga K "WrongKind") := He2.exc_ok (T.ex 17)
theorem xi_WrongKind (T : Tx K mg) : PySem.W.findIn K (.ref (He.ga K "WrongKind")) "__init__" = some (some (.ref (He.ma K (He.ga K "WrongKind") "__init__"))) ∧ PySem.W.typeIn K (.ref (He.ma K (He.ga K "WrongKind") "__init__")) = some (.type "function") := He2.ein_ok (T.ex 18)
theorem xc_Twice (T : Tx K mg) : He2.ExcC K (He.ga K "Twice") := He2.exc_ok (T.ex 19)
theorem xi_Twice (T : Tx K mg) : PySem.W.findIn K (.ref (He.ga K "Twice")) "__init__" = some (some (.ref (He.ma K (He.ga K "Twice") "__init__"))) ∧ PySem.W.typeIn K (.ref (He.ma K (He.ga K "Twice") "__init__")) = some (.type "function") := He2.ein_ok (T.ex 20)
theorem xc_NoInput (T : Tx K mg) : He2.ExcC K (He.ga K "NoInput") := He2.exc_ok (T.ex 21)
theorem xi_NoInput (T : Tx K mg) : PySem.W.findIn K (.ref (He.ga K "NoInput")) "__init__" = some (some (.ref (He.ma K (He.ga K "NoInput") "__init__"))) ∧ PySem.W.typeIn K (.ref (He.ma K (He.ga K "NoInput") "__init__")) = some (.type "function") := He2.ein_ok (T.ex 22)
theorem mk0_Way (T : Tx K mg) : Mk0 K (He.ga K "Way") := mk0_ok (T.ex 23)
theorem mk0_Down (T : Tx K mg) : Mk0 K (He.ga K "Down") := mk0_ok (T.ex 24)
theorem mk0_Up (T : Tx K mg) : Mk0 K (He.ga K "Up") := mk0_ok (T.ex 25)
theorem mk0_Cut (T : Tx K mg) : Mk0 K (He.ga K "Cut") := mk0_ok (T.ex 26)
theorem mk0_Near (T : Tx K mg) : Mk0 K (He.ga K "Near") := mk0_ok (T.ex 27)
theorem tp_WAYS (T : Tx K mg) (H : Hp) : SqT K H (He.ga K "WAYS") (([.str "down", .str "up", .str "cut", .str "near"] : List He.Dv).map (He.Dv.v K)) := He.tupB_ok (T.ex 28) H
theorem tp_HEADS (T : Tx K mg) (H : Hp) : SqT K H (He.ga K "HEADS") (([.str "width", .str "in", .str "out", .str "plain", .str "signed", .str "point", .str "set", .str "repeat", .str "end"] : List He.Dv).map (He.Dv.v K)) := He.tupB_ok (T.ex 29) H
theorem tp_ROUND_DEEDS (T : Tx K mg) (H : Hp) : SqT K H (He.ga K "ROUND_DEEDS") (([.str "add", .str "sub", .str "low", .str "left"] : List He.Dv).map (He.Dv.v K)) := He.tupB_ok (T.ex 30) H
theorem tp_STOP_DEEDS (T : Tx K mg) (H : Hp) : SqT K H (He.ga K "STOP_DEEDS") (([.str "addstop", .str "substop", .str "mul"] : List He.Dv).map (He.Dv.v K)) := He.tupB_ok (T.ex 31) H
theorem tp_PLAIN_DEEDS (T : Tx K mg) (H : Hp) : SqT K H (He.ga K "PLAIN_DEEDS") (([.str "low", .str "high", .str "rest", .str "over", .str "part"] : List He.Dv).map (He.Dv.v K)) := He.tupB_ok (T.ex 32) H
theorem tp_LIKE_DEEDS (T : Tx K mg) (H : Hp) : SqT K H (He.ga K "LIKE_DEEDS") (([.str "add", .str "sub", .str "addstop", .str "substop", .str "less", .str "same"] : List He.Dv).map (He.Dv.v K)) := He.tupB_ok (T.ex 33) H
theorem ne_Kind_Plain (T : Tx K mg) : He.ga K "Kind" ≠ He.ga K "Plain" := by have h := T.ex 34; simpa using h
theorem ne_Kind_Signed (T : Tx K mg) : He.ga K "Kind" ≠ He.ga K "Signed" := by have h := T.ex 35; simpa using h
theorem ne_Kind_Pointed (T : Tx K mg) : He.ga K "Kind" ≠ He.ga K "Pointed" := by have h := T.ex 36; simpa using h
theorem ne_Kind_Row (T : Tx K mg) : He.ga K "Kind" ≠ He.ga K "Row" := by have h := T.ex 37; simpa using h
theorem ne_Kind_Repeat (T : Tx K mg) : He.ga K "Kind" ≠ He.ga K "Repeat" := by have h := T.ex 38; simpa using h
theorem ne_Kind_Draft (T : Tx K mg) : He.ga K "Kind" ≠ He.ga K "Draft" := by have h := T.ex 39; simpa using h
theorem ne_Kind_Way (T : Tx K mg) : He.ga K "Kind" ≠ He.ga K "Way" := by have h := T.ex 40; simpa using h
theorem ne_Kind_Down (T : Tx K mg) : He.ga K "Kind" ≠ He.ga K "Down" := by have h := T.ex 41; simpa using h
theorem ne_Kind_Up (T : Tx K mg) : He.ga K "Kind" ≠ He.ga K "Up" := by have h := T.ex 42; simpa using h
theorem ne_Kind_Cut (T : Tx K mg) : He.ga K "Kind" ≠ He.ga K "Cut" := by have h := T.ex 43; simpa using h
theorem ne_Kind_Near (T : Tx K mg) : He.ga K "Kind" ≠ He.ga K "Near" := by have h := T.ex 44; simpa using h
theorem ne_Kind_Running (T : Tx K mg) : He.ga K "Kind" ≠ He.ga K "Running" := by have h := T.ex 45; simpa using h
theorem ne_Kind_Program (T : Tx K mg) : He.ga K "Kind" ≠ He.ga K "Program" := by have h := T.ex 46; simpa using h
theorem ne_Plain_Signed (T : Tx K mg) : He.ga K "Plain" ≠ He.ga K "Signed" := by have h := T.ex 47; simpa using h
theorem ne_Plain_Pointed (T : Tx K mg) : He.ga K "Plain" ≠ He.ga K "Pointed" := by have h := T.ex 48; simpa using h
theorem ne_Plain_Row (T : Tx K mg) : He.ga K "Plain" ≠ He.ga K "Row" := by have h := T.ex 49; simpa using h
theorem ne_Plain_Repeat (T : Tx K mg) : He.ga K "Plain" ≠ He.ga K "Repeat" := by have h := T.ex 50; simpa using h
theorem ne_Plain_Draft (T : Tx K mg) : He.ga K "Plain" ≠ He.ga K "Draft" := by have h := T.ex 51; simpa using h
theorem ne_Plain_Way (T : Tx K mg) : He.ga K "Plain" ≠ He.ga K "Way" := by have h := T.ex 52; simpa using h
theorem ne_Plain_Down (T : Tx K mg) : He.ga K "Plain" ≠ He.ga K "Down" := by have h := T.ex 53; simpa using h
theorem ne_Plain_Up (T : Tx K mg) : He.ga K "Plain" ≠ He.ga K "Up" := by have h := T.ex 54; simpa using h
theorem ne_Plain_Cut (T : Tx K mg) : He.ga K "Plain" ≠ He.ga K "Cut" := by have h := T.ex 55; simpa using h
theorem ne_Plain_Near (T : Tx K mg) : He.ga K "Plain" ≠ He.ga K "Near" := by have h := T.ex 56; simpa using h
theorem ne_Plain_Running (T : Tx K mg) : He.ga K "Plain" ≠ He.ga K "Running" := by have h := T.ex 57; simpa using h
theorem ne_Plain_Program (T : Tx K mg) : He.ga K "Plain" ≠ He.ga K "Program" := by have h := T.ex 58; simpa using h
theorem ne_Signed_Pointed (T : Tx K mg) : He.ga K "Signed" ≠ He.ga K "Pointed" := by have h := T.ex 59; simpa using h
theorem ne_Signed_Row (T : Tx K mg) : He.ga K "Signed" ≠ He.ga K "Row" := by have h := T.ex 60; simpa using h
theorem ne_Signed_Repeat (T : Tx K mg) : He.ga K "Signed" ≠ He.ga K "Repeat" := by have h := T.ex 61; simpa using h
theorem ne_Signed_Draft (T : Tx K mg) : He.ga K "Signed" ≠ He.ga K "Draft" := by have h := T.ex 62; simpa using h
theorem ne_Signed_Way (T : Tx K mg) : He.ga K "Signed" ≠ He.ga K "Way" := by have h := T.ex 63; simpa using h
theorem ne_Signed_Down (T : Tx K mg) : He.ga K "Signed" ≠ He.ga K "Down" := by have h := T.ex 64; simpa using h
theorem ne_Signed_Up (T : Tx K mg) : He.ga K "Signed" ≠ He.ga K "Up" := by have h := T.ex 65; simpa using h
theorem ne_Signed_Cut (T : Tx K mg) : He.ga K "Signed" ≠ He.ga K "Cut" := by have h := T.ex 66; simpa using h
theorem ne_Signed_Near (T : Tx K mg) : He.ga K "Signed" ≠ He.ga K "Near" := by have h := T.ex 67; simpa using h
theorem ne_Signed_Running (T : Tx K mg) : He.ga K "Signed" ≠ He.ga K "Running" := by have h := T.ex 68; simpa using h
theorem ne_Signed_Program (T : Tx K mg) : He.ga K "Signed" ≠ He.ga K "Program" := by have h := T.ex 69; simpa using h
theorem ne_Pointed_Row (T : Tx K mg) : He.ga K "Pointed" ≠ He.ga K "Row" := by have h := T.ex 70; simpa using h
theorem ne_Pointed_Repeat (T : Tx K mg) : He.ga K "Pointed" ≠ He.ga K "Repeat" := by have h := T.ex 71; simpa using h
theorem ne_Pointed_Draft (T : Tx K mg) : He.ga K "Pointed" ≠ He.ga K "Draft" := by have h := T.ex 72; simpa using h
theorem ne_Pointed_Way (T : Tx K mg) : He.ga K "Pointed" ≠ He.ga K "Way" := by have h := T.ex 73; simpa using h
theorem ne_Pointed_Down (T : Tx K mg) : He.ga K "Pointed" ≠ He.ga K "Down" := by have h := T.ex 74; simpa using h
theorem ne_Pointed_Up (T : Tx K mg) : He.ga K "Pointed" ≠ He.ga K "Up" := by have h := T.ex 75; simpa using h
theorem ne_Pointed_Cut (T : Tx K mg) : He.ga K "Pointed" ≠ He.ga K "Cut" := by have h := T.ex 76; simpa using h
theorem ne_Pointed_Near (T : Tx K mg) : He.ga K "Pointed" ≠ He.ga K "Near" := by have h := T.ex 77; simpa using h
theorem ne_Pointed_Running (T : Tx K mg) : He.ga K "Pointed" ≠ He.ga K "Running" := by have h := T.ex 78; simpa using h
theorem ne_Pointed_Program (T : Tx K mg) : He.ga K "Pointed" ≠ He.ga K "Program" := by have h := T.ex 79; simpa using h
theorem ne_Row_Repeat (T : Tx K mg) : He.ga K "Row" ≠ He.ga K "Repeat" := by have h := T.ex 80; simpa using h
theorem ne_Row_Draft (T : Tx K mg) : He.ga K "Row" ≠ He.ga K "Draft" := by have h := T.ex 81; simpa using h
theorem ne_Row_Way (T : Tx K mg) : He.ga K "Row" ≠ He.ga K "Way" := by have h := T.ex 82; simpa using h
theorem ne_Row_Down (T : Tx K mg) : He.ga K "Row" ≠ He.ga K "Down" := by have h := T.ex 83; simpa using h
theorem ne_Row_Up (T : Tx K mg) : He.ga K "Row" ≠ He.ga K "Up" := by have h := T.ex 84; simpa using h
theorem ne_Row_Cut (T : Tx K mg) : He.ga K "Row" ≠ He.ga K "Cut" := by have h := T.ex 85; simpa using h
theorem ne_Row_Near (T : Tx K mg) : He.ga K "Row" ≠ He.ga K "Near" := by have h := T.ex 86; simpa using h
theorem ne_Row_Running (T : Tx K mg) : He.ga K "Row" ≠ He.ga K "Running" := by have h := T.ex 87; simpa using h
theorem ne_Row_Program (T : Tx K mg) : He.ga K "Row" ≠ He.ga K "Program" := by have h := T.ex 88; simpa using h
theorem ne_Repeat_Draft (T : Tx K mg) : He.ga K "Repeat" ≠ He.ga K "Draft" := by have h := T.ex 89; simpa using h
theorem ne_Repeat_Way (T : Tx K mg) : He.ga K "Repeat" ≠ He.ga K "Way" := by have h := T.ex 90; simpa using h
theorem ne_Repeat_Down (T : Tx K mg) : He.ga K "Repeat" ≠ He.ga K "Down" := by have h := T.ex 91; simpa using h
theorem ne_Repeat_Up (T : Tx K mg) : He.ga K "Repeat" ≠ He.ga K "Up" := by have h := T.ex 92; simpa using h
theorem ne_Repeat_Cut (T : Tx K mg) : He.ga K "Repeat" ≠ He.ga K "Cut" := by have h := T.ex 93; simpa using h
theorem ne_Repeat_Near (T : Tx K mg) : He.ga K "Repeat" ≠ He.ga K "Near" := by have h := T.ex 94; simpa using h
theorem ne_Repeat_Running (T : Tx K mg) : He.ga K "Repeat" ≠ He.ga K "Running" := by have h := T.ex 95; simpa using h
theorem ne_Repeat_Program (T : Tx K mg) : He.ga K "Repeat" ≠ He.ga K "Program" := by have h := T.ex 96; simpa using h
theorem ne_Draft_Way (T : Tx K mg) : He.ga K "Draft" ≠ He.ga K "Way" := by have h := T.ex 97; simpa using h
theorem ne_Draft_Down (T : Tx K mg) : He.ga K "Draft" ≠ He.ga K "Down" := by have h := T.ex 98; simpa using h
theorem ne_Draft_Up (T : Tx K mg) : He.ga K "Draft" ≠ He.ga K "Up" := by have h := T.ex 99; simpa using h
theorem ne_Draft_Cut (T : Tx K mg) : He.ga K "Draft" ≠ He.ga K "Cut" := by have h := T.ex 100; simpa using h
theorem ne_Draft_Near (T : Tx K mg) : He.ga K "Draft" ≠ He.ga K "Near" := by have h := T.ex 101; simpa using h
theorem ne_Draft_Running (T : Tx K mg) : He.ga K "Draft" ≠ He.ga K "Running" := by have h := T.ex 102; simpa using h
theorem ne_Draft_Program (T : Tx K mg) : He.ga K "Draft" ≠ He.ga K "Program" := by have h := T.ex 103; simpa using h
theorem ne_Way_Down (T : Tx K mg) : He.ga K "Way" ≠ He.ga K "Down" := by have h := T.ex 104; simpa using h
theorem ne_Way_Up (T : Tx K mg) : He.ga K "Way" ≠ He.ga K "Up" := by have h := T.ex 105; simpa using h
theorem ne_Way_Cut (T : Tx K mg) : He.ga K "Way" ≠ He.ga K "Cut" := by have h := T.ex 106; simpa using h
theorem ne_Way_Near (T : Tx K mg) : He.ga K "Way" ≠ He.ga K "Near" := by have h := T.ex 107; simpa using h
theorem ne_Way_Running (T : Tx K mg) : He.ga K "Way" ≠ He.ga K "Running" := by have h := T.ex 108; simpa using h
theorem ne_Way_Program (T : Tx K mg) : He.ga K "Way" ≠ He.ga K "Program" := by have h := T.ex 109; simpa using h
theorem ne_Down_Up (T : Tx K mg) : He.ga K "Down" ≠ He.ga K "Up" := by have h := T.ex 110; simpa using h
theorem ne_Down_Cut (T : Tx K mg) : He.ga K "Down" ≠ He.ga K "Cut" := by have h := T.ex 111; simpa using h
theorem ne_Down_Near (T : Tx K mg) : He.ga K "Down" ≠ He.ga K "Near" := by have h := T.ex 112; simpa using h
theorem ne_Down_Running (T : Tx K mg) : He.ga K "Down" ≠ He.ga K "Running" := by have h := T.ex 113; simpa using h
theorem ne_Down_Program (T : Tx K mg) : He.ga K "Down" ≠ He.ga K "Program" := by have h := T.ex 114; simpa using h
theorem ne_Up_Cut (T : Tx K mg) : He.ga K "Up" ≠ He.ga K "Cut" := by have h := T.ex 115; simpa using h
theorem ne_Up_Near (T : Tx K mg) : He.ga K "Up" ≠ He.ga K "Near" := by have h := T.ex 116; simpa using h
theorem ne_Up_Running (T : Tx K mg) : He.ga K "Up" ≠ He.ga K "Running" := by have h := T.ex 117; simpa using h
theorem ne_Up_Program (T : Tx K mg) : He.ga K "Up" ≠ He.ga K "Program" := by have h := T.ex 118; simpa using h
theorem ne_Cut_Near (T : Tx K mg) : He.ga K "Cut" ≠ He.ga K "Near" := by have h := T.ex 119; simpa using h
theorem ne_Cut_Running (T : Tx K mg) : He.ga K "Cut" ≠ He.ga K "Running" := by have h := T.ex 120; simpa using h
theorem ne_Cut_Program (T : Tx K mg) : He.ga K "Cut" ≠ He.ga K "Program" := by have h := T.ex 121; simpa using h
theorem ne_Near_Running (T : Tx K mg) : He.ga K "Near" ≠ He.ga K "Running" := by have h := T.ex 122; simpa using h
theorem ne_Near_Program (T : Tx K mg) : He.ga K "Near" ≠ He.ga K "Program" := by have h := T.ex 123; simpa using h
theorem ne_Running_Program (T : Tx K mg) : He.ga K "Running" ≠ He.ga K "Program" := by have h := T.ex 124; simpa using h
theorem ct_WiseError_init (T : Tx K mg) : He2.CAt K (He.ga K "WiseError") "__init__" ((He2.vBlt "ValueError.__init__") K) := He2.cat_ok (T.ex 125)
theorem ct_Kind_init (T : Tx K mg) : He2.CAt K (He.ga K "Kind") "__init__" ((He2.vDef "Kind" "__init__") K) := He2.cat_ok (T.ex 126)
theorem is_NoInput (T : Tx K mg) : He2.IsiC K (He.ga K "NoInput") := He2.isi_ok (T.ex 127)
theorem ki_NoInput_NoInput (T : Tx K mg) : PySem.W.kitOne K (.ref (He.ga K "NoInput")) (.ref (He.ga K "NoInput")) = some true := of_decide_eq_true (T.ex 128)
theorem is_Kind (T : Tx K mg) : He2.IsiC K (He.ga K "Kind") := He2.isi_ok (T.ex 129)
theorem ki_Kind_Repeat (T : Tx K mg) : PySem.W.kitOne K (.ref (He.ga K "Kind")) (.ref (He.ga K "Repeat")) = some false := of_decide_eq_true (T.ex 130)
theorem is_Plain (T : Tx K mg) : He2.IsiC K (He.ga K "Plain") := He2.isi_ok (T.ex 131)
theorem ki_Plain_Repeat (T : Tx K mg) : PySem.W.kitOne K (.ref (He.ga K "Plain")) (.ref (He.ga K "Repeat")) = some false := of_decide_eq_true (T.ex 132)
theorem is_Signed (T : Tx K mg) : He2.IsiC K (He.ga K "Signed") := He2.isi_ok (T.ex 133)
theorem ki_Signed_Repeat (T : Tx K mg) : PySem.W.kitOne K (.ref (He.ga K "Signed")) (.ref (He.ga K "Repeat")) = some false := of_decide_eq_true (T.ex 134)
theorem is_Pointed (T : Tx K mg) : He2.IsiC K (He.ga K "Pointed") := He2.isi_ok (T.ex 135)
theorem ki_Pointed_Repeat (T : Tx K mg) : PySem.W.kitOne K (.ref (He.ga K "Pointed")) (.ref (He.ga K "Repeat")) = some false := of_decide_eq_true (T.ex 136)
theorem is_Row (T : Tx K mg) : He2.IsiC K (He.ga K "Row") := He2.isi_ok (T.ex 137)
theorem ki_Row_Repeat (T : Tx K mg) : PySem.W.kitOne K (.ref (He.ga K "Row")) (.ref (He.ga K "Repeat")) = some false := of_decide_eq_true (T.ex 138)
theorem is_Repeat (T : Tx K mg) : He2.IsiC K (He.ga K "Repeat") := He2.isi_ok (T.ex 139)
theorem ki_Repeat_Repeat (T : Tx K mg) : PySem.W.kitOne K (.ref (He.ga K "Repeat")) (.ref (He.ga K "Repeat")) = some true := of_decide_eq_true (T.ex 140)
theorem is_Draft (T : Tx K mg) : He2.IsiC K (He.ga K "Draft") := He2.isi_ok (T.ex 141)
theorem ki_Draft_Repeat (T : Tx K mg) : PySem.W.kitOne K (.ref (He.ga K "Draft")) (.ref (He.ga K "Repeat")) = some false := of_decide_eq_true (T.ex 142)
theorem is_Way (T : Tx K mg) : He2.IsiC K (He.ga K "Way") := He2.isi_ok (T.ex 143)
theorem ki_Way_Repeat (T : Tx K mg) : PySem.W.kitOne K (.ref (He.ga K "Way")) (.ref (He.ga K "Repeat")) = some false := of_decide_eq_true (T.ex 144)
theorem is_Down (T : Tx K mg) : He2.IsiC K (He.ga K "Down") := He2.isi_ok (T.ex 145)
theorem ki_Down_Repeat (T : Tx K mg) : PySem.W.kitOne K (.ref (He.ga K "Down")) (.ref (He.ga K "Repeat")) = some false := of_decide_eq_true (T.ex 146)
theorem is_Up (T : Tx K mg) : He2.IsiC K (He.ga K "Up") := He2.isi_ok (T.ex 147)
theorem ki_Up_Repeat (T : Tx K mg) : PySem.W.kitOne K (.ref (He.ga K "Up")) (.ref (He.ga K "Repeat")) = some false := of_decide_eq_true (T.ex 148)
theorem is_Cut (T : Tx K mg) : He2.IsiC K (He.ga K "Cut") := He2.isi_ok (T.ex 149)
theorem ki_Cut_Repeat (T : Tx K mg) : PySem.W.kitOne K (.ref (He.ga K "Cut")) (.ref (He.ga K "Repeat")) = some false := of_decide_eq_true (T.ex 150)
theorem is_Near (T : Tx K mg) : He2.IsiC K (He.ga K "Near") := He2.isi_ok (T.ex 151)
theorem ki_Near_Repeat (T : Tx K mg) : PySem.W.kitOne K (.ref (He.ga K "Near")) (.ref (He.ga K "Repeat")) = some false := of_decide_eq_true (T.ex 152)
theorem is_Running (T : Tx K mg) : He2.IsiC K (He.ga K "Running") := He2.isi_ok (T.ex 153)
theorem ki_Running_Repeat (T : Tx K mg) : PySem.W.kitOne K (.ref (He.ga K "Running")) (.ref (He.ga K "Repeat")) = some false := of_decide_eq_true (T.ex 154)
theorem is_Program (T : Tx K mg) : He2.IsiC K (He.ga K "Program") := He2.isi_ok (T.ex 155)
theorem ki_Program_Repeat (T : Tx K mg) : PySem.W.kitOne K (.ref (He.ga K "Program")) (.ref (He.ga K "Repeat")) = some false := of_decide_eq_true (T.ex 156)
theorem fn__wall (T : Tx K mg) : ∃ fd, FunD K "_wall" "_wall" (defArgs s__wall) (defBody s__wall) (defScope s__wall) [] [] (He.fAd K ("_wall", none)) fd := T.def_ 0
theorem fn_NoWidth_init (T : Tx K mg) : ∃ fd, FunD K "__init__" "NoWidth.__init__" (defArgs s_NoWidth_init) (defBody s_NoWidth_init) (defScope s_NoWidth_init) [] [] (He.fAd K ("NoWidth", some "__init__")) fd := T.def_ 1
theorem fn_NoWord_init (T : Tx K mg) : ∃ fd, FunD K "__init__" "NoWord.__init__" (defArgs s_NoWord_init) (defBody s_NoWord_init) (defScope s_NoWord_init) [] [] (He.fAd K ("NoWord", some "__init__")) fd := T.def_ 2
theorem fn_NoKind_init (T : Tx K mg) : ∃ fd, FunD K "__init__" "NoKind.__init__" (defArgs s_NoKind_init) (defBody s_NoKind_init) (defScope s_NoKind_init) [] [] (He.fAd K ("NoKind", some "__init__")) fd := T.def_ 3
theorem fn_NoText_init (T : Tx K mg) : ∃ fd, FunD K "__init__" "NoText.__init__" (defArgs s_NoText_init) (defBody s_NoText_init) (defScope s_NoText_init) [] [] (He.fAd K ("NoText", some "__init__")) fd := T.def_ 4
theorem fn_NoWay_init (T : Tx K mg) : ∃ fd, FunD K "__init__" "NoWay.__init__" (defArgs s_NoWay_init) (defBody s_NoWay_init) (defScope s_NoWay_init) [] [] (He.fAd K ("NoWay", some "__init__")) fd := T.def_ 5
theorem fn_NoProgram_init (T : Tx K mg) : ∃ fd, FunD K "__init__" "NoProgram.__init__" (defArgs s_NoProgram_init) (defBody s_NoProgram_init) (defScope s_NoProgram_init) [] [] (He.fAd K ("NoProgram", some "__init__")) fd := T.def_ 6
theorem fn_TooMuch_init (T : Tx K mg) : ∃ fd, FunD K "__init__" "TooMuch.__init__" (defArgs s_TooMuch_init) (defBody s_TooMuch_init) (defScope s_TooMuch_init) [] [] (He.fAd K ("TooMuch", some "__init__")) fd := T.def_ 7
theorem fn_Unknown_init (T : Tx K mg) : ∃ fd, FunD K "__init__" "Unknown.__init__" (defArgs s_Unknown_init) (defBody s_Unknown_init) (defScope s_Unknown_init) [] [] (He.fAd K ("Unknown", some "__init__")) fd := T.def_ 8
theorem fn_WrongKind_init (T : Tx K mg) : ∃ fd, FunD K "__init__" "WrongKind.__init__" (defArgs s_WrongKind_init) (defBody s_WrongKind_init) (defScope s_WrongKind_init) [] [] (He.fAd K ("WrongKind", some "__init__")) fd := T.def_ 9
theorem fn_Twice_init (T : Tx K mg) : ∃ fd, FunD K "__init__" "Twice.__init__" (defArgs s_Twice_init) (defBody s_Twice_init) (defScope s_Twice_init) [] [] (He.fAd K ("Twice", some "__init__")) fd := T.def_ 10
theorem fn_NoInput_init (T : Tx K mg) : ∃ fd, FunD K "__init__" "NoInput.__init__" (defArgs s_NoInput_init) (defBody s_NoInput_init) (defScope s_NoInput_init) [] [] (He.fAd K ("NoInput", some "__init__")) fd := T.def_ 11
theorem fn_is_whole (T : Tx K mg) : ∃ fd, FunD K "is_whole" "is_whole" (defArgs s_is_whole) (defBody s_is_whole) (defScope s_is_whole) [] [] (He.fAd K ("is_whole", none)) fd := T.def_ 12
theorem fn_need_width (T : Tx K mg) : ∃ fd, FunD K "need_width" "need_width" (defArgs s_need_width) (defBody s_need_width) (defScope s_need_width) [] [] (He.fAd K ("need_width", none)) fd := T.def_ 13
theorem fn_are_signs (T : Tx K mg) : ∃ fd, FunD K "are_signs" "are_signs" (defArgs s_are_signs) (defBody s_are_signs) (defScope s_are_signs) [] [] (He.fAd K ("are_signs", none)) fd := T.def_ 14
theorem fn_Kind_init (T : Tx K mg) : ∃ fd, FunD K "__init__" "Kind.__init__" (defArgs s_Kind_init) (defBody s_Kind_init) (defScope s_Kind_init) [] [] (He.fAd K ("Kind", some "__init__")) fd := T.def_ 15
theorem fn_Kind_word (T : Tx K mg) : ∃ fd, FunD K "word" "Kind.word" (defArgs s_Kind_word) (defBody s_Kind_word) (defScope s_Kind_word) [] [] (He.fAd K ("Kind", some "word")) fd := T.def_ 16
theorem fn_Kind_least (T : Tx K mg) : ∃ fd, FunD K "least" "Kind.least" (defArgs s_Kind_least) (defBody s_Kind_least) (defScope s_Kind_least) [] [] (He.fAd K ("Kind", some "least")) fd := T.def_ 17
theorem fn_Kind_greatest (T : Tx K mg) : ∃ fd, FunD K "greatest" "Kind.greatest" (defArgs s_Kind_greatest) (defBody s_Kind_greatest) (defScope s_Kind_greatest) [] [] (He.fAd K ("Kind", some "greatest")) fd := T.def_ 18
theorem fn_Kind_is_count (T : Tx K mg) : ∃ fd, FunD K "is_count" "Kind.is_count" (defArgs s_Kind_is_count) (defBody s_Kind_is_count) (defScope s_Kind_is_count) [] [] (He.fAd K ("Kind", some "is_count")) fd := T.def_ 19
theorem fn_Kind_count_of (T : Tx K mg) : ∃ fd, FunD K "count_of" "Kind.count_of" (defArgs s_Kind_count_of) (defBody s_Kind_count_of) (defScope s_Kind_count_of) [] [] (He.fAd K ("Kind", some "count_of")) fd := T.def_ 20
theorem fn_Kind_bits_of (T : Tx K mg) : ∃ fd, FunD K "bits_of" "Kind.bits_of" (defArgs s_Kind_bits_of) (defBody s_Kind_bits_of) (defScope s_Kind_bits_of) [] [] (He.fAd K ("Kind", some "bits_of")) fd := T.def_ 21
theorem fn_Kind_go_round (T : Tx K mg) : ∃ fd, FunD K "go_round" "Kind.go_round" (defArgs s_Kind_go_round) (defBody s_Kind_go_round) (defScope s_Kind_go_round) [] [] (He.fAd K ("Kind", some "go_round")) fd := T.def_ 22
theorem fn_Kind_stop_at (T : Tx K mg) : ∃ fd, FunD K "stop_at" "Kind.stop_at" (defArgs s_Kind_stop_at) (defBody s_Kind_stop_at) (defScope s_Kind_stop_at) [] [] (He.fAd K ("Kind", some "stop_at")) fd := T.def_ 23
theorem fn_Kind_shown (T : Tx K mg) : ∃ fd, FunD K "shown" "Kind.shown" (defArgs s_Kind_shown) (defBody s_Kind_shown) (defScope s_Kind_shown) [] [] (He.fAd K ("Kind", some "shown")) fd := T.def_ 24
theorem fn_Kind_read (T : Tx K mg) : ∃ fd, FunD K "read" "Kind.read" (defArgs s_Kind_read) (defBody s_Kind_read) (defScope s_Kind_read) [] [] (He.fAd K ("Kind", some "read")) fd := T.def_ 25
theorem fn_Plain_init (T : Tx K mg) : ∃ fd, FunD K "__init__" "Plain.__init__" (defArgs s_Plain_init) (defBody s_Plain_init) (defScope s_Plain_init) [] [] (He.fAd K ("Plain", some "__init__")) fd := T.def_ 26
theorem fn_Plain_word (T : Tx K mg) : ∃ fd, FunD K "word" "Plain.word" (defArgs s_Plain_word) (defBody s_Plain_word) (defScope s_Plain_word) [] [] (He.fAd K ("Plain", some "word")) fd := T.def_ 27
theorem fn_Plain_least (T : Tx K mg) : ∃ fd, FunD K "least" "Plain.least" (defArgs s_Plain_least) (defBody s_Plain_least) (defScope s_Plain_least) [] [] (He.fAd K ("Plain", some "least")) fd := T.def_ 28
theorem fn_Plain_greatest (T : Tx K mg) : ∃ fd, FunD K "greatest" "Plain.greatest" (defArgs s_Plain_greatest) (defBody s_Plain_greatest) (defScope s_Plain_greatest) [] [] (He.fAd K ("Plain", some "greatest")) fd := T.def_ 29
theorem fn_Signed_init (T : Tx K mg) : ∃ fd, FunD K "__init__" "Signed.__init__" (defArgs s_Signed_init) (defBody s_Signed_init) (defScope s_Signed_init) [] [] (He.fAd K ("Signed", some "__init__")) fd := T.def_ 30
theorem fn_Pointed_init (T : Tx K mg) : ∃ fd, FunD K "__init__" "Pointed.__init__" (defArgs s_Pointed_init) (defBody s_Pointed_init) (defScope s_Pointed_init) [] [] (He.fAd K ("Pointed", some "__init__")) fd := T.def_ 31
theorem fn_Pointed_word (T : Tx K mg) : ∃ fd, FunD K "word" "Pointed.word" (defArgs s_Pointed_word) (defBody s_Pointed_word) (defScope s_Pointed_word) [] [] (He.fAd K ("Pointed", some "word")) fd := T.def_ 32
theorem fn_same_kind (T : Tx K mg) : ∃ fd, FunD K "same_kind" "same_kind" (defArgs s_same_kind) (defBody s_same_kind) (defScope s_same_kind) [] [] (He.fAd K ("same_kind", none)) fd := T.def_ 33
theorem fn_Row_init (T : Tx K mg) : ∃ fd, FunD K "__init__" "Row.__init__" (defArgs s_Row_init) (defBody s_Row_init) (defScope s_Row_init) [] [] (He.fAd K ("Row", some "__init__")) fd := T.def_ 34
theorem fn_Repeat_init (T : Tx K mg) : ∃ fd, FunD K "__init__" "Repeat.__init__" (defArgs s_Repeat_init) (defBody s_Repeat_init) (defScope s_Repeat_init) [] [] (He.fAd K ("Repeat", some "__init__")) fd := T.def_ 35
theorem fn_form_of (T : Tx K mg) : ∃ fd, FunD K "form_of" "form_of" (defArgs s_form_of) (defBody s_form_of) (defScope s_form_of) [] [] (He.fAd K ("form_of", none)) fd := T.def_ 36
theorem fn_is_name (T : Tx K mg) : ∃ fd, FunD K "is_name" "is_name" (defArgs s_is_name) (defBody s_is_name) (defScope s_is_name) [] [] (He.fAd K ("is_name", none)) fd := T.def_ 37
theorem fn_number_in (T : Tx K mg) : ∃ fd, FunD K "number_in" "number_in" (defArgs s_number_in) (defBody s_number_in) (defScope s_number_in) [] [] (He.fAd K ("number_in", none)) fd := T.def_ 38
theorem fn_kind_in (T : Tx K mg) : ∃ fd, FunD K "kind_in" "kind_in" (defArgs s_kind_in) (defBody s_kind_in) (defScope s_kind_in) [] [] (He.fAd K ("kind_in", none)) fd := T.def_ 39
theorem fn_bits_shown (T : Tx K mg) : ∃ fd, FunD K "bits_shown" "bits_shown" (defArgs s_bits_shown) (defBody s_bits_shown) (defScope s_bits_shown) [] [] (He.fAd K ("bits_shown", none)) fd := T.def_ 40
theorem fn_taken (T : Tx K mg) : ∃ fd, FunD K "taken" "taken" (defArgs s_taken) (defBody s_taken) (defScope s_taken) [] [] (He.fAd K ("taken", none)) fd := T.def_ 41
theorem fn_Draft_init (T : Tx K mg) : ∃ fd, FunD K "__init__" "Draft.__init__" (defArgs s_Draft_init) (defBody s_Draft_init) (defScope s_Draft_init) [] [] (He.fAd K ("Draft", some "__init__")) fd := T.def_ 42
theorem fn_Draft_block (T : Tx K mg) : ∃ fd, FunD K "block" "Draft.block" (defArgs s_Draft_block) (defBody s_Draft_block) (defScope s_Draft_block) [] [] (He.fAd K ("Draft", some "block")) fd := T.def_ 43
theorem fn_Draft_take (T : Tx K mg) : ∃ fd, FunD K "take" "Draft.take" (defArgs s_Draft_take) (defBody s_Draft_take) (defScope s_Draft_take) [] [] (He.fAd K ("Draft", some "take")) fd := T.def_ 44
theorem fn_Draft_take_width (T : Tx K mg) : ∃ fd, FunD K "take_width" "Draft.take_width" (defArgs s_Draft_take_width) (defBody s_Draft_take_width) (defScope s_Draft_take_width) [] [] (He.fAd K ("Draft", some "take_width")) fd := T.def_ 45
theorem fn_Draft_take_in (T : Tx K mg) : ∃ fd, FunD K "take_in" "Draft.take_in" (defArgs s_Draft_take_in) (defBody s_Draft_take_in) (defScope s_Draft_take_in) [] [] (He.fAd K ("Draft", some "take_in")) fd := T.def_ 46
theorem fn_Draft_take_out (T : Tx K mg) : ∃ fd, FunD K "take_out" "Draft.take_out" (defArgs s_Draft_take_out) (defBody s_Draft_take_out) (defScope s_Draft_take_out) [] [] (He.fAd K ("Draft", some "take_out")) fd := T.def_ 47
theorem fn_Draft_take_repeat (T : Tx K mg) : ∃ fd, FunD K "take_repeat" "Draft.take_repeat" (defArgs s_Draft_take_repeat) (defBody s_Draft_take_repeat) (defScope s_Draft_take_repeat) [] [] (He.fAd K ("Draft", some "take_repeat")) fd := T.def_ 48
theorem fn_Draft_take_end (T : Tx K mg) : ∃ fd, FunD K "take_end" "Draft.take_end" (defArgs s_Draft_take_end) (defBody s_Draft_take_end) (defScope s_Draft_take_end) [] [] (He.fAd K ("Draft", some "take_end")) fd := T.def_ 49
theorem fn_Draft_take_row (T : Tx K mg) : ∃ fd, FunD K "take_row" "Draft.take_row" (defArgs s_Draft_take_row) (defBody s_Draft_take_row) (defScope s_Draft_take_row) [] [] (He.fAd K ("Draft", some "take_row")) fd := T.def_ 50
theorem fn_Draft_is_great (T : Tx K mg) : ∃ fd, FunD K "is_great" "Draft.is_great" (defArgs s_Draft_is_great) (defBody s_Draft_is_great) (defScope s_Draft_is_great) [] [] (He.fAd K ("Draft", some "is_great")) fd := T.def_ 51
theorem fn_read_lines (T : Tx K mg) : ∃ fd, FunD K "read_lines" "read_lines" (defArgs s_read_lines) (defBody s_read_lines) (defScope s_read_lines) [] [] (He.fAd K ("read_lines", none)) fd := T.def_ 52
theorem fn_Way_word (T : Tx K mg) : ∃ fd, FunD K "word" "Way.word" (defArgs s_Way_word) (defBody s_Way_word) (defScope s_Way_word) [] [] (He.fAd K ("Way", some "word")) fd := T.def_ 53
theorem fn_Way_adjust (T : Tx K mg) : ∃ fd, FunD K "adjust" "Way.adjust" (defArgs s_Way_adjust) (defBody s_Way_adjust) (defScope s_Way_adjust) [] [] (He.fAd K ("Way", some "adjust")) fd := T.def_ 54
theorem fn_Way_rounded (T : Tx K mg) : ∃ fd, FunD K "rounded" "Way.rounded" (defArgs s_Way_rounded) (defBody s_Way_rounded) (defScope s_Way_rounded) [] [] (He.fAd K ("Way", some "rounded")) fd := T.def_ 55
theorem fn_Down_word (T : Tx K mg) : ∃ fd, FunD K "word" "Down.word" (defArgs s_Down_word) (defBody s_Down_word) (defScope s_Down_word) [] [] (He.fAd K ("Down", some "word")) fd := T.def_ 56
theorem fn_Down_adjust (T : Tx K mg) : ∃ fd, FunD K "adjust" "Down.adjust" (defArgs s_Down_adjust) (defBody s_Down_adjust) (defScope s_Down_adjust) [] [] (He.fAd K ("Down", some "adjust")) fd := T.def_ 57
theorem fn_Up_word (T : Tx K mg) : ∃ fd, FunD K "word" "Up.word" (defArgs s_Up_word) (defBody s_Up_word) (defScope s_Up_word) [] [] (He.fAd K ("Up", some "word")) fd := T.def_ 58
theorem fn_Up_adjust (T : Tx K mg) : ∃ fd, FunD K "adjust" "Up.adjust" (defArgs s_Up_adjust) (defBody s_Up_adjust) (defScope s_Up_adjust) [] [] (He.fAd K ("Up", some "adjust")) fd := T.def_ 59
theorem fn_Cut_word (T : Tx K mg) : ∃ fd, FunD K "word" "Cut.word" (defArgs s_Cut_word) (defBody s_Cut_word) (defScope s_Cut_word) [] [] (He.fAd K ("Cut", some "word")) fd := T.def_ 60
theorem fn_Near_word (T : Tx K mg) : ∃ fd, FunD K "word" "Near.word" (defArgs s_Near_word) (defBody s_Near_word) (defScope s_Near_word) [] [] (He.fAd K ("Near", some "word")) fd := T.def_ 61
theorem fn_Near_adjust (T : Tx K mg) : ∃ fd, FunD K "adjust" "Near.adjust" (defArgs s_Near_adjust) (defBody s_Near_adjust) (defScope s_Near_adjust) [] [] (He.fAd K ("Near", some "adjust")) fd := T.def_ 62
theorem fn_all_ways (T : Tx K mg) : ∃ fd, FunD K "all_ways" "all_ways" (defArgs s_all_ways) (defBody s_all_ways) (defScope s_all_ways) [] [] (He.fAd K ("all_ways", none)) fd := T.def_ 63
theorem fn_way_of (T : Tx K mg) : ∃ fd, FunD K "way_of" "way_of" (defArgs s_way_of) (defBody s_way_of) (defScope s_way_of) [] [] (He.fAd K ("way_of", none)) fd := T.def_ 64
theorem fn_summed (T : Tx K mg) : ∃ fd, FunD K "summed" "summed" (defArgs s_summed) (defBody s_summed) (defScope s_summed) [] [] (He.fAd K ("summed", none)) fd := T.def_ 65
theorem fn_moved (T : Tx K mg) : ∃ fd, FunD K "moved" "moved" (defArgs s_moved) (defBody s_moved) (defScope s_moved) [] [] (He.fAd K ("moved", none)) fd := T.def_ 66
theorem fn_reckoned (T : Tx K mg) : ∃ fd, FunD K "reckoned" "reckoned" (defArgs s_reckoned) (defBody s_reckoned) (defScope s_reckoned) [] [] (He.fAd K ("reckoned", none)) fd := T.def_ 67
theorem fn_worked (T : Tx K mg) : ∃ fd, FunD K "worked" "worked" (defArgs s_worked) (defBody s_worked) (defScope s_worked) [] [] (He.fAd K ("worked", none)) fd := T.def_ 68
theorem fn_Running_init (T : Tx K mg) : ∃ fd, FunD K "__init__" "Running.__init__" (defArgs s_Running_init) (defBody s_Running_init) (defScope s_Running_init) [] [] (He.fAd K ("Running", some "__init__")) fd := T.def_ 69
theorem fn_Running_go (T : Tx K mg) : ∃ fd, FunD K "go" "Running.go" (defArgs s_Running_go) (defBody s_Running_go) (defScope s_Running_go) [] [] (He.fAd K ("Running", some "go")) fd := T.def_ 70
theorem fn_Running_do (T : Tx K mg) : ∃ fd, FunD K "do" "Running.do" (defArgs s_Running_do) (defBody s_Running_do) (defScope s_Running_do) [] [] (He.fAd K ("Running", some "do")) fd := T.def_ 71
theorem fn_Running_put (T : Tx K mg) : ∃ fd, FunD K "put" "Running.put" (defArgs s_Running_put) (defBody s_Running_put) (defScope s_Running_put) [] [] (He.fAd K ("Running", some "put")) fd := T.def_ 72
theorem fn_ran (T : Tx K mg) : ∃ fd, FunD K "ran" "ran" (defArgs s_ran) (defBody s_ran) (defScope s_ran) [] [] (He.fAd K ("ran", none)) fd := T.def_ 73
theorem fn_run (T : Tx K mg) : ∃ fd, FunD K "run" "run" (defArgs s_run) (defBody s_run) (defScope s_run) [] [] (He.fAd K ("run", none)) fd := T.def_ 74
theorem fn_trace (T : Tx K mg) : ∃ fd, FunD K "trace" "trace" (defArgs s_trace) (defBody s_trace) (defScope s_trace) [] [] (He.fAd K ("trace", none)) fd := T.def_ 75
theorem fn_kind_words (T : Tx K mg) : ∃ fd, FunD K "kind_words" "kind_words" (defArgs s_kind_words) (defBody s_kind_words) (defScope s_kind_words) [] [] (He.fAd K ("kind_words", none)) fd := T.def_ 76
theorem fn_count_rows (T : Tx K mg) : ∃ fd, FunD K "count_rows" "count_rows" (defArgs s_count_rows) (defBody s_count_rows) (defScope s_count_rows) [] [] (He.fAd K ("count_rows", none)) fd := T.def_ 77
theorem fn_Program_init (T : Tx K mg) : ∃ fd, FunD K "__init__" "Program.__init__" (defArgs s_Program_init) (defBody s_Program_init) (defScope s_Program_init) [] [] (He.fAd K ("Program", some "__init__")) fd := T.def_ 78
theorem fn_Program_kind_of (T : Tx K mg) : ∃ fd, FunD K "kind_of" "Program.kind_of" (defArgs s_Program_kind_of) (defBody s_Program_kind_of) (defScope s_Program_kind_of) [] [] (He.fAd K ("Program", some "kind_of")) fd := T.def_ 79
theorem fn_Program_names (T : Tx K mg) : ∃ fd, FunD K "names" "Program.names" (defArgs s_Program_names) (defBody s_Program_names) (defScope s_Program_names) [] [] (He.fAd K ("Program", some "names")) fd := T.def_ 80
theorem fn_Program_rows_run (T : Tx K mg) : ∃ fd, FunD K "rows_run" "Program.rows_run" (defArgs s_Program_rows_run) (defBody s_Program_rows_run) (defScope s_Program_rows_run) [] [] (He.fAd K ("Program", some "rows_run")) fd := T.def_ 81
theorem fn_Program_text (T : Tx K mg) : ∃ fd, FunD K "text" "Program.text" (defArgs s_Program_text) (defBody s_Program_text) (defScope s_Program_text) [] [] (He.fAd K ("Program", some "text")) fd := T.def_ 82
theorem fn_Program_write (T : Tx K mg) : ∃ fd, FunD K "write" "Program.write" (defArgs s_Program_write) (defBody s_Program_write) (defScope s_Program_write) [] [] (He.fAd K ("Program", some "write")) fd := T.def_ 83
theorem fn_Program_words_behind (T : Tx K mg) : ∃ fd, FunD K "words_behind" "Program.words_behind" (defArgs s_Program_words_behind) (defBody s_Program_words_behind) (defScope s_Program_words_behind) [] [] (He.fAd K ("Program", some "words_behind")) fd := T.def_ 84
theorem fn_Program_look (T : Tx K mg) : ∃ fd, FunD K "look" "Program.look" (defArgs s_Program_look) (defBody s_Program_look) (defScope s_Program_look) [] [] (He.fAd K ("Program", some "look")) fd := T.def_ 85
theorem fn_Program_made_kind (T : Tx K mg) : ∃ fd, FunD K "made_kind" "Program.made_kind" (defArgs s_Program_made_kind) (defBody s_Program_made_kind) (defScope s_Program_made_kind) [] [] (He.fAd K ("Program", some "made_kind")) fd := T.def_ 86
theorem fn_read_program (T : Tx K mg) : ∃ fd, FunD K "read_program" "read_program" (defArgs s_read_program) (defBody s_read_program) (defScope s_read_program) [] [] (He.fAd K ("read_program", none)) fd := T.def_ 87
theorem fn_L_cell (T : Tx K mg) : ∃ fd, FunD K "_law_cell" "_law_cell" (defArgs s_L_cell) (defBody s_L_cell) (defScope s_L_cell) [] [] (He.fAd K ("_law_cell", none)) fd := T.def_ 88
theorem fn_L_box (T : Tx K mg) : ∃ fd, FunD K "_law_box" "_law_box" (defArgs s_L_box) (defBody s_L_box) (defScope s_L_box) [] [] (He.fAd K ("_law_box", none)) fd := T.def_ 89
theorem fn_L_take (T : Tx K mg) : ∃ fd, FunD K "_law_take" "_law_take" (defArgs s_L_take) (defBody s_L_take) (defScope s_L_take) [] [] (He.fAd K ("_law_take", none)) fd := T.def_ 90
theorem fn_L_bits (T : Tx K mg) : ∃ fd, FunD K "_law_bits" "_law_bits" (defArgs s_L_bits) (defBody s_L_bits) (defScope s_L_bits) [] [] (He.fAd K ("_law_bits", none)) fd := T.def_ 91
theorem fn_L_spec (T : Tx K mg) : ∃ fd, FunD K "_law_spec" "_law_spec" (defArgs s_L_spec) (defBody s_L_spec) (defScope s_L_spec) [] [] (He.fAd K ("_law_spec", none)) fd := T.def_ 92
theorem fn_L_kind_words (T : Tx K mg) : ∃ fd, FunD K "_law_kind_words" "_law_kind_words" (defArgs s_L_kind_words) (defBody s_L_kind_words) (defScope s_L_kind_words) [] [] (He.fAd K ("_law_kind_words", none)) fd := T.def_ 93
theorem fn_L_told (T : Tx K mg) : ∃ fd, FunD K "_law_told" "_law_told" (defArgs s_L_told) (defBody s_L_told) (defScope s_L_told) [] [] (He.fAd K ("_law_told", none)) fd := T.def_ 94
theorem fn_L_odd (T : Tx K mg) : ∃ fd, FunD K "_law_odd" "_law_odd" (defArgs s_L_odd) (defBody s_L_odd) (defScope s_L_odd) [] [] (He.fAd K ("_law_odd", none)) fd := T.def_ 95
theorem fn_L_spoilt (T : Tx K mg) : ∃ fd, FunD K "_law_spoilt" "_law_spoilt" (defArgs s_L_spoilt) (defBody s_L_spoilt) (defScope s_L_spoilt) [] [] (He.fAd K ("_law_spoilt", none)) fd := T.def_ 96
theorem fn_L_good (T : Tx K mg) : ∃ fd, FunD K "_law_good" "_law_good" (defArgs s_L_good) (defBody s_L_good) (defScope s_L_good) [] [] (He.fAd K ("_law_good", none)) fd := T.def_ 97
theorem fn_law (T : Tx K mg) : ∃ fd, FunD K "law" "law" (defArgs s_law) (defBody s_law) (defScope s_law) [] [] (He.fAd K ("law", none)) fd := T.def_ 98
theorem fn_Plain__is_count (T : Tx K mg) : ∃ fd, FunD K "is_count" "Kind.is_count" (defArgs s_Kind_is_count) (defBody s_Kind_is_count) (defScope s_Kind_is_count) [] [] (He.fAd K ("Plain", some "is_count")) fd := T.def_ 99
theorem fn_Plain__count_of (T : Tx K mg) : ∃ fd, FunD K "count_of" "Kind.count_of" (defArgs s_Kind_count_of) (defBody s_Kind_count_of) (defScope s_Kind_count_of) [] [] (He.fAd K ("Plain", some "count_of")) fd := T.def_ 100
theorem fn_Plain__bits_of (T : Tx K mg) : ∃ fd, FunD K "bits_of" "Kind.bits_of" (defArgs s_Kind_bits_of) (defBody s_Kind_bits_of) (defScope s_Kind_bits_of) [] [] (He.fAd K ("Plain", some "bits_of")) fd := T.def_ 101
theorem fn_Plain__go_round (T : Tx K mg) : ∃ fd, FunD K "go_round" "Kind.go_round" (defArgs s_Kind_go_round) (defBody s_Kind_go_round) (defScope s_Kind_go_round) [] [] (He.fAd K ("Plain", some "go_round")) fd := T.def_ 102
theorem fn_Plain__stop_at (T : Tx K mg) : ∃ fd, FunD K "stop_at" "Kind.stop_at" (defArgs s_Kind_stop_at) (defBody s_Kind_stop_at) (defScope s_Kind_stop_at) [] [] (He.fAd K ("Plain", some "stop_at")) fd := T.def_ 103
theorem fn_Plain__shown (T : Tx K mg) : ∃ fd, FunD K "shown" "Kind.shown" (defArgs s_Kind_shown) (defBody s_Kind_shown) (defScope s_Kind_shown) [] [] (He.fAd K ("Plain", some "shown")) fd := T.def_ 104
theorem fn_Plain__read (T : Tx K mg) : ∃ fd, FunD K "read" "Kind.read" (defArgs s_Kind_read) (defBody s_Kind_read) (defScope s_Kind_read) [] [] (He.fAd K ("Plain", some "read")) fd := T.def_ 105
theorem fn_Signed__word (T : Tx K mg) : ∃ fd, FunD K "word" "Kind.word" (defArgs s_Kind_word) (defBody s_Kind_word) (defScope s_Kind_word) [] [] (He.fAd K ("Signed", some "word")) fd := T.def_ 106
theorem fn_Signed__least (T : Tx K mg) : ∃ fd, FunD K "least" "Kind.least" (defArgs s_Kind_least) (defBody s_Kind_least) (defScope s_Kind_least) [] [] (He.fAd K ("Signed", some "least")) fd := T.def_ 107
theorem fn_Signed__greatest (T : Tx K mg) : ∃ fd, FunD K "greatest" "Kind.greatest" (defArgs s_Kind_greatest) (defBody s_Kind_greatest) (defScope s_Kind_greatest) [] [] (He.fAd K ("Signed", some "greatest")) fd := T.def_ 108
theorem fn_Signed__is_count (T : Tx K mg) : ∃ fd, FunD K "is_count" "Kind.is_count" (defArgs s_Kind_is_count) (defBody s_Kind_is_count) (defScope s_Kind_is_count) [] [] (He.fAd K ("Signed", some "is_count")) fd := T.def_ 109
theorem fn_Signed__count_of (T : Tx K mg) : ∃ fd, FunD K "count_of" "Kind.count_of" (defArgs s_Kind_count_of) (defBody s_Kind_count_of) (defScope s_Kind_count_of) [] [] (He.fAd K ("Signed", some "count_of")) fd := T.def_ 110
theorem fn_Signed__bits_of (T : Tx K mg) : ∃ fd, FunD K "bits_of" "Kind.bits_of" (defArgs s_Kind_bits_of) (defBody s_Kind_bits_of) (defScope s_Kind_bits_of) [] [] (He.fAd K ("Signed", some "bits_of")) fd := T.def_ 111
theorem fn_Signed__go_round (T : Tx K mg) : ∃ fd, FunD K "go_round" "Kind.go_round" (defArgs s_Kind_go_round) (defBody s_Kind_go_round) (defScope s_Kind_go_round) [] [] (He.fAd K ("Signed", some "go_round")) fd := T.def_ 112
theorem fn_Signed__stop_at (T : Tx K mg) : ∃ fd, FunD K "stop_at" "Kind.stop_at" (defArgs s_Kind_stop_at) (defBody s_Kind_stop_at) (defScope s_Kind_stop_at) [] [] (He.fAd K ("Signed", some "stop_at")) fd := T.def_ 113
theorem fn_Signed__shown (T : Tx K mg) : ∃ fd, FunD K "shown" "Kind.shown" (defArgs s_Kind_shown) (defBody s_Kind_shown) (defScope s_Kind_shown) [] [] (He.fAd K ("Signed", some "shown")) fd := T.def_ 114
theorem fn_Signed__read (T : Tx K mg) : ∃ fd, FunD K "read" "Kind.read" (defArgs s_Kind_read) (defBody s_Kind_read) (defScope s_Kind_read) [] [] (He.fAd K ("Signed", some "read")) fd := T.def_ 115
theorem fn_Pointed__least (T : Tx K mg) : ∃ fd, FunD K "least" "Kind.least" (defArgs s_Kind_least) (defBody s_Kind_least) (defScope s_Kind_least) [] [] (He.fAd K ("Pointed", some "least")) fd := T.def_ 116
theorem fn_Pointed__greatest (T : Tx K mg) : ∃ fd, FunD K "greatest" "Kind.greatest" (defArgs s_Kind_greatest) (defBody s_Kind_greatest) (defScope s_Kind_greatest) [] [] (He.fAd K ("Pointed", some "greatest")) fd := T.def_ 117
theorem fn_Pointed__is_count (T : Tx K mg) : ∃ fd, FunD K "is_count" "Kind.is_count" (defArgs s_Kind_is_count) (defBody s_Kind_is_count) (defScope s_Kind_is_count) [] [] (He.fAd K ("Pointed", some "is_count")) fd := T.def_ 118
theorem fn_Pointed__count_of (T : Tx K mg) : ∃ fd, FunD K "count_of" "Kind.count_of" (defArgs s_Kind_count_of) (defBody s_Kind_count_of) (defScope s_Kind_count_of) [] [] (He.fAd K ("Pointed", some "count_of")) fd := T.def_ 119
theorem fn_Pointed__bits_of (T : Tx K mg) : ∃ fd, FunD K "bits_of" "Kind.bits_of" (defArgs s_Kind_bits_of) (defBody s_Kind_bits_of) (defScope s_Kind_bits_of) [] [] (He.fAd K ("Pointed", some "bits_of")) fd := T.def_ 120
theorem fn_Pointed__go_round (T : Tx K mg) : ∃ fd, FunD K "go_round" "Kind.go_round" (defArgs s_Kind_go_round) (defBody s_Kind_go_round) (defScope s_Kind_go_round) [] [] (He.fAd K ("Pointed", some "go_round")) fd := T.def_ 121
theorem fn_Pointed__stop_at (T : Tx K mg) : ∃ fd, FunD K "stop_at" "Kind.stop_at" (defArgs s_Kind_stop_at) (defBody s_Kind_stop_at) (defScope s_Kind_stop_at) [] [] (He.fAd K ("Pointed", some "stop_at")) fd := T.def_ 122
theorem fn_Pointed__shown (T : Tx K mg) : ∃ fd, FunD K "shown" "Kind.shown" (defArgs s_Kind_shown) (defBody s_Kind_shown) (defScope s_Kind_shown) [] [] (He.fAd K ("Pointed", some "shown")) fd := T.def_ 123
theorem fn_Pointed__read (T : Tx K mg) : ∃ fd, FunD K "read" "Kind.read" (defArgs s_Kind_read) (defBody s_Kind_read) (defScope s_Kind_read) [] [] (He.fAd K ("Pointed", some "read")) fd := T.def_ 124
theorem fn_Down__rounded (T : Tx K mg) : ∃ fd, FunD K "rounded" "Way.rounded" (defArgs s_Way_rounded) (defBody s_Way_rounded) (defScope s_Way_rounded) [] [] (He.fAd K ("Down", some "rounded")) fd := T.def_ 125
theorem fn_Up__rounded (T : Tx K mg) : ∃ fd, FunD K "rounded" "Way.rounded" (defArgs s_Way_rounded) (defBody s_Way_rounded) (defScope s_Way_rounded) [] [] (He.fAd K ("Up", some "rounded")) fd := T.def_ 126
theorem fn_Cut__adjust (T : Tx K mg) : ∃ fd, FunD K "adjust" "Way.adjust" (defArgs s_Way_adjust) (defBody s_Way_adjust) (defScope s_Way_adjust) [] [] (He.fAd K ("Cut", some "adjust")) fd := T.def_ 127
theorem fn_Cut__rounded (T : Tx K mg) : ∃ fd, FunD K "rounded" "Way.rounded" (defArgs s_Way_rounded) (defBody s_Way_rounded) (defScope s_Way_rounded) [] [] (He.fAd K ("Cut", some "rounded")) fd := T.def_ 128
theorem fn_Near__rounded (T : Tx K mg) : ∃ fd, FunD K "rounded" "Way.rounded" (defArgs s_Way_rounded) (defBody s_Way_rounded) (defScope s_Way_rounded) [] [] (He.fAd K ("Near", some "rounded")) fd := T.def_ 129
end
end OW

set_option maxHeartbeats 4000000
namespace OW
open PySem PySem.Spec PyProof.Rows L2
local macro_rules | `(tactic| walk_at "rd1") => `(tactic| first
  | with_reducible refine r_seq ?_ | with_reducible refine r_asg ?_ | with_reducible refine r_ret ?_ | with_reducible refine r_if ?_ | with_reducible refine r_next ?_ | with_reducible refine r_drop ?_ | with_reducible refine r_retN ?_
  | with_reducible refine r_var rfl ?_ | with_reducible refine r_c ?_ | with_reducible refine r_op ?_ | with_reducible refine r_I0 ?_ | with_reducible refine r_test ?_ | with_reducible refine r_bl ?_
  | with_reducible refine r_eqI ?_ | with_reducible refine r_eqS ?_ | with_reducible refine r_neI ?_ | with_reducible refine r_neS ?_ | with_reducible refine r_and ?_ | with_reducible refine r_or ?_ | with_reducible refine r_not ?_ | with_reducible refine r_B ?_
  | with_reducible refine r_andV ?_ | with_reducible refine r_orV ?_ | with_reducible refine r_notV ?_ | with_reducible refine r_chain ?_ | with_reducible refine r_cons ?_ | with_reducible refine r_nil ?_ | with_reducible refine r_cb ?_ | with_reducible refine r_call ?_
  | with_reducible refine r_isN ?_ | with_reducible refine r_notN ?_ | with_reducible refine r_tup ?_ | with_reducible refine r_lst ?_ | with_reducible refine r_sl ?_ | with_reducible refine r_noPart ?_ | with_reducible refine r_part ?_
  | with_reducible refine r_fld ?_ | with_reducible refine r_meth ?_ | with_reducible refine r_un ?_ | with_reducible refine r_U ?_ | with_reducible refine r_ifE ?_ | with_reducible refine r_par ?_ | with_reducible refine r_par2 ?_ | with_reducible refine r_ipI ?_ | with_reducible refine r_aug rfl ?_
  | with_reducible refine r_vei ?_ | with_reducible refine r_mko ?_ | with_reducible refine r_ost ?_ | with_reducible refine r_fldS ?_ | with_reducible refine r_asgG ?_ | with_reducible refine r_eqB ?_ | with_reducible refine r_neB ?_ | with_reducible refine r_in ?_ | with_reducible refine r_st ?_ | with_reducible refine r_rf ?_ | with_reducible refine r_sgn ?_ | with_reducible refine r_ss ?_ | with_reducible refine r_ii ?_
  | with_reducible refine r_make ?_ | with_reducible refine r_oN1 ?_ | with_reducible refine r_oS1 ?_ | with_reducible refine r_oN2 ?_ | with_reducible refine r_oS2 ?_ | with_reducible refine r_thru ?_ | with_reducible refine r_bm ?_ | with_reducible refine r_bm0 ?_ | with_reducible refine r_dput ?_ | with_reducible refine r_T ?_ | with_reducible refine r_F ?_ | with_reducible refine r_NT ?_ | with_reducible refine r_NF ?_)
local macro_rules | `(tactic| walk_at "rd") => `(tactic| repeat walk_at "rd1")
local macro_rules | `(tactic| walk_at "rds") => `(tactic| repeat first
  | with_reducible refine r_seq ?_ | with_reducible refine r_asg ?_ | with_reducible refine r_next ?_ | with_reducible refine r_drop ?_ | with_reducible refine r_var rfl ?_ | with_reducible refine r_c ?_
  | with_reducible refine r_T ?_ | with_reducible refine r_F ?_ | with_reducible refine r_NT ?_ | with_reducible refine r_NF ?_)
local macro_rules | `(tactic| walk_at "rdo") => `(tactic| repeat first
  | walk_at "rd1" | with_reducible refine r_DT (by omega) ?_ | with_reducible refine r_DF (by omega) ?_ | with_reducible refine r_NDT (by omega) ?_ | with_reducible refine r_NDF (by omega) ?_
  | with_reducible refine r_NDT rfl ?_ | with_reducible refine r_DT rfl ?_ | refine r_DF (of_decide_eq_false rfl) ?_ | refine r_DT (of_decide_eq_true rfl) ?_ | refine r_NDF (of_decide_eq_false rfl) ?_ | with_reducible refine r_in1 ?_ | with_reducible refine r_s1 ?_)
section
variable {P : Program} {w : World} {K : PySem.W.Frag} {mg : Str → Option Value} {base : Heap}
def sp_is_whole (K : PySem.W.Frag) : Sp := fun vs H Q _ => ∃ x t, vs = [x] ∧ TyX K H x (.type t) ∧ t ∈ ["int", "bool", "str", "NoneType", "list", "tuple", "dict"] ∧ Q (.bl (t == "int")) H
abbrev N_is_whole : List Str := ["thing"]
theorem sc_is_whole : FnScope ["thing"] ["thing"] (defScope s_is_whole) := ⟨rfl, rfl, rfl, by decide +kernel, rfl, by decide +kernel, by decide +kernel⟩
theorem ok_is_whole {f : Addr} {fd : FuncData} (T : Tx K mg)  (F : FunP K "is_whole" "is_whole" s_is_whole f fd) : FnOk P w K mg base (L2.CX P w) 1 f fd ["thing"] (sp_is_whole K) := by
  refine F.ok sc_is_whole (fun vs H Q E h => ?_) (fun cdv A outer s H vs Q E hr h => ?_)
  · repeat first | (obtain ⟨e, _⟩ := h; subst e; rfl; done) | (obtain ⟨_, h⟩ := h)
  refine ⟨_, (pss_one (ps_ret (pe_and (pe_callB call_isi (by rfl) (fr_isinstance T) (by decide +kernel) (pa_cons (pv 0) (pa_cons (pe_ty (n := "int") rfl (fr_int T) (by decide +kernel)) pa_nil))) (pe_one (pe_not (pe_callB call_isi (by rfl) (fr_isinstance T) (by decide +kernel) (pa_cons (pv 0) (pa_cons (pe_ty (n := "bool") rfl (fr_bool T) (by decide +kernel)) pa_nil)))))))), ?_⟩
  try dsimp only [cxK]
  obtain ⟨x, t, rfl, ht, hm, k⟩ := h
  walk_at "rd"
  have e1 : ∃ b1 b2, kitB t "int" = some b1 ∧ kitB t "bool" = some b2 ∧ (b1 && !b2) = (t == "int") := by
    simp only [List.mem_cons, List.not_mem_nil, or_false] at hm
    rcases hm with rfl | rfl | rfl | rfl | rfl | rfl | rfl
    · exact ⟨true, false, by decide +kernel, by decide +kernel, by decide +kernel⟩
    · exact ⟨true, true, by decide +kernel, by decide +kernel, by decide +kernel⟩
    all_goals exact ⟨false, false, by decide +kernel, by decide +kernel, by decide +kernel⟩
  obtain ⟨b1, b2, h1, h2, h3⟩ := e1
  refine ⟨x, .ty "int", _, _, b1, rfl, .ty _, ht, kit_ty h1, ?_⟩
  walk_at "rd"
  rw [← h3] at k
  cases b1
  · walk_at "rd"
    exact k
  · walk_at "rd"
    refine ⟨x, .ty "bool", _, _, b2, rfl, .ty _, ht, kit_ty h2, ?_⟩
    walk_at "rd"
    exact k
theorem cal_is_whole (T : Tx K mg) : CalX P w K mg base 1 "is_whole" (sp_is_whole K) [] := by
  obtain ⟨fd, F⟩ := fn_is_whole T
  exact ⟨_, fd, _, [], ok_is_whole T F, g_is_whole T, F.kp, F.bindsN fun _ _ _ _ _ _ us hl => match us, hl with | [_], _ => rfl, .nil⟩

end
section
variable {P : Program} {w : World} {K : PySem.W.Frag} {mg : Str → Option Value} {base : Heap}

abbrev N_NoWidth_init : List Str := ["self", "found"]
theorem sc_NoWidth_init : FnScope ["self", "found"] ["self", "found"] (defScope s_NoWidth_init) := ⟨rfl, rfl, rfl, by decide +kernel, rfl, by decide +kernel, by decide +kernel⟩
theorem ok_NoWidth_init {f : Addr} {fd : FuncData} (T : Tx K mg)  (F : FunP K "__init__" "NoWidth.__init__" s_NoWidth_init f fd) : FnOk P w K mg base (L2.CX P w) 1 f fd ["self", "found"] (sp_exc1 K (He.ga K "NoWidth") "found") := by
  refine F.ok sc_NoWidth_init (fun vs H Q E h => ?_) (fun cdv A outer s H vs Q E hr h => ?_)
  · repeat first | (obtain ⟨e, _⟩ := h; subst e; rfl; done) | (obtain ⟨_, h⟩ := h)
  refine ⟨_, (pss_cons (ps_expr (He2.pe_weinit rfl (g_WiseError T) (ct_WiseError_init T) (pa_cons (pv 0) (pa_cons pe_str pa_nil))))
  (pss_one (ps_ost (pv 0) (pv 1)))), ?_⟩
  try dsimp only [cxK]
  obtain ⟨a, v, rfl, ha, k⟩ := h
  walk_at "rd"
  refine ⟨a, He.ga K "NoWidth", _, rfl, (by show 1 ≤ 1000; decide), (xc_NoWidth T).oex, ha, ?_⟩
  walk_at "rd"
  refine ⟨a, He.ga K "NoWidth", rfl, (xc_NoWidth T).oex, na_NoWidth_found T, .inl ⟨ha, fun dx hd hne => ?_⟩⟩
  exact k dx hd hne
theorem exc_NoWidth (T : Tx K mg) : ExcX P w K mg base 1 "NoWidth" (He.ga K "NoWidth") (sp_exc1 K (He.ga K "NoWidth") "found") := by
  obtain ⟨fd, F⟩ := fn_NoWidth_init T
  exact ⟨_, fd, _, (xc_NoWidth T).oex, (xi_NoWidth T).1, (xi_NoWidth T).2, ok_NoWidth_init T F, g_NoWidth T, F.bindsN fun _ _ _ _ _ _ us hl => match us, hl with | [_, _], _ => rfl⟩

end
section
variable {P : Program} {w : World} {K : PySem.W.Frag} {mg : Str → Option Value} {base : Heap}

abbrev N_NoWord_init : List Str := ["self", "found"]
theorem sc_NoWord_init : FnScope ["self", "found"] ["self", "found"] (defScope s_NoWord_init) := ⟨rfl, rfl, rfl, by decide +kernel, rfl, by decide +kernel, by decide +kernel⟩
theorem ok_NoWord_init {f : Addr} {fd : FuncData} (T : Tx K mg)  (F : FunP K "__init__" "NoWord.__init__" s_NoWord_init f fd) : FnOk P w K mg base (L2.CX P w) 1 f fd ["self", "found"] (sp_exc1 K (He.ga K "NoWord") "found") := by
  refine F.ok sc_NoWord_init (fun vs H Q E h => ?_) (fun cdv A outer s H vs Q E hr h => ?_)
  · repeat first | (obtain ⟨e, _⟩ := h; subst e; rfl; done) | (obtain ⟨_, h⟩ := h)
  refine ⟨_, (pss_cons (ps_expr (He2.pe_weinit rfl (g_WiseError T) (ct_WiseError_init T) (pa_cons (pv 0) (pa_cons pe_str pa_nil))))
  (pss_one (ps_ost (pv 0) (pv 1)))), ?_⟩
  try dsimp only [cxK]
  obtain ⟨a, v, rfl, ha, k⟩ := h
  walk_at "rd"
  refine ⟨a, He.ga K "NoWord", _, rfl, (by show 1 ≤ 1000; decide), (xc_NoWord T).oex, ha, ?_⟩
  walk_at "rd"
  refine ⟨a, He.ga K "NoWord", rfl, (xc_NoWord T).oex, na_NoWord_found T, .inl ⟨ha, fun dx hd hne => ?_⟩⟩
  exact k dx hd hne
theorem exc_NoWord (T : Tx K mg) : ExcX P w K mg base 1 "NoWord" (He.ga K "NoWord") (sp_exc1 K (He.ga K "NoWord") "found") := by
  obtain ⟨fd, F⟩ := fn_NoWord_init T
  exact ⟨_, fd, _, (xc_NoWord T).oex, (xi_NoWord T).1, (xi_NoWord T).2, ok_NoWord_init T F, g_NoWord T, F.bindsN fun _ _ _ _ _ _ us hl => match us, hl with | [_, _], _ => rfl⟩

end
section
variable {P : Program} {w : World} {K : PySem.W.Frag} {mg : Str → Option Value} {base : Heap}

abbrev N_NoKind_init : List Str := ["self", "found"]
theorem sc_NoKind_init : FnScope ["self", "found"] ["self", "found"] (defScope s_NoKind_init) := ⟨rfl, rfl, rfl, by decide +kernel, rfl, by decide +kernel, by decide +kernel⟩
theorem ok_NoKind_init {f : Addr} {fd : FuncData} (T : Tx K mg)  (F : FunP K "__init__" "NoKind.__init__" s_NoKind_init f fd) : FnOk P w K mg base (L2.CX P w) 1 f fd ["self", "found"] (sp_exc1 K (He.ga K "NoKind") "found") := by
  refine F.ok sc_NoKind_init (fun vs H Q E h => ?_) (fun cdv A outer s H vs Q E hr h => ?_)
  · repeat first | (obtain ⟨e, _⟩ := h; subst e; rfl; done) | (obtain ⟨_, h⟩ := h)
  refine ⟨_, (pss_cons (ps_expr (He2.pe_weinit rfl (g_WiseError T) (ct_WiseError_init T) (pa_cons (pv 0) (pa_cons pe_str pa_nil))))
  (pss_one (ps_ost (pv 0) (pv 1)))), ?_⟩
  try dsimp only [cxK]
  obtain ⟨a, v, rfl, ha, k⟩ := h
  walk_at "rd"
  refine ⟨a, He.ga K "NoKind", _, rfl, (by show 1 ≤ 1000; decide), (xc_NoKind T).oex, ha, ?_⟩
  walk_at "rd"
  refine ⟨a, He.ga K "NoKind", rfl, (xc_NoKind T).oex, na_NoKind_found T, .inl ⟨ha, fun dx hd hne => ?_⟩⟩
  exact k dx hd hne
theorem exc_NoKind (T : Tx K mg) : ExcX P w K mg base 1 "NoKind" (He.ga K "NoKind") (sp_exc1 K (He.ga K "NoKind") "found") := by
  obtain ⟨fd, F⟩ := fn_NoKind_init T
  exact ⟨_, fd, _, (xc_NoKind T).oex, (xi_NoKind T).1, (xi_NoKind T).2, ok_NoKind_init T F, g_NoKind T, F.bindsN fun _ _ _ _ _ _ us hl => match us, hl with | [_, _], _ => rfl⟩

end
section
variable {P : Program} {w : World} {K : PySem.W.Frag} {mg : Str → Option Value} {base : Heap}

abbrev N_NoText_init : List Str := ["self", "found"]
theorem sc_NoText_init : FnScope ["self", "found"] ["self", "found"] (defScope s_NoText_init) := ⟨rfl, rfl, rfl, by decide +kernel, rfl, by decide +kernel, by decide +kernel⟩
theorem ok_NoText_init {f : Addr} {fd : FuncData} (T : Tx K mg)  (F : FunP K "__init__" "NoText.__init__" s_NoText_init f fd) : FnOk P w K mg base (L2.CX P w) 1 f fd ["self", "found"] (sp_exc1 K (He.ga K "NoText") "found") := by
  refine F.ok sc_NoText_init (fun vs H Q E h => ?_) (fun cdv A outer s H vs Q E hr h => ?_)
  · repeat first | (obtain ⟨e, _⟩ := h; subst e; rfl; done) | (obtain ⟨_, h⟩ := h)
  refine ⟨_, (pss_cons (ps_expr (He2.pe_weinit rfl (g_WiseError T) (ct_WiseError_init T) (pa_cons (pv 0) (pa_cons pe_str pa_nil))))
  (pss_one (ps_ost (pv 0) (pv 1)))), ?_⟩
  try dsimp only [cxK]
  obtain ⟨a, v, rfl, ha, k⟩ := h
  walk_at "rd"
  refine ⟨a, He.ga K "NoText", _, rfl, (by show 1 ≤ 1000; decide), (xc_NoText T).oex, ha, ?_⟩
  walk_at "rd"
  refine ⟨a, He.ga K "NoText", rfl, (xc_NoText T).oex, na_NoText_found T, .inl ⟨ha, fun dx hd hne => ?_⟩⟩
  exact k dx hd hne
theorem exc_NoText (T : Tx K mg) : ExcX P w K mg base 1 "NoText" (He.ga K "NoText") (sp_exc1 K (He.ga K "NoText") "found") := by
  obtain ⟨fd, F⟩ := fn_NoText_init T
  exact ⟨_, fd, _, (xc_NoText T).oex, (xi_NoText T).1, (xi_NoText T).2, ok_NoText_init T F, g_NoText T, F.bindsN fun _ _ _ _ _ _ us hl => match us, hl with | [_, _], _ => rfl⟩

end
section
variable {P : Program} {w : World} {K : PySem.W.Frag} {mg : Str → Option Value} {base : Heap}

abbrev N_NoProgram_init : List Str := ["self", "line"]
theorem sc_NoProgram_init : FnScope ["self", "line"] ["self", "line"] (defScope s_NoProgram_init) := ⟨rfl, rfl, rfl, by decide +kernel, rfl, by decide +kernel, by decide +kernel⟩
theorem ok_NoProgram_init {f : Addr} {fd : FuncData} (T : Tx K mg)  (F : FunP K "__init__" "NoProgram.__init__" s_NoProgram_init f fd) : FnOk P w K mg base (L2.CX P w) 1 f fd ["self", "line"] (sp_exc1 K (He.ga K "NoProgram") "line") := by
  refine F.ok sc_NoProgram_init (fun vs H Q E h => ?_) (fun cdv A outer s H vs Q E hr h => ?_)
  · repeat first | (obtain ⟨e, _⟩ := h; subst e; rfl; done) | (obtain ⟨_, h⟩ := h)
  refine ⟨_, (pss_cons (ps_expr (He2.pe_weinit rfl (g_WiseError T) (ct_WiseError_init T) (pa_cons (pv 0) (pa_cons pe_str pa_nil))))
  (pss_one (ps_ost (pv 0) (pv 1)))), ?_⟩
  try dsimp only [cxK]
  obtain ⟨a, v, rfl, ha, k⟩ := h
  walk_at "rd"
  refine ⟨a, He.ga K "NoProgram", _, rfl, (by show 1 ≤ 1000; decide), (xc_NoProgram T).oex, ha, ?_⟩
  walk_at "rd"
  refine ⟨a, He.ga K "NoProgram", rfl, (xc_NoProgram T).oex, na_NoProgram_line T, .inl ⟨ha, fun dx hd hne => ?_⟩⟩
  exact k dx hd hne
theorem exc_NoProgram (T : Tx K mg) : ExcX P w K mg base 1 "NoProgram" (He.ga K "NoProgram") (sp_exc1 K (He.ga K "NoProgram") "line") := by
  obtain ⟨fd, F⟩ := fn_NoProgram_init T
  exact ⟨_, fd, _, (xc_NoProgram T).oex, (xi_NoProgram T).1, (xi_NoProgram T).2, ok_NoProgram_init T F, g_NoProgram T, F.bindsN fun _ _ _ _ _ _ us hl => match us, hl with | [_, _], _ => rfl⟩

end
section
variable {P : Program} {w : World} {K : PySem.W.Frag} {mg : Str → Option Value} {base : Heap}

abbrev N_TooMuch_init : List Str := ["self", "line"]
theorem sc_TooMuch_init : FnScope ["self", "line"] ["self", "line"] (defScope s_TooMuch_init) := ⟨rfl, rfl, rfl, by decide +kernel, rfl, by decide +kernel, by decide +kernel⟩
theorem ok_TooMuch_init {f : Addr} {fd : FuncData} (T : Tx K mg)  (F : FunP K "__init__" "TooMuch.__init__" s_TooMuch_init f fd) : FnOk P w K mg base (L2.CX P w) 1 f fd ["self", "line"] (sp_exc1 K (He.ga K "TooMuch") "line") := by
  refine F.ok sc_TooMuch_init (fun vs H Q E h => ?_) (fun cdv A outer s H vs Q E hr h => ?_)
  · repeat first | (obtain ⟨e, _⟩ := h; subst e; rfl; done) | (obtain ⟨_, h⟩ := h)
  refine ⟨_, (pss_cons (ps_expr (He2.pe_weinit rfl (g_WiseError T) (ct_WiseError_init T) (pa_cons (pv 0) (pa_cons pe_str pa_nil))))
  (pss_one (ps_ost (pv 0) (pv 1)))), ?_⟩
  try dsimp only [cxK]
  obtain ⟨a, v, rfl, ha, k⟩ := h
  walk_at "rd"
  refine ⟨a, He.ga K "TooMuch", _, rfl, (by show 1 ≤ 1000; decide), (xc_TooMuch T).oex, ha, ?_⟩
  walk_at "rd"
  refine ⟨a, He.ga K "TooMuch", rfl, (xc_TooMuch T).oex, na_TooMuch_line T, .inl ⟨ha, fun dx hd hne => ?_⟩⟩
  exact k dx hd hne
theorem exc_TooMuch (T : Tx K mg) : ExcX P w K mg base 1 "TooMuch" (He.ga K "TooMuch") (sp_exc1 K (He.ga K "TooMuch") "line") := by
  obtain ⟨fd, F⟩ := fn_TooMuch_init T
  exact ⟨_, fd, _, (xc_TooMuch T).oex, (xi_TooMuch T).1, (xi_TooMuch T).2, ok_TooMuch_init T F, g_TooMuch T, F.bindsN fun _ _ _ _ _ _ us hl => match us, hl with | [_, _], _ => rfl⟩

end
section
variable {P : Program} {w : World} {K : PySem.W.Frag} {mg : Str → Option Value} {base : Heap}

abbrev N_Unknown_init : List Str := ["self", "line", "name"]
theorem sc_Unknown_init : FnScope ["self", "line", "name"] ["self", "line", "name"] (defScope s_Unknown_init) := ⟨rfl, rfl, rfl, by decide +kernel, rfl, by decide +kernel, by decide +kernel⟩
theorem ok_Unknown_init {f : Addr} {fd : FuncData} (T : Tx K mg)  (F : FunP K "__init__" "Unknown.__init__" s_Unknown_init f fd) : FnOk P w K mg base (L2.CX P w) 1 f fd ["self", "line", "name"] (sp_exc2 K (He.ga K "Unknown") "line" "name") := by
  refine F.ok sc_Unknown_init (fun vs H Q E h => ?_) (fun cdv A outer s H vs Q E hr h => ?_)
  · repeat first | (obtain ⟨e, _⟩ := h; subst e; rfl; done) | (obtain ⟨_, h⟩ := h)
  refine ⟨_, (pss_cons (ps_expr (He2.pe_weinit rfl (g_WiseError T) (ct_WiseError_init T) (pa_cons (pv 0) (pa_cons pe_str pa_nil))))
  (pss_cons (ps_ost (pv 0) (pv 1))
  (pss_one (ps_ost (pv 0) (pv 2))))), ?_⟩
  try dsimp only [cxK]
  obtain ⟨a, v, u, rfl, ha, k⟩ := h
  walk_at "rd"
  refine ⟨a, He.ga K "Unknown", _, rfl, (by show 1 ≤ 1000; decide), (xc_Unknown T).oex, ha, ?_⟩
  walk_at "rd"
  refine ⟨a, He.ga K "Unknown", rfl, (xc_Unknown T).oex, na_Unknown_line T, .inl ⟨ha, fun dx hd hne => ?_⟩⟩
  walk_at "rd"
  refine ⟨a, He.ga K "Unknown", rfl, (xc_Unknown T).oex, na_Unknown_name T, .inr ⟨dx, _, upd_same, by rw [upd_ne hne, upd_same], (by show 1 ≤ 900; decide), ?_⟩⟩
  exact k dx hd hne
theorem exc_Unknown (T : Tx K mg) : ExcX P w K mg base 1 "Unknown" (He.ga K "Unknown") (sp_exc2 K (He.ga K "Unknown") "line" "name") := by
  obtain ⟨fd, F⟩ := fn_Unknown_init T
  exact ⟨_, fd, _, (xc_Unknown T).oex, (xi_Unknown T).1, (xi_Unknown T).2, ok_Unknown_init T F, g_Unknown T, F.bindsN fun _ _ _ _ _ _ us hl => match us, hl with | [_, _, _], _ => rfl⟩

end
section
variable {P : Program} {w : World} {K : PySem.W.Frag} {mg : Str → Option Value} {base : Heap}

abbrev N_WrongKind_init : List Str := ["self", "line", "name"]
theorem sc_WrongKind_init : FnScope ["self", "line", "name"] ["self", "line", "name"] (defScope s_WrongKind_init) := ⟨rfl, rfl, rfl, by decide +kernel, rfl, by decide +kernel, by decide +kernel⟩
theorem ok_WrongKind_init {f : Addr} {fd : FuncData} (T : Tx K mg)  (F : FunP K "__init__" "WrongKind.__init__" s_WrongKind_init f fd) : FnOk P w K mg base (L2.CX P w) 1 f fd ["self", "line", "name"] (sp_exc2 K (He.ga K "WrongKind") "line" "name") := by
  refine F.ok sc_WrongKind_init (fun vs H Q E h => ?_) (fun cdv A outer s H vs Q E hr h => ?_)
  · repeat first | (obtain ⟨e, _⟩ := h; subst e; rfl; done) | (obtain ⟨_, h⟩ := h)
  refine ⟨_, (pss_cons (ps_expr (He2.pe_weinit rfl (g_WiseError T) (ct_WiseError_init T) (pa_cons (pv 0) (pa_cons pe_str pa_nil))))
  (pss_cons (ps_ost (pv 0) (pv 1))
  (pss_one (ps_ost (pv 0) (pv 2))))), ?_⟩
  try dsimp only [cxK]
  obtain ⟨a, v, u, rfl, ha, k⟩ := h
  walk_at "rd"
  refine ⟨a, He.ga K "WrongKind", _, rfl, (by show 1 ≤ 1000; decide), (xc_WrongKind T).oex, ha, ?_⟩
  walk_at "rd"
  refine ⟨a, He.ga K "WrongKind", rfl, (xc_WrongKind T).oex, na_WrongKind_line T, .inl ⟨ha, fun dx hd hne => ?_⟩⟩
  walk_at "rd"
  refine ⟨a, He.ga K "WrongKind", rfl, (xc_WrongKind T).oex, na_WrongKind_name T, .inr ⟨dx, _, upd_same, by rw [upd_ne hne, upd_same], (by show 1 ≤ 900; decide), ?_⟩⟩
  exact k dx hd hne
theorem exc_WrongKind (T : Tx K mg) : ExcX P w K mg base 1 "WrongKind" (He.ga K "WrongKind") (sp_exc2 K (He.ga K "WrongKind") "line" "name") := by
  obtain ⟨fd, F⟩ := fn_WrongKind_init T
  exact ⟨_, fd, _, (xc_WrongKind T).oex, (xi_WrongKind T).1, (xi_WrongKind T).2, ok_WrongKind_init T F, g_WrongKind T, F.bindsN fun _ _ _ _ _ _ us hl => match us, hl with | [_, _, _], _ => rfl⟩

end
section
variable {P : Program} {w : World} {K : PySem.W.Frag} {mg : Str → Option Value} {base : Heap}

abbrev N_Twice_init : List Str := ["self", "line", "name"]
theorem sc_Twice_init : FnScope ["self", "line", "name"] ["self", "line", "name"] (defScope s_Twice_init) := ⟨rfl, rfl, rfl, by decide +kernel, rfl, by decide +kernel, by decide +kernel⟩
theorem ok_Twice_init {f : Addr} {fd : FuncData} (T : Tx K mg)  (F : FunP K "__init__" "Twice.__init__" s_Twice_init f fd) : FnOk P w K mg base (L2.CX P w) 1 f fd ["self", "line", "name"] (sp_exc2 K (He.ga K "Twice") "line" "name") := by
  refine F.ok sc_Twice_init (fun vs H Q E h => ?_) (fun cdv A outer s H vs Q E hr h => ?_)
  · repeat first | (obtain ⟨e, _⟩ := h; subst e; rfl; done) | (obtain ⟨_, h⟩ := h)
  refine ⟨_, (pss_cons (ps_expr (He2.pe_weinit rfl (g_WiseError T) (ct_WiseError_init T) (pa_cons (pv 0) (pa_cons pe_str pa_nil))))
  (pss_cons (ps_ost (pv 0) (pv 1))
  (pss_one (ps_ost (pv 0) (pv 2))))), ?_⟩
  try dsimp only [cxK]
  obtain ⟨a, v, u, rfl, ha, k⟩ := h
  walk_at "rd"
  refine ⟨a, He.ga K "Twice", _, rfl, (by show 1 ≤ 1000; decide), (xc_Twice T).oex, ha, ?_⟩
  walk_at "rd"
  refine ⟨a, He.ga K "Twice", rfl, (xc_Twice T).oex, na_Twice_line T, .inl ⟨ha, fun dx hd hne => ?_⟩⟩
  walk_at "rd"
  refine ⟨a, He.ga K "Twice", rfl, (xc_Twice T).oex, na_Twice_name T, .inr ⟨dx, _, upd_same, by rw [upd_ne hne, upd_same], (by show 1 ≤ 900; decide), ?_⟩⟩
  exact k dx hd hne
theorem exc_Twice (T : Tx K mg) : ExcX P w K mg base 1 "Twice" (He.ga K "Twice") (sp_exc2 K (He.ga K "Twice") "line" "name") := by
  obtain ⟨fd, F⟩ := fn_Twice_init T
  exact ⟨_, fd, _, (xc_Twice T).oex, (xi_Twice T).1, (xi_Twice T).2, ok_Twice_init T F, g_Twice T, F.bindsN fun _ _ _ _ _ _ us hl => match us, hl with | [_, _, _], _ => rfl⟩

end
section
variable {P : Program} {w : World} {K : PySem.W.Frag} {mg : Str → Option Value} {base : Heap}
def sp_need_width (K : PySem.W.Frag) : Sp := fun vs H Q E => ∃ x t, vs = [x] ∧ TyX K H x (.type t) ∧ t ∈ ["int", "bool", "str", "NoneType", "list", "tuple", "dict"] ∧ ((∃ i, x = .int i ∧ 4 ≤ i ∧ i ≤ 32 ∧ Q .non H) ∨ ((∀ i, x = .int i → t = "int" ∧ ¬ (4 ≤ i ∧ i ≤ 32)) ∧ (t = "int" → ∃ i, x = .int i) ∧ Rz1 K E H "NoWidth" "found" x))
abbrev N_need_width : List Str := ["width"]
theorem sc_need_width : FnScope ["width"] ["width"] (defScope s_need_width) := ⟨rfl, rfl, rfl, by decide +kernel, rfl, by decide +kernel, by decide +kernel⟩
theorem ok_need_width {f : Addr} {fd : FuncData} (T : Tx K mg)  (F : FunP K "need_width" "need_width" s_need_width f fd) : FnOk P w K mg base (L2.CX P w) 3 f fd ["width"] (sp_need_width K) := by
  refine F.ok sc_need_width (fun vs H Q E h => ?_) (fun cdv A outer s H vs Q E hr h => ?_)
  · repeat first | (obtain ⟨e, _⟩ := h; subst e; rfl; done) | (obtain ⟨_, h⟩ := h)
  refine ⟨_, (pss_one (ps_if (PW.pt (pw_or (pt_not (pt_val (pe_cX (cal_is_whole T) hr (by decide) rfl pU (pa_cons (pv 0) pa_nil)))) (pw_or1 (pt_not (pt_chain op_le op_le (pe_gint rfl (i_LEAST_WIDTH T)) (pv 0) (pe_gint rfl (i_GREATEST_WIDTH T))))))) (pss_one (ps_rX rfl tU (exc_NoWidth T) hr (by decide) rfl (pa_cons (pv 0) pa_nil))) pss_nil)), ?_⟩
  try dsimp only [cxK]
  obtain ⟨x, t, rfl, ht, hm, k⟩ := h
  walk_at "rd"
  refine ⟨x, t, rfl, ht, hm, ?_⟩
  walk_at "rd"
  rcases k with ⟨i, rfl, h4, h32, k⟩ | ⟨h1, h2, k⟩
  · have et : t = "int" := by
      cases ht with
      | base h => cases h; rfl
    subst et
    rw [show ("int" == "int") = true by decide]
    walk_at "rd"
    refine r_DT h4 ?_
    walk_at "rd"
    rw [decide_eq_true h32]
    walk_at "rd"
    exact k
  · by_cases et : t = "int"
    · subst et
      obtain ⟨i, rfl⟩ := h2 rfl
      have hb := (h1 i rfl).2
      rw [show ("int" == "int") = true by decide]
      walk_at "rd"
      refine r_iteD (fun h4 => ?_) (fun h4 => ?_)
      · walk_at "rd"
        rw [decide_eq_false (fun h32 => hb ⟨h4, h32⟩)]
        walk_at "rd"
        exact mk1 k
      · walk_at "rd"
        exact mk1 k
    · rw [show (t == "int") = false by simpa using et]
      walk_at "rd"
      exact mk1 k
theorem cal_need_width (T : Tx K mg) : CalX P w K mg base 3 "need_width" (sp_need_width K) [] := by
  obtain ⟨fd, F⟩ := fn_need_width T
  exact ⟨_, fd, _, [], ok_need_width T F, g_need_width T, F.kp, F.bindsN fun _ _ _ _ _ _ us hl => match us, hl with | [_], _ => rfl, .nil⟩

end
section
variable {P : Program} {w : World} {K : PySem.W.Frag} {mg : Str → Option Value} {base : Heap}
/-- a text of such signs alone, one at least -/
def areSigns (x s : Str) : Bool := !x.cps.toList.isEmpty && x.cps.toList.all fun c => decide (c ∈ s.cps.toList)
def sp_are_signs (K : PySem.W.Frag) : Sp := fun vs H Q _ => ∃ x s, vs = [.str x, .str s] ∧ Q (.bl (areSigns x s)) H
theorem empty_iff (x : Str) : x = "" ↔ x.cps.toList = [] := by
  constructor
  · rintro rfl; rfl
  · intro h
    obtain ⟨⟨l⟩⟩ := x
    have h' : l = [] := h
    rw [h'] <;> rfl
abbrev N_are_signs : List Str := ["text", "signs", "sign"]
theorem sc_are_signs : FnScope ["text", "signs", "sign"] ["text", "signs"] (defScope s_are_signs) := ⟨rfl, rfl, rfl, by decide +kernel, rfl, by decide +kernel, by decide +kernel⟩
theorem ok_are_signs {f : Addr} {fd : FuncData} (T : Tx K mg)  (F : FunP K "are_signs" "are_signs" s_are_signs f fd) : FnOk P w K mg base (L2.CX P w) 1 f fd ["text", "signs"] (sp_are_signs K) := by
  refine F.ok sc_are_signs (fun vs H Q E h => ?_) (fun cdv A outer s H vs Q E hr h => ?_)
  · repeat first | (obtain ⟨e, _⟩ := h; subst e; rfl; done) | (obtain ⟨_, h⟩ := h)
  refine ⟨_, (pss_cons (ps_if (pt_cmpR op_eq (pv 0) pe_str (nomark _)) (pss_one (ps_ret pe_bl)) pss_nil)
  (pss_cons (ps_for oU rfl (pi_str (pv 0)) (pg_name (i := 2) sc_are_signs.nd rfl (Or.inl rfl))
  (pss_one (ps_if (pt_cmpR op_notIn_sign (pv 2) (pv 1) (by with_unfolding_all rfl)) (pss_one (ps_ret pe_bl)) pss_nil)))
  (pss_one (ps_ret pe_bl)))), ?_⟩
  try dsimp only [cxK]
  obtain ⟨x, s, rfl, k⟩ := h
  walk_at "rd"
  refine r_iteD (fun e => ?_) (fun e => ?_)
  · walk_at "rd"
    rw [empty_iff] at e
    unfold areSigns at k
    rw [e] at k
    exact k
  · rw [empty_iff] at e
    walk_at "rd"
    refine r_forStr ?_ mono_var
    walk_at "rd"
    refine ⟨fun i σ' H' => (∃ v, σ' = [some (.str x), some (.str s), v]) ∧ H' = H ∧ ∀ c ∈ x.cps.toList.take i, c ∈ s.cps.toList, ⟨⟨_, rfl⟩, rfl, by simp⟩, ?_, ?_⟩
    · rintro i c σ' H' hc ⟨⟨v, rfl⟩, rfl, hall⟩
      walk_at "rd"
      refine r_iteN (fun hn => ?_) (fun hy => ?_)
      · walk_at "rd"
        have : areSigns x s = false := by
          unfold areSigns
          have : (x.cps.toList.all fun c => decide (c ∈ s.cps.toList)) = false := by
            rw [List.all_eq_false]
            exact ⟨c, List.mem_of_getElem? hc, by simpa using hn⟩
          rw [this, Bool.and_false]
        rw [this] at k
        exact k
      · refine ⟨⟨_, rfl⟩, rfl, fun d hd => ?_⟩
        rw [List.take_add_one, hc] at hd
        rcases List.mem_append.mp hd with hd | hd
        · exact hall d hd
        · simp at hd
          rw [hd]; exact hy
    · rintro σ' H' ⟨⟨v, rfl⟩, rfl, hall⟩
      walk_at "rd"
      have : areSigns x s = true := by
        unfold areSigns
        rw [Bool.and_eq_true, List.all_eq_true]
        refine ⟨by simpa using e, fun c hc => ?_⟩
        rw [List.take_length] at hall
        simpa using hall c hc
      rw [this] at k
      exact k
theorem cal_are_signs (T : Tx K mg) : CalX P w K mg base 1 "are_signs" (sp_are_signs K) [] := by
  obtain ⟨fd, F⟩ := fn_are_signs T
  exact ⟨_, fd, _, [], ok_are_signs T F, g_are_signs T, F.kp, F.bindsN fun _ _ _ _ _ _ us hl => match us, hl with | [_, _], _ => rfl, .nil⟩

end
section
variable {P : Program} {w : World} {K : PySem.W.Frag} {mg : Str → Option Value} {base : Heap}
def F_bb : List Str := ["add", "sub", "addstop", "substop", "low", "high", "less", "same", "over"]
def F_bk : List Str := ["left", "right"]
def F_bn : List Str := ["rest", "part"]
def F_b : List Str := ["copy", "pick"]
def F_w : List Str := ["div", "times"]
/-- the forms of the words behind a deed -/
def formOf (d : Str) : Str := if d ∈ F_bb then "bb" else if d ∈ F_bk then "bk" else if d ∈ F_bn then "bn" else if d ∈ F_b then (if d = "pick" then "bbb" else "b") else if d ∈ F_w then (if d = "times" then "brw" else "bnw") else if d = "mul" then "bbw" else ""
def sp_form_of (K : PySem.W.Frag) : Sp := fun vs H Q _ => ∃ d, vs = [.str d] ∧ Rt H Q (.str (formOf d))
abbrev N_form_of : List Str := ["deed"]
theorem sc_form_of : FnScope ["deed"] ["deed"] (defScope s_form_of) := ⟨rfl, rfl, rfl, by decide +kernel, rfl, by decide +kernel, by decide +kernel⟩
theorem ok_form_of {f : Addr} {fd : FuncData} (T : Tx K mg)  (F : FunP K "form_of" "form_of" s_form_of f fd) : FnOk P w K mg base (L2.CX P w) 1 f fd ["deed"] (sp_form_of K) := by
  refine F.ok sc_form_of (fun vs H Q E h => ?_) (fun cdv A outer s H vs Q E hr h => ?_)
  · repeat first | (obtain ⟨e, _⟩ := h; subst e; rfl; done) | (obtain ⟨_, h⟩ := h)
  refine ⟨_, (pss_cons (ps_if (pt_cmpR op_in_seq (pv 0) (pe_tup (pa_cons pe_str (pa_cons pe_str (pa_cons pe_str (pa_cons pe_str (pa_cons pe_str (pa_cons pe_str (pa_cons pe_str (pa_cons pe_str (pa_cons pe_str pa_nil)))))))))) (by with_unfolding_all rfl)) (pss_one (ps_ret pe_str)) pss_nil)
  (pss_cons (ps_if (pt_cmpR op_in_seq (pv 0) (pe_tup (pa_cons pe_str (pa_cons pe_str pa_nil))) (by with_unfolding_all rfl)) (pss_one (ps_ret pe_str)) pss_nil)
  (pss_cons (ps_if (pt_cmpR op_in_seq (pv 0) (pe_tup (pa_cons pe_str (pa_cons pe_str pa_nil))) (by with_unfolding_all rfl)) (pss_one (ps_ret pe_str)) pss_nil)
  (pss_cons (ps_if (pt_cmpR op_in_seq (pv 0) (pe_tup (pa_cons pe_str (pa_cons pe_str pa_nil))) (by with_unfolding_all rfl)) (pss_one (ps_ret (pe_ix ix_list (pe_lst (pa_cons pe_str (pa_cons pe_str pa_nil))) (pe_callTy call_int1 (by rfl) (fr_int T) (by decide +kernel) (pa_cons (pe_cmpR op_eq (pv 0) pe_str (nomark _)) pa_nil)) (fun _ _ => rfl)))) pss_nil)
  (pss_cons (ps_if (pt_cmpR op_in_seq (pv 0) (pe_tup (pa_cons pe_str (pa_cons pe_str pa_nil))) (by with_unfolding_all rfl)) (pss_one (ps_ret (pe_ix ix_list (pe_lst (pa_cons pe_str (pa_cons pe_str pa_nil))) (pe_callTy call_int1 (by rfl) (fr_int T) (by decide +kernel) (pa_cons (pe_cmpR op_eq (pv 0) pe_str (nomark _)) pa_nil)) (fun _ _ => rfl)))) pss_nil)
  (pss_cons (ps_if (pt_cmpR op_eq (pv 0) pe_str (nomark _)) (pss_one (ps_ret pe_str)) pss_nil)
  (pss_one (ps_ret pe_str)))))))), ?_⟩
  try dsimp only [cxK]
  obtain ⟨d, rfl, k⟩ := h
  walk_at "rd"
  refine r_inNew F_bb (by decide) fun q1 H1 _ s1 => ?_
  walk_at "rd"
  refine r_iteD (fun e => ?_) (fun e1 => ?_)
  · walk_at "rd"
    exact (by unfold formOf at k; rw [if_pos e] at k; exact k.go s1)
  unfold formOf at k
  rw [if_neg e1] at k
  walk_at "rd"
  refine r_inNew F_bk (by decide) fun q2 H2 _ s2 => ?_
  walk_at "rd"
  refine r_iteD (fun e => ?_) (fun e2 => ?_)
  · walk_at "rd"
    exact (by rw [if_pos e] at k; exact k.go (s1.trans s2))
  rw [if_neg e2] at k
  walk_at "rd"
  refine r_inNew F_bn (by decide) fun q3 H3 _ s3 => ?_
  walk_at "rd"
  have s13 := (s1.trans s2).trans s3
  refine r_iteD (fun e => ?_) (fun e3 => ?_)
  · walk_at "rd"
    exact (by rw [if_pos e] at k; exact k.go s13)
  rw [if_neg e3] at k
  walk_at "rd"
  refine r_inNew F_b (by decide) fun q4 H4 _ s4 => ?_
  walk_at "rd"
  have s14 := s13.trans s4
  refine r_iteD (fun e => ?_) (fun e4 => ?_)
  · walk_at "rd"
    refine r_newL fun q hq => ?_
    walk_at "rd"
    refine r_intB ?_
    rw [if_pos e] at k
    by_cases hp : d = "pick"
    · rw [decide_eq_true hp]
      refine r_ixL (SqL.of upd_same) at1 ?_
      rw [if_pos hp] at k
      exact k.go (s14.new' hq)
    · rw [decide_eq_false hp]
      refine r_ixL (SqL.of upd_same) at0 ?_
      rw [if_neg hp] at k
      exact k.go (s14.new' hq)
  rw [if_neg e4] at k
  walk_at "rd"
  refine r_inNew F_w (by decide) fun q5 H5 _ s5 => ?_
  walk_at "rd"
  have s15 := s14.trans s5
  refine r_iteD (fun e => ?_) (fun e5 => ?_)
  · walk_at "rd"
    refine r_newL fun q hq => ?_
    walk_at "rd"
    refine r_intB ?_
    rw [if_pos e] at k
    by_cases hp : d = "times"
    · rw [decide_eq_true hp]
      refine r_ixL (SqL.of upd_same) at1 ?_
      rw [if_pos hp] at k
      exact k.go (s15.new' hq)
    · rw [decide_eq_false hp]
      refine r_ixL (SqL.of upd_same) at0 ?_
      rw [if_neg hp] at k
      exact k.go (s15.new' hq)
  rw [if_neg e5] at k
  walk_at "rd"
  refine r_iteD (fun e => ?_) (fun e6 => ?_)
  · walk_at "rd"
    exact (by rw [if_pos e] at k; exact k.go s15)
  · walk_at "rd"
    exact (by rw [if_neg e6] at k; exact k.go s15)
theorem cal_form_of (T : Tx K mg) : CalX P w K mg base 1 "form_of" (sp_form_of K) [] := by
  obtain ⟨fd, F⟩ := fn_form_of T
  exact ⟨_, fd, _, [], ok_form_of T F, g_form_of T, F.kp, F.bindsN fun _ _ _ _ _ _ us hl => match us, hl with | [_], _ => rfl, .nil⟩

end
section
variable {P : Program} {w : World} {K : PySem.W.Frag} {mg : Str → Option Value} {base : Heap}
def HEADSl : List Str := ["width", "in", "out", "plain", "signed", "point", "set", "repeat", "end"]
def WAYSl : List Str := ["down", "up", "cut", "near"]
def isName (x : Str) : Bool := decide (x.length ≤ 6) && areSigns x "abcdefghijklmnopqrstuvwxyz" && !decide (x ∈ HEADSl) && !decide (x ∈ WAYSl) && decide (formOf x = "")
def sp_is_name (K : PySem.W.Frag) : Sp := fun vs H Q _ => ∃ x, vs = [.str x] ∧ x.length ≤ 100000 ∧ Rt H Q (.bl (isName x))
abbrev N_is_name : List Str := ["text"]
theorem sc_is_name : FnScope ["text"] ["text"] (defScope s_is_name) := ⟨rfl, rfl, rfl, by decide +kernel, rfl, by decide +kernel, by decide +kernel⟩
theorem ok_is_name {f : Addr} {fd : FuncData} (T : Tx K mg)  (F : FunP K "is_name" "is_name" s_is_name f fd) : FnOk P w K mg base (L2.CX P w) 2 f fd ["text"] (sp_is_name K) := by
  refine F.ok sc_is_name (fun vs H Q E h => ?_) (fun cdv A outer s H vs Q E hr h => ?_)
  · repeat first | (obtain ⟨e, _⟩ := h; subst e; rfl; done) | (obtain ⟨_, h⟩ := h)
  refine ⟨_, (pss_cons (ps_if (PW.pt (pw_or (pt_cmpR op_gt (pe_callB call_len_str (by rfl) (fr_len T) (by decide +kernel) (pa_cons (pv 0) pa_nil)) (pe_gint rfl (i_LONGEST_NAME T)) (nomark _)) (pw_or1 (pt_not (pt_val (pe_cX (cal_are_signs T) hr (by decide) rfl pU (pa_cons (pv 0) (pa_cons pe_str pa_nil)))))))) (pss_one (ps_ret pe_bl)) pss_nil)
  (pss_one (ps_ret (pe_and (pe_cmpR op_notIn_seq (pv 0) (pe_gref rfl (g_HEADS T)) (by with_unfolding_all rfl)) (pe_and (pe_cmpR op_notIn_seq (pv 0) (pe_gref rfl (g_WAYS T)) (by with_unfolding_all rfl)) (pe_one (pe_cmpR op_eq (pe_cX (cal_form_of T) hr (by decide) rfl pU (pa_cons (pv 0) pa_nil)) pe_str (nomark _)))))))), ?_⟩
  try dsimp only [cxK]
  obtain ⟨x, rfl, hl, k⟩ := h
  unfold isName at k
  walk_at "rd"
  refine r_lenS hl ?_
  walk_at "rd"
  refine r_iteD (fun e => ?_) (fun e => ?_)
  · walk_at "rd"
    rw [show decide (x.length ≤ 6) = false from decide_eq_false (by omega)] at k
    exact k.go (Same.refl _)
  rw [show decide (x.length ≤ 6) = true from decide_eq_true (by omega)] at k
  walk_at "rd"
  refine ⟨x, _, rfl, ?_⟩
  walk_at "rd"
  cases hs : areSigns x "abcdefghijklmnopqrstuvwxyz"
  · walk_at "rd"
    rw [hs] at k
    exact k.go (Same.refl _)
  rw [hs] at k
  walk_at "rd"
  refine r_ninTp (l := HEADSl) (tp_HEADS T H) ?_
  walk_at "rd"
  by_cases h1 : x ∈ HEADSl
  · rw [decide_eq_true h1] at k ⊢
    walk_at "rd"
    exact k.go (Same.refl _)
  rw [decide_eq_false h1] at k ⊢
  walk_at "rd"
  refine r_ninTp (l := WAYSl) (tp_WAYS T H) ?_
  walk_at "rd"
  by_cases h2 : x ∈ WAYSl
  · rw [decide_eq_true h2] at k ⊢
    walk_at "rd"
    exact k.go (Same.refl _)
  rw [decide_eq_false h2] at k ⊢
  walk_at "rd"
  refine ⟨x, rfl, fun H1 s1 => ?_⟩
  walk_at "rd"
  exact k.go s1
theorem cal_is_name (T : Tx K mg) : CalX P w K mg base 2 "is_name" (sp_is_name K) [] := by
  obtain ⟨fd, F⟩ := fn_is_name T
  exact ⟨_, fd, _, [], ok_is_name T F, g_is_name T, F.kp, F.bindsN fun _ _ _ _ _ _ us hl => match us, hl with | [_], _ => rfl, .nil⟩

end
section
variable {P : Program} {w : World} {K : PySem.W.Frag} {mg : Str → Option Value} {base : Heap}
def DIG : Str := "0123456789"
theorem dig_mem {c : Nat} (h : c ∈ DIG.cps.toList) : (decide (48 ≤ c) && decide (c ≤ 57)) = true := by
  have e : DIG.cps.toList = [48, 49, 50, 51, 52, 53, 54, 55, 56, 57] := by decide +kernel
  rw [e] at h
  simp only [List.mem_cons, List.not_mem_nil, or_false] at h
  simp only [Bool.and_eq_true, decide_eq_true_eq]
  omega
theorem digits_int {x : Str} (h : areSigns x DIG = true) (hl : x.length ≤ 640) : PySem.intText? x = some ((NumText.digitsVal x.cps.toList : Nat) : Int) := by
  unfold areSigns at h
  obtain ⟨h1, h2⟩ := Bool.and_eq_true_iff.mp h
  have e : x = SX.S x.cps.toList := (SX.S_tl x).symm
  rw [e]
  refine SX.int_S ?_ ?_ ?_
  · rw [List.all_eq_true] at h2 ⊢
    exact fun c hc => dig_mem (by simpa using h2 c hc)
  · intro z; rw [z] at h1; cases h1
  · have : x.cps.toList.length = x.length := Array.length_toList
    omega
/-- the number that a text writes plainly -/
def numberIn (x : Str) (lo hi : Int) : Option Int :=
  if decide (x.length ≤ 10) && areSigns x DIG && !(decide (x.cps.toList.head? = some 48) && decide (1 < x.length)) then
    (if lo ≤ ((NumText.digitsVal x.cps.toList : Nat) : Int) ∧ ((NumText.digitsVal x.cps.toList : Nat) : Int) ≤ hi then some ((NumText.digitsVal x.cps.toList : Nat) : Int) else none) else none
/-- a number or None -/
def oI : Option Int → V
  | some i => .int i
  | none => .non
def sp_number_in (K : PySem.W.Frag) : Sp := fun vs H Q _ => ∃ x lo hi, vs = [.str x, .int lo, .int hi] ∧ x.length ≤ 100000 ∧ Rt H Q (oI (numberIn x lo hi))
abbrev N_number_in : List Str := ["text", "low", "high"]
theorem sc_number_in : FnScope ["text", "low", "high"] ["text", "low", "high"] (defScope s_number_in) := ⟨rfl, rfl, rfl, by decide +kernel, rfl, by decide +kernel, by decide +kernel⟩
theorem ok_number_in {f : Addr} {fd : FuncData} (T : Tx K mg)  (F : FunP K "number_in" "number_in" s_number_in f fd) : FnOk P w K mg base (L2.CX P w) 2 f fd ["text", "low", "high"] (sp_number_in K) := by
  refine F.ok sc_number_in (fun vs H Q E h => ?_) (fun cdv A outer s H vs Q E hr h => ?_)
  · repeat first | (obtain ⟨e, _⟩ := h; subst e; rfl; done) | (obtain ⟨_, h⟩ := h)
  refine ⟨_, (pss_cons (ps_if (PW.pt (pw_or (pt_cmpR op_gt (pe_callB call_len_str (by rfl) (fr_len T) (by decide +kernel) (pa_cons (pv 0) pa_nil)) (pe_gint rfl (i_LONGEST_NUMBER T)) (nomark _)) (pw_or (pt_not (pt_val (pe_cX (cal_are_signs T) hr (by decide) rfl pU (pa_cons (pv 0) (pa_cons pe_str pa_nil))))) (pw_or1 (PW.pt (pw_and (pt_cmpR op_eq (pe_ix ix_str (pv 0) pe_int (fun _ _ => rfl)) pe_str (nomark _)) (pw_and1 (pt_cmpR op_gt (pe_callB call_len_str (by rfl) (fr_len T) (by decide +kernel) (pa_cons (pv 0) pa_nil)) pe_int (nomark _))))))))) (pss_one (ps_ret pe_non)) pss_nil)
  (pss_cons (ps_if (pt_not (pt_chain op_le op_le (pv 1) (pe_callTy call_int_str (by rfl) (fr_int T) (by decide +kernel) (pa_cons (pv 0) pa_nil)) (pv 2))) (pss_one (ps_ret pe_non)) pss_nil)
  (pss_one (ps_ret (pe_callTy call_int_str (by rfl) (fr_int T) (by decide +kernel) (pa_cons (pv 0) pa_nil)))))), ?_⟩
  try dsimp only [cxK]
  obtain ⟨x, lo, hi, rfl, hl, k⟩ := h
  unfold numberIn at k
  walk_at "rds"
  refine r_ifB (!(decide (x.length ≤ 10) && areSigns x DIG && !(decide (x.cps.toList.head? = some 48) && decide (1 < x.length)))) (fun B kB => ?_) (fun H1 s1 => ?_)
  · walk_at "rd"
    refine r_lenS hl ?_
    walk_at "rd"
    refine r_iteD (fun e => ?_) (fun e => ?_)
    · rw [show decide (x.length ≤ 10) = false from decide_eq_false (by omega)] at kB
      exact kB _ (Same.refl _)
    rw [show decide (x.length ≤ 10) = true from decide_eq_true (by omega)] at kB
    walk_at "rd"
    refine ⟨x, _, rfl, ?_⟩
    walk_at "rd"
    rw [show ("0123456789" : Str) = DIG from rfl]
    cases hs : areSigns x DIG
    · walk_at "rd"
      rw [hs] at kB
      exact kB _ (Same.refl _)
    rw [hs] at kB
    walk_at "rd"
    obtain ⟨c, r, hx⟩ : ∃ c r, x.cps.toList = c :: r := by
      unfold areSigns at hs
      cases h : x.cps.toList with
      | nil => rw [h] at hs; cases hs
      | cons c r => exact ⟨c, r, rfl⟩
    refine r_ixS hl (by rw [hx]; exact at0) ?_
    have ec : decide (x.cps.toList.head? = some 48) = decide ((⟨#[c]⟩ : Str) = "0") := by
      rw [hx]
      have e0 : ("0" : Str) = ⟨#[48]⟩ := by decide +kernel
      rw [e0]
      by_cases h : c = 48
      · subst h; simp
      · have h2 : ¬ (⟨#[c]⟩ : Str) = ⟨#[48]⟩ := fun z => h (by injection z with z; injection z with z; injection z)
        rw [decide_eq_false h2]
        simpa using h
    rw [ec] at kB
    walk_at "rd"
    refine r_iteD (fun e1 => ?_) (fun e1 => ?_)
    · rw [decide_eq_true e1] at kB
      walk_at "rd"
      refine r_lenS hl ?_
      walk_at "rd"
      have e2 : decide ((1 : Int) < (x.length : Int)) = decide (1 < x.length) := by
        by_cases h : 1 < x.length
        · rw [decide_eq_true h, decide_eq_true (by omega)]
        · rw [decide_eq_false h, decide_eq_false (by omega)]
      rw [e2]
      have k2 := kB H (Same.refl _)
      cases h3 : decide (1 < x.length) <;> rw [h3] at k2 <;> exact k2
    · rw [decide_eq_false e1] at kB
      exact kB _ (Same.refl _)
  cases hc : (decide (x.length ≤ 10) && areSigns x DIG && !(decide (x.cps.toList.head? = some 48) && decide (1 < x.length)))
  · rw [hc] at k
    walk_at "rd"
    exact k.go s1
  rw [hc] at k
  have hc2 := Bool.and_eq_true_iff.mp (Bool.and_eq_true_iff.mp hc).1
  have num := digits_int hc2.2 (by have := of_decide_eq_true hc2.1; omega)
  have hl2 : x.length ≤ 640 := by have := of_decide_eq_true hc2.1; omega
  walk_at "rd"
  refine r_intS num hl2 ?_
  walk_at "rd"
  refine r_iteD (fun e1 => ?_) (fun e1 => ?_)
  · walk_at "rd"
    by_cases e2 : ((NumText.digitsVal x.cps.toList : Nat) : Int) ≤ hi
    · rw [decide_eq_true e2]
      walk_at "rd"
      refine r_intS num hl2 ?_
      have k2 := k.go s1
      rw [if_pos rfl, if_pos ⟨e1, e2⟩] at k2
      exact k2
    · rw [decide_eq_false e2]
      walk_at "rd"
      have k2 := k.go s1
      rw [if_pos rfl, if_neg (fun z => e2 z.2)] at k2
      exact k2
  · walk_at "rd"
    have k2 := k.go s1
    rw [if_pos rfl, if_neg (fun z => e1 z.1)] at k2
    exact k2
theorem cal_number_in (T : Tx K mg) : CalX P w K mg base 2 "number_in" (sp_number_in K) [] := by
  obtain ⟨fd, F⟩ := fn_number_in T
  exact ⟨_, fd, _, [], ok_number_in T F, g_number_in T, F.kp, F.bindsN fun _ _ _ _ _ _ us hl => match us, hl with | [_, _, _], _ => rfl, .nil⟩

end
section
variable {P : Program} {w : World} {K : PySem.W.Frag} {mg : Str → Option Value} {base : Heap}
theorem clsK (T : Tx K mg) : ∀ t, Cls K (clsOf K t)
  | .plain => c_Plain T
  | .signed => c_Signed T
  | .point => c_Pointed T
theorem naK_width (T : Tx K mg) : ∀ t, NoAttr K (clsOf K t) "width"
  | .plain => na_Plain_width T
  | .signed => na_Signed_width T
  | .point => na_Pointed_width T
theorem naK_point (T : Tx K mg) : ∀ t, NoAttr K (clsOf K t) "point"
  | .plain => na_Plain_point T
  | .signed => na_Signed_point T
  | .point => na_Pointed_point T
theorem tag_plain (T : Tx K mg) {t : KTag} (h : He.ga K "Plain" = clsOf K t) : t = .plain := by
  cases t
  · rfl
  · exact absurd h (ne_Plain_Signed T)
  · exact absurd h (ne_Plain_Pointed T)
theorem tag_signed (T : Tx K mg) {t : KTag} (h : He.ga K "Signed" = clsOf K t) : t = .signed := by
  cases t
  · exact absurd h.symm (ne_Plain_Signed T)
  · rfl
  · exact absurd h (ne_Signed_Pointed T)
theorem tag_point (T : Tx K mg) {t : KTag} (h : He.ga K "Pointed" = clsOf K t) : t = .point := by
  cases t
  · exact absurd h.symm (ne_Plain_Pointed T)
  · exact absurd h.symm (ne_Signed_Pointed T)
  · rfl
/-- a class that takes its method from Kind -/
def OfKind (K : PySem.W.Frag) (C : Addr) : Prop := C = He.ga K "Signed" ∨ C = He.ga K "Pointed"
theorem OfKind.tag (T : Tx K mg) {C : Addr} (h : OfKind K C) {t : KTag} (e : C = clsOf K t) : t ≠ .plain := by
  rintro rfl
  rcases h with h | h
  · exact ne_Plain_Signed T (by rw [← h, e]; rfl)
  · exact ne_Plain_Pointed T (by rw [← h, e]; rfl)

end
section
variable {P : Program} {w : World} {K : PySem.W.Frag} {mg : Str → Option Value} {base : Heap}

abbrev N_Plain_word : List Str := ["self"]
theorem sc_Plain_word : FnScope ["self"] ["self"] (defScope s_Plain_word) := ⟨rfl, rfl, rfl, by decide +kernel, rfl, by decide +kernel, by decide +kernel⟩
theorem ok_Plain_word {f : Addr} {fd : FuncData} (T : Tx K mg) {q0 : Bool} (F : FunP K "word" "Plain.word" s_Plain_word f fd) : FnOk P w K mg base (L2.CX P w) 1 f fd ["self"] (sp_Kind_word K (He.ga K "Plain")) := by
  refine F.ok sc_Plain_word (fun vs H Q E h => ?_) (fun cdv A outer s H vs Q E hr h => ?_)
  · repeat first | (obtain ⟨e, _⟩ := h; subst e; rfl; done) | (obtain ⟨_, h⟩ := h)
  refine ⟨_, (pss_one (ps_ret pe_str)), ?_⟩
  try dsimp only [cxK]
  obtain ⟨a, k, rfl, ha, hc, kq⟩ := h
  walk_at "rd"
  rw [tag_plain T hc] at kq
  exact kq

end
section
variable {P : Program} {w : World} {K : PySem.W.Frag} {mg : Str → Option Value} {base : Heap}

abbrev N_Pointed_word : List Str := ["self"]
theorem sc_Pointed_word : FnScope ["self"] ["self"] (defScope s_Pointed_word) := ⟨rfl, rfl, rfl, by decide +kernel, rfl, by decide +kernel, by decide +kernel⟩
theorem ok_Pointed_word {f : Addr} {fd : FuncData} (T : Tx K mg) {q0 : Bool} (F : FunP K "word" "Pointed.word" s_Pointed_word f fd) : FnOk P w K mg base (L2.CX P w) 1 f fd ["self"] (sp_Kind_word K (He.ga K "Pointed")) := by
  refine F.ok sc_Pointed_word (fun vs H Q E h => ?_) (fun cdv A outer s H vs Q E hr h => ?_)
  · repeat first | (obtain ⟨e, _⟩ := h; subst e; rfl; done) | (obtain ⟨_, h⟩ := h)
  refine ⟨_, (pss_one (ps_ret pe_str)), ?_⟩
  try dsimp only [cxK]
  obtain ⟨a, k, rfl, ha, hc, kq⟩ := h
  walk_at "rd"
  rw [tag_point T hc] at kq
  exact kq

end
section
variable {P : Program} {w : World} {K : PySem.W.Frag} {mg : Str → Option Value} {base : Heap}

abbrev N_Kind_word : List Str := ["self"]
theorem sc_Kind_word : FnScope ["self"] ["self"] (defScope s_Kind_word) := ⟨rfl, rfl, rfl, by decide +kernel, rfl, by decide +kernel, by decide +kernel⟩
theorem ok_Kind_word {f : Addr} {fd : FuncData} (T : Tx K mg) {q0 : Bool} (F : FunP K "word" "Kind.word" s_Kind_word f fd) : FnOk P w K mg base (L2.CX P w) 1 f fd ["self"] (sp_Kind_word K (He.ga K "Signed")) := by
  refine F.ok sc_Kind_word (fun vs H Q E h => ?_) (fun cdv A outer s H vs Q E hr h => ?_)
  · repeat first | (obtain ⟨e, _⟩ := h; subst e; rfl; done) | (obtain ⟨_, h⟩ := h)
  refine ⟨_, (pss_one (ps_ret pe_str)), ?_⟩
  try dsimp only [cxK]
  obtain ⟨a, k, rfl, ha, hc, kq⟩ := h
  walk_at "rd"
  rw [tag_signed T hc] at kq
  exact kq
theorem met_Kind_word (T : Tx K mg) : ∀ C, In_Kind K C → MetX P w K mg base 1 C "word" (sp_Kind_word K C) := by
  rintro C (rfl | rfl | rfl)
  · obtain ⟨fd, F⟩ := fn_Plain_word T
    exact ⟨_, fd, _, c_Plain T, m_Plain_word T, ok_Plain_word (q0 := true) T F, F.bindsN fun _ _ _ _ _ _ us hl => match us, hl with | [_], _ => rfl⟩
  · obtain ⟨fd, F⟩ := fn_Signed__word T
    exact ⟨_, fd, _, c_Signed T, m_Signed_word T, ok_Kind_word (q0 := true) T F, F.bindsN fun _ _ _ _ _ _ us hl => match us, hl with | [_], _ => rfl⟩
  · obtain ⟨fd, F⟩ := fn_Pointed_word T
    exact ⟨_, fd, _, c_Pointed T, m_Pointed_word T, ok_Pointed_word (q0 := true) T F, F.bindsN fun _ _ _ _ _ _ us hl => match us, hl with | [_], _ => rfl⟩
end
section
variable {P : Program} {w : World} {K : PySem.W.Frag} {mg : Str → Option Value} {base : Heap}

abbrev N_Plain_least : List Str := ["self"]
theorem sc_Plain_least : FnScope ["self"] ["self"] (defScope s_Plain_least) := ⟨rfl, rfl, rfl, by decide +kernel, rfl, by decide +kernel, by decide +kernel⟩
theorem ok_Plain_least {f : Addr} {fd : FuncData} (T : Tx K mg) {q0 : Bool} (F : FunP K "least" "Plain.least" s_Plain_least f fd) : FnOk P w K mg base (L2.CX P w) 1 f fd ["self"] (sp_Kind_least K (He.ga K "Plain")) := by
  refine F.ok sc_Plain_least (fun vs H Q E h => ?_) (fun cdv A outer s H vs Q E hr h => ?_)
  · repeat first | (obtain ⟨e, _⟩ := h; subst e; rfl; done) | (obtain ⟨_, h⟩ := h)
  refine ⟨_, (pss_one (ps_ret pe_int)), ?_⟩
  try dsimp only [cxK]
  obtain ⟨a, k, rfl, ha, hc, kq⟩ := h
  walk_at "rd"
  unfold KindM.least at kq
  rw [if_pos (tag_plain T hc)] at kq
  exact kq

end
section
variable {P : Program} {w : World} {K : PySem.W.Frag} {mg : Str → Option Value} {base : Heap}

abbrev N_Kind_least : List Str := ["self"]
theorem sc_Kind_least : FnScope ["self"] ["self"] (defScope s_Kind_least) := ⟨rfl, rfl, rfl, by decide +kernel, rfl, by decide +kernel, by decide +kernel⟩
theorem ok_Kind_least {f : Addr} {fd : FuncData} (T : Tx K mg) {C : Addr} (hC : OfKind K C) (F : FunP K "least" "Kind.least" s_Kind_least f fd) : FnOk P w K mg base (L2.CX P w) 1 f fd ["self"] (sp_Kind_least K C) := by
  refine F.ok sc_Kind_least (fun vs H Q E h => ?_) (fun cdv A outer s H vs Q E hr h => ?_)
  · repeat first | (obtain ⟨e, _⟩ := h; subst e; rfl; done) | (obtain ⟨_, h⟩ := h)
  refine ⟨_, (pss_one (ps_ret (pe_op op_sub pe_int (pe_op op_shl pe_int (pe_op op_sub (pe_fld (pv 0) rfl) pe_int))))), ?_⟩
  try dsimp only [cxK]
  obtain ⟨a, k, rfl, ha, hc, kq⟩ := h
  walk_at "rd"
  refine r_fldK ha (clsK T _) (naK_width T _) rfl ?_
  walk_at "rd"
  have h4 := ha.1.w4
  have h32 := ha.1.w32
  refine r_I ⟨by omega, by omega, by decide⟩ ?_
  walk_at "rd"
  unfold KindM.least KindM.Hf at kq
  rw [if_neg (hC.tag T hc)] at kq
  rw [Int.one_mul]
  exact kq
theorem met_Kind_least (T : Tx K mg) : ∀ C, In_Kind K C → MetX P w K mg base 1 C "least" (sp_Kind_least K C) := by
  rintro C (rfl | rfl | rfl)
  · obtain ⟨fd, F⟩ := fn_Plain_least T
    exact ⟨_, fd, _, c_Plain T, m_Plain_least T, ok_Plain_least (q0 := true) T F, F.bindsN fun _ _ _ _ _ _ us hl => match us, hl with | [_], _ => rfl⟩
  · obtain ⟨fd, F⟩ := fn_Signed__least T
    exact ⟨_, fd, _, c_Signed T, m_Signed_least T, ok_Kind_least T (.inl rfl) F, F.bindsN fun _ _ _ _ _ _ us hl => match us, hl with | [_], _ => rfl⟩
  · obtain ⟨fd, F⟩ := fn_Pointed__least T
    exact ⟨_, fd, _, c_Pointed T, m_Pointed_least T, ok_Kind_least T (.inr rfl) F, F.bindsN fun _ _ _ _ _ _ us hl => match us, hl with | [_], _ => rfl⟩
end
section
variable {P : Program} {w : World} {K : PySem.W.Frag} {mg : Str → Option Value} {base : Heap}

abbrev N_Plain_greatest : List Str := ["self"]
theorem sc_Plain_greatest : FnScope ["self"] ["self"] (defScope s_Plain_greatest) := ⟨rfl, rfl, rfl, by decide +kernel, rfl, by decide +kernel, by decide +kernel⟩
theorem ok_Plain_greatest {f : Addr} {fd : FuncData} (T : Tx K mg) {q0 : Bool} (F : FunP K "greatest" "Plain.greatest" s_Plain_greatest f fd) : FnOk P w K mg base (L2.CX P w) 1 f fd ["self"] (sp_Kind_greatest K (He.ga K "Plain")) := by
  refine F.ok sc_Plain_greatest (fun vs H Q E h => ?_) (fun cdv A outer s H vs Q E hr h => ?_)
  · repeat first | (obtain ⟨e, _⟩ := h; subst e; rfl; done) | (obtain ⟨_, h⟩ := h)
  refine ⟨_, (pss_one (ps_ret (pe_op op_sub (pe_op op_shl pe_int (pe_fld (pv 0) rfl)) pe_int))), ?_⟩
  try dsimp only [cxK]
  obtain ⟨a, k, rfl, ha, hc, kq⟩ := h
  walk_at "rd"
  refine r_fldK ha (clsK T _) (naK_width T _) rfl ?_
  walk_at "rd"
  have h4 := ha.1.w4
  have h32 := ha.1.w32
  refine r_I ⟨by omega, by omega, by decide⟩ ?_
  walk_at "rd"
  unfold KindM.greatest KindM.B at kq
  rw [if_pos (tag_plain T hc)] at kq
  rw [Int.one_mul]
  exact kq

end
section
variable {P : Program} {w : World} {K : PySem.W.Frag} {mg : Str → Option Value} {base : Heap}

abbrev N_Kind_greatest : List Str := ["self"]
theorem sc_Kind_greatest : FnScope ["self"] ["self"] (defScope s_Kind_greatest) := ⟨rfl, rfl, rfl, by decide +kernel, rfl, by decide +kernel, by decide +kernel⟩
theorem ok_Kind_greatest {f : Addr} {fd : FuncData} (T : Tx K mg) {C : Addr} (hC : OfKind K C) (F : FunP K "greatest" "Kind.greatest" s_Kind_greatest f fd) : FnOk P w K mg base (L2.CX P w) 1 f fd ["self"] (sp_Kind_greatest K C) := by
  refine F.ok sc_Kind_greatest (fun vs H Q E h => ?_) (fun cdv A outer s H vs Q E hr h => ?_)
  · repeat first | (obtain ⟨e, _⟩ := h; subst e; rfl; done) | (obtain ⟨_, h⟩ := h)
  refine ⟨_, (pss_one (ps_ret (pe_op op_sub (pe_op op_shl pe_int (pe_op op_sub (pe_fld (pv 0) rfl) pe_int)) pe_int))), ?_⟩
  try dsimp only [cxK]
  obtain ⟨a, k, rfl, ha, hc, kq⟩ := h
  walk_at "rd"
  refine r_fldK ha (clsK T _) (naK_width T _) rfl ?_
  walk_at "rd"
  have h4 := ha.1.w4
  have h32 := ha.1.w32
  refine r_I ⟨by omega, by omega, by decide⟩ ?_
  walk_at "rd"
  unfold KindM.greatest KindM.Hf at kq
  rw [if_neg (hC.tag T hc)] at kq
  rw [Int.one_mul]
  exact kq
theorem met_Kind_greatest (T : Tx K mg) : ∀ C, In_Kind K C → MetX P w K mg base 1 C "greatest" (sp_Kind_greatest K C) := by
  rintro C (rfl | rfl | rfl)
  · obtain ⟨fd, F⟩ := fn_Plain_greatest T
    exact ⟨_, fd, _, c_Plain T, m_Plain_greatest T, ok_Plain_greatest (q0 := true) T F, F.bindsN fun _ _ _ _ _ _ us hl => match us, hl with | [_], _ => rfl⟩
  · obtain ⟨fd, F⟩ := fn_Signed__greatest T
    exact ⟨_, fd, _, c_Signed T, m_Signed_greatest T, ok_Kind_greatest T (.inl rfl) F, F.bindsN fun _ _ _ _ _ _ us hl => match us, hl with | [_], _ => rfl⟩
  · obtain ⟨fd, F⟩ := fn_Pointed__greatest T
    exact ⟨_, fd, _, c_Pointed T, m_Pointed_greatest T, ok_Kind_greatest T (.inr rfl) F, F.bindsN fun _ _ _ _ _ _ us hl => match us, hl with | [_], _ => rfl⟩
end
section
variable {P : Program} {w : World} {K : PySem.W.Frag} {mg : Str → Option Value} {base : Heap}

abbrev N_Kind_is_count : List Str := ["self", "number"]
theorem sc_Kind_is_count : FnScope ["self", "number"] ["self", "number"] (defScope s_Kind_is_count) := ⟨rfl, rfl, rfl, by decide +kernel, rfl, by decide +kernel, by decide +kernel⟩
theorem ok_Kind_is_count {f : Addr} {fd : FuncData} (T : Tx K mg) {C : Addr} (F : FunP K "is_count" "Kind.is_count" s_Kind_is_count f fd) : FnOk P w K mg base (L2.CX P w) 2 f fd ["self", "number"] (sp_Kind_is_count K C) := by
  refine F.ok sc_Kind_is_count (fun vs H Q E h => ?_) (fun cdv A outer s H vs Q E hr h => ?_)
  · repeat first | (obtain ⟨e, _⟩ := h; subst e; rfl; done) | (obtain ⟨_, h⟩ := h)
  refine ⟨_, (pss_one (ps_ret (pe_chain op_le op_le (pe_mX0 (met_Kind_least T) hr (by decide) pU (pv 0)) (pv 1) (pe_mX0 (met_Kind_greatest T) hr (by decide) pU (pv 0))))), ?_⟩
  try dsimp only [cxK]
  obtain ⟨a, k, n, rfl, ha, kq⟩ := h
  unfold KindM.isCount at kq
  walk_at "rd"
  refine r_methK ha rfl ?_
  walk_at "rd"
  refine ⟨a, k, rfl, ha, rfl, ?_⟩
  walk_at "rd"
  refine r_iteD (fun h1 => ?_) (fun h1 => ?_)
  · rw [decide_eq_true h1] at kq
    walk_at "rd"
    refine r_methK ha rfl ?_
    walk_at "rd"
    refine ⟨a, k, rfl, ha, rfl, ?_⟩
    walk_at "rd"
    exact kq
  · rw [decide_eq_false h1] at kq
    exact kq
theorem met_Kind_is_count (T : Tx K mg) : ∀ C, In_Kind K C → MetX P w K mg base 2 C "is_count" (sp_Kind_is_count K C) := by
  rintro C (rfl | rfl | rfl)
  · obtain ⟨fd, F⟩ := fn_Plain__is_count T
    exact ⟨_, fd, _, c_Plain T, m_Plain_is_count T, ok_Kind_is_count T F, F.bindsN fun _ _ _ _ _ _ us hl => match us, hl with | [_, _], _ => rfl⟩
  · obtain ⟨fd, F⟩ := fn_Signed__is_count T
    exact ⟨_, fd, _, c_Signed T, m_Signed_is_count T, ok_Kind_is_count T F, F.bindsN fun _ _ _ _ _ _ us hl => match us, hl with | [_, _], _ => rfl⟩
  · obtain ⟨fd, F⟩ := fn_Pointed__is_count T
    exact ⟨_, fd, _, c_Pointed T, m_Pointed_is_count T, ok_Kind_is_count T F, F.bindsN fun _ _ _ _ _ _ us hl => match us, hl with | [_, _], _ => rfl⟩
end
section
variable {P : Program} {w : World} {K : PySem.W.Frag} {mg : Str → Option Value} {base : Heap}

abbrev N_Kind_count_of : List Str := ["self", "bits"]
theorem sc_Kind_count_of : FnScope ["self", "bits"] ["self", "bits"] (defScope s_Kind_count_of) := ⟨rfl, rfl, rfl, by decide +kernel, rfl, by decide +kernel, by decide +kernel⟩
theorem ok_Kind_count_of {f : Addr} {fd : FuncData} (T : Tx K mg) {C : Addr} (F : FunP K "count_of" "Kind.count_of" s_Kind_count_of f fd) : FnOk P w K mg base (L2.CX P w) 3 f fd ["self", "bits"] (sp_Kind_count_of K C) := by
  refine F.ok sc_Kind_count_of (fun vs H Q E h => ?_) (fun cdv A outer s H vs Q E hr h => ?_)
  · repeat first | (obtain ⟨e, _⟩ := h; subst e; rfl; done) | (obtain ⟨_, h⟩ := h)
  refine ⟨_, (pss_cons (ps_if (PW.pt (pw_or (pt_not (pt_val (pe_cX (cal_is_whole T) hr (by decide) rfl pU (pa_cons (pv 1) pa_nil)))) (pw_or1 (pt_not (pt_chain op_le op_lt pe_int (pv 1) (pe_op op_shl pe_int (pe_fld (pv 0) rfl))))))) (pss_one (ps_rX rfl tU (exc_NoWord T) hr (by decide) rfl (pa_cons (pv 1) pa_nil))) pss_nil)
  (pss_cons (ps_if (pt_cmpR op_gt (pv 1) (pe_mX0 (met_Kind_greatest T) hr (by decide) pU (pv 0)) (nomark _)) (pss_one (ps_ret (pe_op op_sub (pv 1) (pe_op op_shl pe_int (pe_fld (pv 0) rfl))))) pss_nil)
  (pss_one (ps_ret (pv 1))))), ?_⟩
  try dsimp only [cxK]
  obtain ⟨a, k, b, rfl, ha, h0, hB, kq⟩ := h
  have h4 := ha.1.w4
  have h32 := ha.1.w32
  walk_at "rds"
  refine r_ifB false (fun B kB => ?_) (fun H1 s1 => ?_)
  · walk_at "rd"
    refine ⟨.int b, "int", rfl, .base (.int b), by decide, ?_⟩
    walk_at "rd"
    rw [show ("int" == "int") = true by decide]
    walk_at "rd"
    refine r_DT h0 ?_
    walk_at "rd"
    refine r_fldK ha (clsK T _) (naK_width T _) rfl ?_
    walk_at "rd"
    refine r_I ⟨by omega, by omega, by decide⟩ ?_
    rw [Int.one_mul]
    walk_at "rd"
    have e : decide (b < 2 ^ k.w.toNat) = true := decide_eq_true hB
    rw [e]
    exact kB _ (Same.refl _)
  have ha1 := ha.on s1
  rw [if_neg (by decide)]
  walk_at "rd"
  refine r_methK ha1 rfl ?_
  walk_at "rd"
  refine ⟨a, k, rfl, ha1, rfl, ?_⟩
  walk_at "rd"
  unfold KindM.countOf at kq
  refine r_iteD (fun h1 => ?_) (fun h1 => ?_)
  · walk_at "rd"
    refine r_fldK ha1 (clsK T _) (naK_width T _) rfl ?_
    walk_at "rd"
    refine r_I ⟨by omega, by omega, by decide⟩ ?_
    rw [Int.one_mul]
    walk_at "rd"
    rw [if_pos h1] at kq
    exact kq.go s1
  · walk_at "rd"
    rw [if_neg h1] at kq
    exact kq.go s1
theorem met_Kind_count_of (T : Tx K mg) : ∀ C, In_Kind K C → MetX P w K mg base 3 C "count_of" (sp_Kind_count_of K C) := by
  rintro C (rfl | rfl | rfl)
  · obtain ⟨fd, F⟩ := fn_Plain__count_of T
    exact ⟨_, fd, _, c_Plain T, m_Plain_count_of T, ok_Kind_count_of T F, F.bindsN fun _ _ _ _ _ _ us hl => match us, hl with | [_, _], _ => rfl⟩
  · obtain ⟨fd, F⟩ := fn_Signed__count_of T
    exact ⟨_, fd, _, c_Signed T, m_Signed_count_of T, ok_Kind_count_of T F, F.bindsN fun _ _ _ _ _ _ us hl => match us, hl with | [_, _], _ => rfl⟩
  · obtain ⟨fd, F⟩ := fn_Pointed__count_of T
    exact ⟨_, fd, _, c_Pointed T, m_Pointed_count_of T, ok_Kind_count_of T F, F.bindsN fun _ _ _ _ _ _ us hl => match us, hl with | [_, _], _ => rfl⟩
end
section
variable {P : Program} {w : World} {K : PySem.W.Frag} {mg : Str → Option Value} {base : Heap}

abbrev N_Kind_bits_of : List Str := ["self", "count"]
theorem sc_Kind_bits_of : FnScope ["self", "count"] ["self", "count"] (defScope s_Kind_bits_of) := ⟨rfl, rfl, rfl, by decide +kernel, rfl, by decide +kernel, by decide +kernel⟩
theorem ok_Kind_bits_of {f : Addr} {fd : FuncData} (T : Tx K mg) {C : Addr} (F : FunP K "bits_of" "Kind.bits_of" s_Kind_bits_of f fd) : FnOk P w K mg base (L2.CX P w) 3 f fd ["self", "count"] (sp_Kind_bits_of K C) := by
  refine F.ok sc_Kind_bits_of (fun vs H Q E h => ?_) (fun cdv A outer s H vs Q E hr h => ?_)
  · repeat first | (obtain ⟨e, _⟩ := h; subst e; rfl; done) | (obtain ⟨_, h⟩ := h)
  refine ⟨_, (pss_cons (ps_if (PW.pt (pw_or (pt_not (pt_val (pe_cX (cal_is_whole T) hr (by decide) rfl pU (pa_cons (pv 1) pa_nil)))) (pw_or1 (pt_not (pt_val (pe_mX (met_Kind_is_count T) hr (by decide) pU (pv 0) (pa_cons (pv 1) pa_nil))))))) (pss_one (ps_rX rfl tU (exc_NoWord T) hr (by decide) rfl (pa_cons (pv 1) pa_nil))) pss_nil)
  (pss_one (ps_ret (pe_op op_and (pv 1) (pe_op op_sub (pe_op op_shl pe_int (pe_fld (pv 0) rfl)) pe_int))))), ?_⟩
  try dsimp only [cxK]
  obtain ⟨a, k, c, rfl, ha, hcn, kq⟩ := h
  have h4 := ha.1.w4
  have h32 := ha.1.w32
  walk_at "rd"
  refine ⟨.int c, "int", rfl, .base (.int c), by decide, ?_⟩
  walk_at "rd"
  rw [show ("int" == "int") = true by decide]
  walk_at "rd"
  refine r_methK ha rfl ?_
  walk_at "rd"
  refine ⟨a, k, c, rfl, ha, ?_⟩
  rw [hcn]
  walk_at "rd"
  refine r_fldK ha (clsK T _) (naK_width T _) rfl ?_
  walk_at "rd"
  refine r_I ⟨by omega, by omega, by decide⟩ ?_
  rw [Int.one_mul]
  walk_at "rd"
  rw [PySem.W.kbt_mask]
  exact kq
theorem met_Kind_bits_of (T : Tx K mg) : ∀ C, In_Kind K C → MetX P w K mg base 3 C "bits_of" (sp_Kind_bits_of K C) := by
  rintro C (rfl | rfl | rfl)
  · obtain ⟨fd, F⟩ := fn_Plain__bits_of T
    exact ⟨_, fd, _, c_Plain T, m_Plain_bits_of T, ok_Kind_bits_of T F, F.bindsN fun _ _ _ _ _ _ us hl => match us, hl with | [_, _], _ => rfl⟩
  · obtain ⟨fd, F⟩ := fn_Signed__bits_of T
    exact ⟨_, fd, _, c_Signed T, m_Signed_bits_of T, ok_Kind_bits_of T F, F.bindsN fun _ _ _ _ _ _ us hl => match us, hl with | [_, _], _ => rfl⟩
  · obtain ⟨fd, F⟩ := fn_Pointed__bits_of T
    exact ⟨_, fd, _, c_Pointed T, m_Pointed_bits_of T, ok_Kind_bits_of T F, F.bindsN fun _ _ _ _ _ _ us hl => match us, hl with | [_, _], _ => rfl⟩
end
section
variable {P : Program} {w : World} {K : PySem.W.Frag} {mg : Str → Option Value} {base : Heap}
theorem KindM.countOf_plain {k : KindM} {b : Int} (ht : k.tag = .plain) (h1 : b < k.B) : k.countOf b = b := by
  unfold KindM.countOf KindM.greatest
  rw [ht, if_pos rfl, if_neg (by omega)]
def sp_Kind_shown (K : PySem.W.Frag) (_ : Addr) : Sp := fun vs H Q _ => ∃ a k b, vs = [.ref a, .int b] ∧ KindAt K H a k ∧ k.tag = .plain ∧ 0 ≤ b ∧ b < k.B ∧ Rt H Q (.str (Str.ofString (toString b)))
abbrev N_Kind_shown : List Str := ["self", "bits", "count", "whole", "rest", "behind", "figure", "text"]
theorem sc_Kind_shown : FnScope ["self", "bits", "count", "whole", "rest", "behind", "figure", "text"] ["self", "bits"] (defScope s_Kind_shown) := ⟨rfl, rfl, rfl, by decide +kernel, rfl, by decide +kernel, by decide +kernel⟩
theorem ok_Kind_shown {f : Addr} {fd : FuncData} (T : Tx K mg) {C : Addr} (F : FunP K "shown" "Kind.shown" s_Kind_shown f fd) : FnOk P w K mg base (L2.CX P w) 4 f fd ["self", "bits"] (sp_Kind_shown K C) := by
  refine F.ok sc_Kind_shown (fun vs H Q E h => ?_) (fun cdv A outer s H vs Q E hr h => ?_)
  · repeat first | (obtain ⟨e, _⟩ := h; subst e; rfl; done) | (obtain ⟨_, h⟩ := h)
  refine ⟨_, (pss_cons (ps_set (i := 2) sc_Kind_shown.nd rfl (Or.inl rfl) (pe_mX (met_Kind_count_of T) hr (by decide) pU (pv 0) (pa_cons (pv 1) pa_nil)))
  (pss_cons (ps_asg (pe_callB call_divmod (by rfl) (fr_divmod T) (by decide +kernel) (pa_cons (pe_callB call_abs (by rfl) (fr_abs T) (by decide +kernel) (pa_cons (pv 2) pa_nil)) (pa_cons (pe_op op_shl pe_int (pe_fld (pv 0) rfl)) pa_nil))) (pg_tup rfl (pgs_cons (pg_name (i := 3) sc_Kind_shown.nd rfl (Or.inl rfl)) (pgs_cons (pg_name (i := 4) sc_Kind_shown.nd rfl (Or.inl rfl)) pgs_nil))))
  (pss_cons (ps_set (i := 5) sc_Kind_shown.nd rfl (Or.inl rfl) pe_str)
  (pss_cons (ps_while oU (pt_cmpR op_gt (pv 4) pe_int (nomark _)) pss_dead)
  (pss_cons (ps_set (i := 7) sc_Kind_shown.nd rfl (Or.inl rfl) (pe_callTy call_str_int (by rfl) (fr_str T) (by decide +kernel) (pa_cons (pv 3) pa_nil)))
  (pss_cons (ps_if (pt_cmpR op_ne (pv 5) pe_str (nomark _)) pss_dead pss_nil)
  (pss_cons (ps_if (pt_cmpR op_lt (pv 2) pe_int (nomark _)) pss_dead pss_nil)
  (pss_one (ps_ret (pv 7)))))))))), ?_⟩
  try dsimp only [cxK]
  obtain ⟨a, k, b, rfl, ha, ht, h0, h1, kq⟩ := h
  have hp := ha.1.p0 (by rw [ht]; decide)
  have hB := ha.1.Ble
  walk_at "rd"
  refine r_methK ha rfl ?_
  walk_at "rd"
  refine ⟨a, k, b, rfl, ha, h0, h1, fun H1 s1 => ?_⟩
  rw [KindM.countOf_plain ht h1]
  have ha1 := ha.on s1
  walk_at "rd"
  refine r_in1 ?_
  walk_at "rd"
  refine r_fldK ha1 (clsK T _) (naK_point T _) rfl ?_
  rw [hp, if_neg (by omega)]
  walk_at "rd"
  refine r_I ⟨by omega, by omega, by decide⟩ ?_
  walk_at "rd"
  refine r_dm ⟨by decide, by decide⟩ fun p hpn => ?_
  walk_at "rd"
  refine r_gT2 (SqT.of upd_same) ?_
  have s2 := s1.new' (o := .tup [.int (b / (1 * 2 ^ (0:Int).toNat)), .int (b % (1 * 2 ^ (0:Int).toNat))]) hpn
  rw [show (1 * 2 ^ (0:Int).toNat : Int) = 1 by decide, Int.ediv_one, Int.emod_one] at s2 ⊢
  walk_at "rd"
  refine r_while0 (fun B kB => ?_) ?_
  · walk_at "rd"
    exact kB
  walk_at "rd"
  refine r_strI (log_ok' (by omega) (by omega)) ?_
  walk_at "rd"
  refine r_NDT rfl ?_
  walk_at "rd"
  refine r_DF (by omega) ?_
  walk_at "rd"
  exact kq.go s2
theorem met_Kind_shown (T : Tx K mg) : ∀ C, In_Kind K C → MetX P w K mg base 4 C "shown" (sp_Kind_shown K C) := by
  rintro C (rfl | rfl | rfl)
  · obtain ⟨fd, F⟩ := fn_Plain__shown T
    exact ⟨_, fd, _, c_Plain T, m_Plain_shown T, ok_Kind_shown T F, F.bindsN fun _ _ _ _ _ _ us hl => match us, hl with | [_, _], _ => rfl⟩
  · obtain ⟨fd, F⟩ := fn_Signed__shown T
    exact ⟨_, fd, _, c_Signed T, m_Signed_shown T, ok_Kind_shown T F, F.bindsN fun _ _ _ _ _ _ us hl => match us, hl with | [_, _], _ => rfl⟩
  · obtain ⟨fd, F⟩ := fn_Pointed__shown T
    exact ⟨_, fd, _, c_Pointed T, m_Pointed_shown T, ok_Kind_shown T F, F.bindsN fun _ _ _ _ _ _ us hl => match us, hl with | [_, _], _ => rfl⟩
end
section
variable {P : Program} {w : World} {K : PySem.W.Frag} {mg : Str → Option Value} {base : Heap}
def sp_Kind_read (K : PySem.W.Frag) (_ : Addr) : Sp := fun vs H Q _ => ∃ a k n, vs = [.ref a, .str (Str.ofString (toString n))] ∧ KindAt K H a k ∧ k.tag = .plain ∧ 1 ≤ n ∧ n ≤ 3 ∧ Rt H Q (.int n)
structure Num3 (x : Str) (n : Int) : Prop where
  len : x.length ≤ 10
  strip : Txt.lstripChars x "-" = x
  part : Txt.partition x "." = (x, ("" : Str), ("" : Str))
  cat : x ++ ("" : Str) = x
  are : areSigns x DIG = true
  val : PySem.intText? x = some n
  start : Txt.startswith x "-" = false
theorem num3 {n : Int} (h0 : 1 ≤ n) (h1 : n ≤ 3) : Num3 (Str.ofString (toString n)) n := by
  obtain rfl | rfl | rfl : n = 1 ∨ n = 2 ∨ n = 3 := by omega
  all_goals exact ⟨by decide +kernel, by decide +kernel, by decide +kernel, by decide +kernel, by decide +kernel, by decide +kernel, by decide +kernel⟩
abbrev N_Kind_read : List Str := ["self", "text", "whole", "dot", "behind", "tens", "sign", "count", "rest"]
theorem sc_Kind_read : FnScope ["self", "text", "whole", "dot", "behind", "tens", "sign", "count", "rest"] ["self", "text"] (defScope s_Kind_read) := ⟨rfl, rfl, rfl, by decide +kernel, rfl, by decide +kernel, by decide +kernel⟩
theorem ok_Kind_read {f : Addr} {fd : FuncData} (T : Tx K mg) {C : Addr} (F : FunP K "read" "Kind.read" s_Kind_read f fd) : FnOk P w K mg base (L2.CX P w) 5 f fd ["self", "text"] (sp_Kind_read K C) := by
  refine F.ok sc_Kind_read (fun vs H Q E h => ?_) (fun cdv A outer s H vs Q E hr h => ?_)
  · repeat first | (obtain ⟨e, _⟩ := h; subst e; rfl; done) | (obtain ⟨_, h⟩ := h)
  refine ⟨_, (pss_cons (ps_if (PW.pt (pw_or (pt_not (pt_val (pe_callB call_isi (by rfl) (fr_isinstance T) (by decide +kernel) (pa_cons (pv 1) (pa_cons (pe_ty (n := "str") rfl (fr_str T) (by decide +kernel)) pa_nil))))) (pw_or1 (pt_cmpR op_gt (pe_callB call_len_str (by rfl) (fr_len T) (by decide +kernel) (pa_cons (pv 1) pa_nil)) (pe_gint rfl (i_LONGEST_SHOWN T)) (nomark _))))) pss_dead pss_nil)
  (pss_cons (ps_asg (pe_partition (pe_bm PySem.F.plainAttrs_str PySem.F.slot_str_lstrip PySem.F.type_str_lstrip mt_lstripChars (pv 1) (pa_cons pe_str pa_nil)) pe_str) (pg_tup rfl (pgs_cons (pg_name (i := 2) sc_Kind_read.nd rfl (Or.inl rfl)) (pgs_cons (pg_name (i := 3) sc_Kind_read.nd rfl (Or.inl rfl)) (pgs_cons (pg_name (i := 4) sc_Kind_read.nd rfl (Or.inl rfl)) pgs_nil)))))
  (pss_cons (ps_if (pt_not (pt_val (pe_cX (cal_are_signs T) hr (by decide) rfl pU (pa_cons (pe_op op_add_str (pv 2) (pv 4)) (pa_cons pe_str pa_nil))))) pss_dead pss_nil)
  (pss_cons (ps_set (i := 5) sc_Kind_read.nd rfl (Or.inl rfl) pe_int)
  (pss_cons (ps_for oU rfl (pi_str (pv 4)) (pg_name (i := 6) sc_Kind_read.nd rfl (Or.inl rfl))
  pss_dead)
  (pss_cons (ps_asg (pe_callB call_divmod (by rfl) (fr_divmod T) (by decide +kernel) (pa_cons (pe_op op_shl (pe_callTy call_int_str (by rfl) (fr_int T) (by decide +kernel) (pa_cons (pe_op op_add_str (pv 2) (pv 4)) pa_nil)) (pe_fld (pv 0) rfl)) (pa_cons (pv 5) pa_nil))) (pg_tup rfl (pgs_cons (pg_name (i := 7) sc_Kind_read.nd rfl (Or.inl rfl)) (pgs_cons (pg_name (i := 8) sc_Kind_read.nd rfl (Or.inl rfl)) pgs_nil))))
  (pss_cons (ps_if (pt_val (pe_bm PySem.F.plainAttrs_str PySem.F.slot_str_startswith PySem.F.type_str_startswith mt_startswith (pv 1) (pa_cons pe_str pa_nil))) pss_dead pss_nil)
  (pss_cons (ps_if (PW.pt (pw_or (pt_cmpR op_gt (pv 8) pe_int (nomark _)) (pw_or (pt_not (pt_val (pe_mX (met_Kind_is_count T) hr (by decide) pU (pv 0) (pa_cons (pv 7) pa_nil)))) (pw_or1 (pt_cmpR op_ne (pe_mX (met_Kind_shown T) hr (by decide) pU (pv 0) (pa_cons (pe_mX (met_Kind_bits_of T) hr (by decide) pU (pv 0) (pa_cons (pv 7) pa_nil)) pa_nil)) (pv 1) (nomark _)))))) pss_dead pss_nil)
  (pss_one (ps_ret (pe_mX (met_Kind_bits_of T) hr (by decide) pU (pv 0) (pa_cons (pv 7) pa_nil)))))))))))), ?_⟩
  try dsimp only [cxK]
  obtain ⟨a, k, n, rfl, ha, ht, h0, h1, kq⟩ := h
  have hp := ha.1.p0 (by rw [ht]; decide)
  have hB := ha.1.Ble
  have hB16 := ha.1.B16
  have N := num3 h0 h1
  generalize hx : Str.ofString (toString n) = x at N ⊢
  walk_at "rd"
  refine r_isiStr ?_
  walk_at "rd"
  refine r_lenS (by have := N.len; omega) ?_
  walk_at "rd"
  refine r_DF (by have := N.len; omega) ?_
  walk_at "rd"
  refine r_m1 (r_bmSv rfl ?_)
  walk_at "rd"
  refine r_s1 ⟨line_le (by have := N.len; omega), ⟨_, rfl⟩, ?_⟩
  rw [N.strip]
  walk_at "rd"
  refine r_s1 ⟨rfl, line_le (by have := N.len; omega), fun p hpn => ?_⟩
  rw [N.part]
  walk_at "rd"
  refine r_gT3 (SqT.of upd_same) ?_
  have s1 := Same.new (o := .tup [.str x, .str "", .str ""]) hpn
  walk_at "rd"
  dsimp only []
  have L0 : ("" : Str).length = 0 := by decide +kernel
  refine ⟨line_le (by have := N.len; omega), ?_⟩
  rw [N.cat]
  walk_at "rd"
  refine ⟨x, DIG, rfl, ?_⟩
  rw [N.are]
  walk_at "rd"
  refine r_forStr (r_var rfl ⟨_, rfl, fun i σ' H' => i = 0 ∧ σ' = _ ∧ H' = _, ⟨rfl, rfl, rfl⟩, fun i c σ' H' hc _ => ?_, fun σ' H' hc => ?_⟩) mono_var
  · exact absurd hc (by rw [show ("" : Str).cps.toList = [] by decide +kernel]; simp)
  obtain ⟨-, rfl, rfl⟩ := hc
  walk_at "rd"
  refine ⟨line_le (by have := N.len; omega), ?_⟩
  rw [N.cat]
  walk_at "rd"
  refine r_intS N.val (by have := N.len; omega) ?_
  walk_at "rd"
  have ha1 := ha.on s1
  refine r_fldK ha1 (clsK T _) (naK_point T _) rfl ?_
  rw [hp]
  walk_at "rd"
  refine r_I ⟨by omega, by omega, Nat.lt_of_le_of_lt (show n.natAbs ≤ 3 by omega) (by decide)⟩ ?_
  walk_at "rd"
  refine r_dm ⟨by decide, by decide⟩ fun q hqn => ?_
  rw [show (n * 2 ^ (0:Int).toNat : Int) = n by simp, Int.ediv_one, Int.emod_one] 
  refine r_gT2 (SqT.of upd_same) ?_
  have s2 := s1.new' (o := .tup [.int n, .int 0]) hqn
  have ha2 := ha.on s2
  walk_at "rd"
  refine ⟨rfl, ?_⟩
  walk_at "rd"
  refine r_s1 ?_
  rw [N.start]
  walk_at "rdo"
  refine r_methK ha2 rfl ?_
  walk_at "rd"
  have hc : k.isCount n = true := by
    unfold KindM.isCount KindM.least KindM.greatest
    rw [ht, if_pos rfl, if_pos rfl, decide_eq_true (by omega), decide_eq_true (by omega)]
    rfl
  refine ⟨a, k, n, rfl, ha2, ?_⟩
  rw [hc]
  walk_at "rd"
  refine r_methK ha2 rfl ?_
  walk_at "rd"
  refine r_methK ha2 rfl ?_
  walk_at "rd"
  have hb : k.bitsOf n = n := Int.emod_eq_of_lt (by omega) (by omega)
  refine ⟨a, k, n, rfl, ha2, hc, ?_⟩
  rw [hb]
  walk_at "rd"
  refine ⟨a, k, n, rfl, ha2, ht, by omega, by omega, fun H3 s3 => ?_⟩
  rw [hx]
  walk_at "rd"
  refine r_NDT rfl ?_
  walk_at "rd"
  have s23 := s2.trans s3
  refine r_methK (ha.on s23) rfl ?_
  walk_at "rd"
  refine ⟨a, k, n, rfl, ha.on s23, hc, ?_⟩
  rw [hb]
  exact kq.go s23
theorem met_Kind_read (T : Tx K mg) : ∀ C, In_Kind K C → MetX P w K mg base 5 C "read" (sp_Kind_read K C) := by
  rintro C (rfl | rfl | rfl)
  · obtain ⟨fd, F⟩ := fn_Plain__read T
    exact ⟨_, fd, _, c_Plain T, m_Plain_read T, ok_Kind_read T F, F.bindsN fun _ _ _ _ _ _ us hl => match us, hl with | [_, _], _ => rfl⟩
  · obtain ⟨fd, F⟩ := fn_Signed__read T
    exact ⟨_, fd, _, c_Signed T, m_Signed_read T, ok_Kind_read T F, F.bindsN fun _ _ _ _ _ _ us hl => match us, hl with | [_, _], _ => rfl⟩
  · obtain ⟨fd, F⟩ := fn_Pointed__read T
    exact ⟨_, fd, _, c_Pointed T, m_Pointed_read T, ok_Kind_read T F, F.bindsN fun _ _ _ _ _ _ us hl => match us, hl with | [_, _], _ => rfl⟩
end
section
variable {P : Program} {w : World} {K : PySem.W.Frag} {mg : Str → Option Value} {base : Heap}
theorem clsIn (T : Tx K mg) {C : Addr} (h : In_Kind K C) : Cls K C ∧ NoAttr K C "width" ∧ NoAttr K C "point" := by
  rcases h with rfl | rfl | rfl
  · exact ⟨clsK T .plain, naK_width T .plain, naK_point T .plain⟩
  · exact ⟨clsK T .signed, naK_width T .signed, naK_point T .signed⟩
  · exact ⟨clsK T .point, naK_width T .point, naK_point T .point⟩
def sp_Kind_init (K : PySem.W.Frag) : Sp := fun vs H Q _ => ∃ a C dx wd pt, vs = [.ref a, .int wd, .int pt] ∧ H a = some (.ins C dx []) ∧ In_Kind K C ∧ 4 ≤ wd ∧ wd ≤ 32 ∧ ∀ H', OnlyAt a (.ins C dx [("width", .int wd), ("point", .int pt)]) H H' → Q .non H'
abbrev N_Kind_init : List Str := ["self", "width", "point"]
theorem sc_Kind_init : FnScope ["self", "width", "point"] ["self", "width", "point"] (defScope s_Kind_init) := ⟨rfl, rfl, rfl, by decide +kernel, rfl, by decide +kernel, by decide +kernel⟩
theorem ok_Kind_init {f : Addr} {fd : FuncData} (T : Tx K mg)  (F : FunP K "__init__" "Kind.__init__" s_Kind_init f fd) : FnOk P w K mg base (L2.CX P w) 4 f fd ["self", "width", "point"] (sp_Kind_init K) := by
  refine F.ok sc_Kind_init (fun vs H Q E h => ?_) (fun cdv A outer s H vs Q E hr h => ?_)
  · repeat first | (obtain ⟨e, _⟩ := h; subst e; rfl; done) | (obtain ⟨_, h⟩ := h)
  refine ⟨_, (pss_cons (ps_expr (pe_cX (cal_need_width T) hr (by decide) rfl pU (pa_cons (pv 1) pa_nil)))
  (pss_cons (ps_fld (pv 0) (pv 1) rfl)
  (pss_one (ps_fld (pv 0) (pv 2) rfl)))), ?_⟩
  try dsimp only [cxK]
  obtain ⟨a, C, dx, wd, pt, rfl, ha, hC, h4, h32, kq⟩ := h
  obtain ⟨c1, n1, n2⟩ := clsIn T hC
  walk_at "rdo"
  refine ⟨.int wd, "int", rfl, .base (.int wd), by decide, .inl ⟨wd, rfl, h4, h32, ?_⟩⟩
  walk_at "rdo"
  refine ⟨a, C, dx, [], rfl, ha, c1, n1, by decide, ?_⟩
  walk_at "rdo"
  refine ⟨a, C, dx, _, rfl, upd_same, c1, n2, (by show 1 < 1000; decide), ?_⟩
  exact kq _ (OnlyAt.upd (o := .ins C dx [("width", .int wd)])).step
theorem cat_Kind_init (T : Tx K mg) : CatX P w K mg base 4 "Kind" "__init__" (sp_Kind_init K) := by
  obtain ⟨fd, F⟩ := fn_Kind_init T
  exact ⟨_, _, fd, _, g_Kind T, ct_Kind_init T, F.kp, ok_Kind_init T F, F.bindsN fun _ _ _ _ _ _ us hl => match us, hl with | [_, _, _], _ => rfl⟩
end
section
variable {P : Program} {w : World} {K : PySem.W.Frag} {mg : Str → Option Value} {base : Heap}
def sp_Plain_init (K : PySem.W.Frag) : Sp := fun vs H Q _ => ∃ a dx wd, vs = [.ref a, .int wd] ∧ H a = some (.ins (He.ga K "Plain") dx []) ∧ 4 ≤ wd ∧ wd ≤ 32 ∧ ∀ H', OnlyAt a (.ins (He.ga K "Plain") dx [("width", .int wd), ("point", .int 0)]) H H' → Q .non H'
theorem KindAt.plain {K : PySem.W.Frag} {H : Hp} {a dx : Addr} {wd : Int} (h4 : 4 ≤ wd) (h32 : wd ≤ 32) (h : H a = some (.ins (He.ga K "Plain") dx [("width", .int wd), ("point", .int 0)])) : KindAt K H a ⟨.plain, wd, 0⟩ :=
  ⟨⟨h4, h32, fun _ => rfl, fun z => nomatch z⟩, dx, h⟩
abbrev N_Plain_init : List Str := ["self", "width"]
theorem sc_Plain_init : FnScope ["self", "width"] ["self", "width"] (defScope s_Plain_init) := ⟨rfl, rfl, rfl, by decide +kernel, rfl, by decide +kernel, by decide +kernel⟩
theorem ok_Plain_init {f : Addr} {fd : FuncData} (T : Tx K mg)  (F : FunP K "__init__" "Plain.__init__" s_Plain_init f fd) : FnOk P w K mg base (L2.CX P w) 5 f fd ["self", "width"] (sp_Plain_init K) := by
  refine F.ok sc_Plain_init (fun vs H Q E h => ?_) (fun cdv A outer s H vs Q E hr h => ?_)
  · repeat first | (obtain ⟨e, _⟩ := h; subst e; rfl; done) | (obtain ⟨_, h⟩ := h)
  refine ⟨_, (pss_one (ps_expr (pe_wX (cat_Kind_init T) hr (by decide) rfl pU (pa_cons (pv 0) (pa_cons (pv 1) (pa_cons pe_int pa_nil)))))), ?_⟩
  try dsimp only [cxK]
  obtain ⟨a, dx, wd, rfl, ha, h4, h32, kq⟩ := h
  walk_at "rdo"
  refine ⟨a, _, dx, wd, 0, rfl, ha, .inl rfl, h4, h32, fun H' h' => ?_⟩
  walk_at "rdo"
  exact kq _ h'
theorem mak_Plain (T : Tx K mg) : MakX P w K mg base 5 "Plain" (He.ga K "Plain") (sp_Plain_init K) := by
  obtain ⟨fd, F⟩ := fn_Plain_init T
  exact ⟨_, fd, _, mk_Plain T, ok_Plain_init T F, g_Plain T, F.bindsN fun _ _ _ _ _ _ us hl => match us, hl with | [_, _], _ => rfl⟩

end
section
variable {P : Program} {w : World} {K : PySem.W.Frag} {mg : Str → Option Value} {base : Heap}
def sp_same_kind (K : PySem.W.Frag) : Sp := fun vs H Q _ => ∃ a b k, vs = [.ref a, .ref b] ∧ KindAt K H a k ∧ KindAt K H b k ∧ Q (.bl true) H
abbrev N_same_kind : List Str := ["one", "other"]
theorem sc_same_kind : FnScope ["one", "other"] ["one", "other"] (defScope s_same_kind) := ⟨rfl, rfl, rfl, by decide +kernel, rfl, by decide +kernel, by decide +kernel⟩
theorem ok_same_kind {f : Addr} {fd : FuncData} (T : Tx K mg)  (F : FunP K "same_kind" "same_kind" s_same_kind f fd) : FnOk P w K mg base (L2.CX P w) 2 f fd ["one", "other"] (sp_same_kind K) := by
  refine F.ok sc_same_kind (fun vs H Q E h => ?_) (fun cdv A outer s H vs Q E hr h => ?_)
  · repeat first | (obtain ⟨e, _⟩ := h; subst e; rfl; done) | (obtain ⟨_, h⟩ := h)
  refine ⟨_, (pss_one (ps_ret (pe_and (pe_cmpR op_eq (pe_mX0 (met_Kind_word T) hr (by decide) pU (pv 0)) (pe_mX0 (met_Kind_word T) hr (by decide) pU (pv 1)) (nomark _)) (pe_and (pe_cmpR op_eq (pe_fld (pv 0) rfl) (pe_fld (pv 1) rfl) (nomark _)) (pe_one (pe_cmpR op_eq (pe_fld (pv 0) rfl) (pe_fld (pv 1) rfl) (nomark _))))))), ?_⟩
  try dsimp only [cxK]
  obtain ⟨a, b, k, rfl, ha, hb, kq⟩ := h
  walk_at "rdo"
  refine r_methK ha rfl ?_
  walk_at "rdo"
  refine ⟨a, k, rfl, ha, rfl, ?_⟩
  walk_at "rdo"
  refine r_methK hb rfl ?_
  walk_at "rdo"
  refine ⟨b, k, rfl, hb, rfl, ?_⟩
  walk_at "rdo"
  refine r_fldK ha (clsK T _) (naK_width T _) rfl ?_
  walk_at "rdo"
  refine r_fldK hb (clsK T _) (naK_width T _) rfl ?_
  walk_at "rdo"
  refine r_fldK ha (clsK T _) (naK_point T _) rfl ?_
  walk_at "rdo"
  refine r_fldK hb (clsK T _) (naK_point T _) rfl ?_
  walk_at "rdo"
  rw [decide_eq_true rfl]
  exact kq
theorem cal_same_kind (T : Tx K mg) : CalX P w K mg base 2 "same_kind" (sp_same_kind K) [] := by
  obtain ⟨fd, F⟩ := fn_same_kind T
  exact ⟨_, fd, _, [], ok_same_kind T F, g_same_kind T, F.kp, F.bindsN fun _ _ _ _ _ _ us hl => match us, hl with | [_, _], _ => rfl, .nil⟩

end
section
variable {P : Program} {w : World} {K : PySem.W.Frag} {mg : Str → Option Value} {base : Heap}
def sp_Row_init (K : PySem.W.Frag) : Sp := fun vs H Q _ => ∃ a dx ln deed g, vs = [.ref a, .int ln, .str deed, .ref g] ∧ H a = some (.ins (He.ga K "Row") dx []) ∧ 
  ∀ r n H', H r = none → H n = none → r ≠ n → H' r = some (.lst []) → H' n = some (.lst []) → H' a = some (.ins (He.ga K "Row") dx (rowFs ln deed g r n "")) → (∀ b, b ≠ a → b ≠ r → b ≠ n → H' b = H b) → Q .non H'
abbrev N_Row_init : List Str := ["self", "line", "deed", "goals"]
theorem sc_Row_init : FnScope ["self", "line", "deed", "goals"] ["self", "line", "deed", "goals"] (defScope s_Row_init) := ⟨rfl, rfl, rfl, by decide +kernel, rfl, by decide +kernel, by decide +kernel⟩
theorem ok_Row_init {f : Addr} {fd : FuncData} (T : Tx K mg)  (F : FunP K "__init__" "Row.__init__" s_Row_init f fd) : FnOk P w K mg base (L2.CX P w) 1 f fd ["self", "line", "deed", "goals"] (sp_Row_init K) := by
  refine F.ok sc_Row_init (fun vs H Q E h => ?_) (fun cdv A outer s H vs Q E hr h => ?_)
  · repeat first | (obtain ⟨e, _⟩ := h; subst e; rfl; done) | (obtain ⟨_, h⟩ := h)
  refine ⟨_, (pss_cons (ps_fld (pv 0) (pv 1) rfl)
  (pss_cons (ps_fld (pv 0) (pv 2) rfl)
  (pss_cons (ps_fld (pv 0) (pv 3) rfl)
  (pss_cons (ps_fld (pv 0) (pe_lst pa_nil) rfl)
  (pss_cons (ps_fld (pv 0) (pe_lst pa_nil) rfl)
  (pss_one (ps_fld (pv 0) pe_str rfl))))))), ?_⟩
  try dsimp only [cxK]
  obtain ⟨a, dx, ln, deed, g, rfl, ha, kq⟩ := h
  walk_at "rdo"
  refine ⟨a, _, dx, _, rfl, ha, c_Row T, na_Row_line T, by decide, ?_⟩
  walk_at "rdo"
  refine ⟨a, _, dx, _, rfl, upd_same, c_Row T, na_Row_deed T, (by show 1 < 1000; decide), ?_⟩
  walk_at "rdo"
  refine ⟨a, _, dx, _, rfl, upd_same, c_Row T, na_Row_goals T, (by show 2 < 1000; decide), ?_⟩
  walk_at "rdo"
  refine r_newL fun r hr1 => ?_
  have r1 : r ≠ a := fun z => by rw [z, upd_same] at hr1; cases hr1
  have hr0 : H r = none := by rwa [upd_ne r1, upd_ne r1, upd_ne r1] at hr1
  walk_at "rdo"
  refine ⟨a, _, dx, _, rfl, by rw [upd_ne r1.symm]; exact upd_same, c_Row T, na_Row_reads T, (by show 3 < 1000; decide), ?_⟩
  walk_at "rdo"
  refine r_newL fun n hn1 => ?_
  have n1 : n ≠ a := fun z => by rw [z, upd_same] at hn1; cases hn1
  have n2 : n ≠ r := fun z => by rw [upd_ne n1, z, upd_same] at hn1; cases hn1
  have hn0 : H n = none := by rwa [upd_ne n1, upd_ne n2, upd_ne n1, upd_ne n1, upd_ne n1] at hn1
  walk_at "rdo"
  refine ⟨a, _, dx, _, rfl, by rw [upd_ne n1.symm]; exact upd_same, c_Row T, na_Row_numbers T, (by show 4 < 1000; decide), ?_⟩
  walk_at "rdo"
  refine ⟨a, _, dx, _, rfl, upd_same, c_Row T, na_Row_way T, (by show 5 < 1000; decide), ?_⟩
  refine kq r n _ hr0 hn0 n2.symm ?_ ?_ upd_same ?_
  · rw [upd_ne r1, upd_ne r1, upd_ne n2.symm, upd_ne r1, upd_same]
  · rw [upd_ne n1, upd_ne n1, upd_same]
  · intro b b1 b2 b3
    rw [upd_ne b1, upd_ne b1, upd_ne b3, upd_ne b1, upd_ne b2, upd_ne b1, upd_ne b1, upd_ne b1]
theorem mak_Row (T : Tx K mg) : MakX P w K mg base 1 "Row" (He.ga K "Row") (sp_Row_init K) := by
  obtain ⟨fd, F⟩ := fn_Row_init T
  exact ⟨_, fd, _, mk_Row T, ok_Row_init T F, g_Row T, F.bindsN fun _ _ _ _ _ _ us hl => match us, hl with | [_, _, _, _], _ => rfl⟩

end
section
variable {P : Program} {w : World} {K : PySem.W.Frag} {mg : Str → Option Value} {base : Heap}
def sp_Repeat_init (K : PySem.W.Frag) : Sp := fun vs H Q _ => ∃ a dx ln tm, vs = [.ref a, .int ln, .int tm] ∧ H a = some (.ins (He.ga K "Repeat") dx []) ∧ 
  ∀ r H', H r = none → H' r = some (.lst []) → H' a = some (.ins (He.ga K "Repeat") dx (repFs ln tm r)) → (∀ b, b ≠ a → b ≠ r → H' b = H b) → Q .non H'
abbrev N_Repeat_init : List Str := ["self", "line", "times"]
theorem sc_Repeat_init : FnScope ["self", "line", "times"] ["self", "line", "times"] (defScope s_Repeat_init) := ⟨rfl, rfl, rfl, by decide +kernel, rfl, by decide +kernel, by decide +kernel⟩
theorem ok_Repeat_init {f : Addr} {fd : FuncData} (T : Tx K mg)  (F : FunP K "__init__" "Repeat.__init__" s_Repeat_init f fd) : FnOk P w K mg base (L2.CX P w) 1 f fd ["self", "line", "times"] (sp_Repeat_init K) := by
  refine F.ok sc_Repeat_init (fun vs H Q E h => ?_) (fun cdv A outer s H vs Q E hr h => ?_)
  · repeat first | (obtain ⟨e, _⟩ := h; subst e; rfl; done) | (obtain ⟨_, h⟩ := h)
  refine ⟨_, (pss_cons (ps_fld (pv 0) (pv 1) rfl)
  (pss_cons (ps_fld (pv 0) (pv 2) rfl)
  (pss_one (ps_fld (pv 0) (pe_lst pa_nil) rfl)))), ?_⟩
  try dsimp only [cxK]
  obtain ⟨a, dx, ln, tm, rfl, ha, kq⟩ := h
  walk_at "rdo"
  refine ⟨a, _, dx, _, rfl, ha, c_Repeat T, na_Repeat_line T, by decide, ?_⟩
  walk_at "rdo"
  refine ⟨a, _, dx, _, rfl, upd_same, c_Repeat T, na_Repeat_times T, (by show 1 < 1000; decide), ?_⟩
  walk_at "rdo"
  refine r_newL fun r hr1 => ?_
  have r1 : r ≠ a := fun z => by rw [z, upd_same] at hr1; cases hr1
  have hr0 : H r = none := by rwa [upd_ne r1, upd_ne r1] at hr1
  walk_at "rdo"
  refine ⟨a, _, dx, _, rfl, by rw [upd_ne r1.symm]; exact upd_same, c_Repeat T, na_Repeat_rows T, (by show 2 < 1000; decide), ?_⟩
  refine kq r _ hr0 ?_ upd_same ?_
  · rw [upd_ne r1, upd_same]
  · intro b b1 b2
    rw [upd_ne b1, upd_ne b2, upd_ne b1, upd_ne b1]
theorem mak_Repeat (T : Tx K mg) : MakX P w K mg base 1 "Repeat" (He.ga K "Repeat") (sp_Repeat_init K) := by
  obtain ⟨fd, F⟩ := fn_Repeat_init T
  exact ⟨_, fd, _, mk_Repeat T, ok_Repeat_init T F, g_Repeat T, F.bindsN fun _ _ _ _ _ _ us hl => match us, hl with | [_, _, _], _ => rfl⟩

end
section
variable {P : Program} {w : World} {K : PySem.W.Frag} {mg : Str → Option Value} {base : Heap}
/-! ### numbers as texts -/
theorem num_tl (n : Nat) : (num (n : Int)).cps.toList = TL.numL n := TL.tl_num n
theorem num_len {n : Nat} (h : n < 10 ^ 10) : (num (n : Int)).length ≤ 10 := by
  have e : (num (n : Int)).cps.toList.length = (num (n : Int)).length := Array.length_toList
  rw [← e, num_tl]
  exact TL.numL_len (by decide) h
theorem num_digits (n : Nat) : areSigns (num (n : Int)) DIG = true := by
  unfold areSigns
  rw [num_tl]
  have hne := TL.numL_ne n
  rw [Bool.and_eq_true]
  refine ⟨by simpa using hne, List.all_eq_true.mpr fun c hc => ?_⟩
  have q := TL.numL_digits n c hc
  have e : DIG.cps.toList = [48, 49, 50, 51, 52, 53, 54, 55, 56, 57] := by decide +kernel
  rw [e]
  simp only [List.mem_cons, List.not_mem_nil, or_false, decide_eq_true_eq]
  omega
theorem numL_head (n : Nat) : 0 < n → (TL.numL n).head? ≠ some 48 := by
  induction n using Nat.strongRecOn with
  | _ n ih =>
    intro h0
    by_cases h : n < 10
    · rw [TL.numL_lt h]
      simp only [List.head?_cons, ne_eq, Option.some.injEq]
      omega
    · rw [TL.numL_step (by omega)]
      have hne := TL.numL_ne (n / 10)
      have ih' := ih (n / 10) (by omega) (by omega)
      cases e : TL.numL (n / 10) with
      | nil => exact absurd e hne
      | cons a r => rw [e] at ih'; exact ih'
theorem num_in {i lo hi : Int} (h0 : 0 ≤ i) (h1 : lo ≤ i) (h2 : i ≤ hi) (hm : i < 10000000000) : numberIn (num i) lo hi = some i := by
  obtain ⟨n, rfl⟩ : ∃ n : Nat, i = (n : Int) := ⟨i.toNat, by omega⟩
  have hl := num_len (n := n) (by omega)
  have hd : ((NumText.digitsVal (num (n : Int)).cps.toList : Nat) : Int) = (n : Int) := by rw [num_tl, TL.numL_val]
  unfold numberIn
  have c : (decide ((num (n : Int)).length ≤ 10) && areSigns (num (n : Int)) DIG && !(decide ((num (n : Int)).cps.toList.head? = some 48) && decide (1 < (num (n : Int)).length))) = true := by
    rw [decide_eq_true hl, num_digits]
    simp only [Bool.true_and, Bool.not_eq_true', Bool.and_eq_false_iff, decide_eq_false_iff_not]
    by_cases hz : 0 < n
    · exact .inl (by rw [num_tl]; exact numL_head n hz)
    · refine .inr ?_
      have e : n = 0 := by omega
      subst e
      decide +kernel
  rw [if_pos c, hd, if_pos ⟨h1, h2⟩]
theorem num_small {i : Int} (h0 : 0 ≤ i) (hm : i < 10000000000) : (num i).length ≤ 10 := by
  obtain ⟨n, rfl⟩ : ∃ n : Nat, i = (n : Int) := ⟨i.toNat, by omega⟩
  exact num_len (by omega)
theorem num_free {i : Int} (h0 : 0 ≤ i) {s : Nat} (h : s < 48 ∨ 57 < s) : s ∉ (num i).cps.toList := by
  obtain ⟨n, rfl⟩ : ∃ n : Nat, i = (n : Int) := ⟨i.toNat, by omega⟩
  rw [num_tl]
  exact TL.numL_free h
theorem num_ne {i : Int} (h0 : 0 ≤ i) : (num i).cps.toList ≠ [] := by
  obtain ⟨n, rfl⟩ : ∃ n : Nat, i = (n : Int) := ⟨i.toNat, by omega⟩
  rw [num_tl]
  exact TL.numL_ne n
/-! ### texts of plain signs: what == of lists asks -/
def lowS (x : Str) : Prop := ∀ c ∈ x.cps.toList, c < 128
theorem shaped_cons {x : Str} {xs : List Str} (h1 : SeqAt.shaped (.list (([x] : List Str).map .str)) = true) (h2 : SeqAt.shaped (.list (xs.map .str)) = true) : SeqAt.shaped (.list ((x :: xs).map .str)) = true := by
  unfold SeqAt.shaped at h1 h2 ⊢
  rw [Bool.and_eq_true_iff] at h1 h2 ⊢
  have d1 := of_decide_eq_true h1.2
  have d2 := of_decide_eq_true h2.2
  have c1 := h1.1
  have c2 := h2.1
  simp only [List.map_cons, List.map_nil, PyData.canLay0, PyData.canLayAll0, PyData.depth, PyData.depthAll, Bool.and_true] at c1 c2 d1 d2 ⊢
  exact ⟨by rw [c1, c2]; rfl, decide_eq_true (by omega)⟩
theorem shaped_nil : SeqAt.shaped (.list (([] : List Str).map .str)) = true := by decide +kernel
theorem strOk_low {x : Str} (h : lowS x) : PySem.PyData.canLay0 (.str x) = true := by
  unfold PySem.PyData.canLay0 PySem.PyData.strOk
  rw [Array.all_eq_true_iff_forall_mem]
  intro c hc
  have := h c (by simpa using hc)
  exact decide_eq_true (by omega)
theorem shaped_low : ∀ {xs : List Str}, (∀ x ∈ xs, lowS x) → SeqAt.shaped (.list (xs.map .str)) = true
  | [], _ => shaped_nil
  | x :: xs, h => by
    refine shaped_cons ?_ (shaped_low fun y hy => h y (List.mem_cons_of_mem _ hy))
    have c := strOk_low (h x List.mem_cons_self)
    unfold SeqAt.shaped
    rw [Bool.and_eq_true]
    refine ⟨?_, ?_⟩
    · simp only [List.map_cons, List.map_nil, PyData.canLay0, PyData.canLayAll0, Bool.and_true] at c ⊢
      exact c
    · simp only [List.map_cons, List.map_nil, PyData.depth, PyData.depthAll]
      decide
theorem low_num {i : Int} (h0 : 0 ≤ i) : lowS (num i) := by
  obtain ⟨n, rfl⟩ : ∃ n : Nat, i = (n : Int) := ⟨i.toNat, by omega⟩
  intro c hc
  rw [num_tl] at hc
  have := TL.numL_digits n c hc
  omega
theorem name_signs {x : Str} (h : isName x = true) : x.length ≤ 6 ∧ (∀ c ∈ x.cps.toList, 97 ≤ c ∧ c ≤ 122) ∧ x.cps.toList ≠ [] := by
  unfold isName at h
  simp only [Bool.and_eq_true, decide_eq_true_eq] at h
  obtain ⟨⟨⟨⟨h1, h2⟩, -⟩, -⟩, -⟩ := h
  unfold areSigns at h2
  simp only [Bool.and_eq_true, List.all_eq_true, decide_eq_true_eq] at h2
  refine ⟨h1, fun c hc => ?_, fun z => by rw [z] at h2; exact absurd h2.1 (by decide)⟩
  have e : ("abcdefghijklmnopqrstuvwxyz" : Str).cps.toList = [97, 98, 99, 100, 101, 102, 103, 104, 105, 106, 107, 108, 109, 110, 111, 112, 113, 114, 115, 116, 117, 118, 119, 120, 121, 122] := by decide +kernel
  have q := h2.2 c hc
  rw [e] at q
  simp only [List.mem_cons, List.not_mem_nil, or_false] at q
  omega
theorem low_name {x : Str} (h : isName x = true) : lowS x := fun c hc => by have := (name_signs h).2.1 c hc; omega
theorem name_ne {x y : Str} (h : isName x = true) (c : Nat) (hc : c ∈ y.cps.toList) (h2 : c < 97 ∨ 122 < c) : x ≠ y := by
  rintro rfl
  have := (name_signs h).2.1 c hc
  omega
theorem name_heads {x : Str} (h : isName x = true) : x ∉ HEADSl ∧ x ∉ WAYSl ∧ formOf x = "" := by
  unfold isName at h
  simp only [Bool.and_eq_true, decide_eq_true_eq, Bool.not_eq_true', decide_eq_false_iff_not] at h
  exact ⟨h.1.1.2, h.1.2, h.2⟩

end
section
variable {P : Program} {w : World} {K : PySem.W.Frag} {mg : Str → Option Value} {base : Heap}
def sp_Signed_init (K : PySem.W.Frag) : Sp := fun vs H Q _ => ∃ a dx wd, vs = [.ref a, .int wd] ∧ H a = some (.ins (He.ga K "Signed") dx []) ∧ 4 ≤ wd ∧ wd ≤ 32 ∧ ∀ H', OnlyAt a (.ins (He.ga K "Signed") dx [("width", .int wd), ("point", .int 0)]) H H' → Q .non H'
theorem KindAt.signed {K : PySem.W.Frag} {H : Hp} {a dx : Addr} {wd : Int} (h4 : 4 ≤ wd) (h32 : wd ≤ 32) (h : H a = some (.ins (He.ga K "Signed") dx [("width", .int wd), ("point", .int 0)])) : KindAt K H a ⟨.signed, wd, 0⟩ :=
  ⟨⟨h4, h32, fun _ => rfl, fun z => nomatch z⟩, dx, h⟩
abbrev N_Signed_init : List Str := ["self", "width"]
theorem sc_Signed_init : FnScope ["self", "width"] ["self", "width"] (defScope s_Signed_init) := ⟨rfl, rfl, rfl, by decide +kernel, rfl, by decide +kernel, by decide +kernel⟩
theorem ok_Signed_init {f : Addr} {fd : FuncData} (T : Tx K mg)  (F : FunP K "__init__" "Signed.__init__" s_Signed_init f fd) : FnOk P w K mg base (L2.CX P w) 5 f fd ["self", "width"] (sp_Signed_init K) := by
  refine F.ok sc_Signed_init (fun vs H Q E h => ?_) (fun cdv A outer s H vs Q E hr h => ?_)
  · repeat first | (obtain ⟨e, _⟩ := h; subst e; rfl; done) | (obtain ⟨_, h⟩ := h)
  refine ⟨_, (pss_one (ps_expr (pe_wX (cat_Kind_init T) hr (by decide) rfl pU (pa_cons (pv 0) (pa_cons (pv 1) (pa_cons pe_int pa_nil)))))), ?_⟩
  try dsimp only [cxK]
  obtain ⟨a, dx, wd, rfl, ha, h4, h32, kq⟩ := h
  walk_at "rdo"
  refine ⟨a, _, dx, wd, 0, rfl, ha, .inr (.inl rfl), h4, h32, fun H' h' => ?_⟩
  walk_at "rdo"
  exact kq _ h'
theorem mak_Signed (T : Tx K mg) : MakX P w K mg base 5 "Signed" (He.ga K "Signed") (sp_Signed_init K) := by
  obtain ⟨fd, F⟩ := fn_Signed_init T
  exact ⟨_, fd, _, mk_Signed T, ok_Signed_init T F, g_Signed T, F.bindsN fun _ _ _ _ _ _ us hl => match us, hl with | [_, _], _ => rfl⟩

end
section
variable {P : Program} {w : World} {K : PySem.W.Frag} {mg : Str → Option Value} {base : Heap}
def sp_Pointed_init (K : PySem.W.Frag) : Sp := fun vs H Q _ => ∃ a dx wd pt, vs = [.ref a, .int wd, .int pt] ∧ H a = some (.ins (He.ga K "Pointed") dx []) ∧ 4 ≤ wd ∧ wd ≤ 32 ∧ 1 ≤ pt ∧ pt < wd ∧ ∀ H', OnlyAt a (.ins (He.ga K "Pointed") dx [("width", .int wd), ("point", .int pt)]) H H' → Q .non H'
theorem KindAt.pointed {K : PySem.W.Frag} {H : Hp} {a dx : Addr} {wd pt : Int} (h4 : 4 ≤ wd) (h32 : wd ≤ 32) (p1 : 1 ≤ pt) (p2 : pt < wd) (h : H a = some (.ins (He.ga K "Pointed") dx [("width", .int wd), ("point", .int pt)])) : KindAt K H a ⟨.point, wd, pt⟩ :=
  ⟨⟨h4, h32, fun z => absurd rfl z, fun _ => ⟨p1, p2⟩⟩, dx, h⟩
abbrev N_Pointed_init : List Str := ["self", "width", "point"]
theorem sc_Pointed_init : FnScope ["self", "width", "point"] ["self", "width", "point"] (defScope s_Pointed_init) := ⟨rfl, rfl, rfl, by decide +kernel, rfl, by decide +kernel, by decide +kernel⟩
theorem ok_Pointed_init {f : Addr} {fd : FuncData} (T : Tx K mg)  (F : FunP K "__init__" "Pointed.__init__" s_Pointed_init f fd) : FnOk P w K mg base (L2.CX P w) 5 f fd ["self", "width", "point"] (sp_Pointed_init K) := by
  refine F.ok sc_Pointed_init (fun vs H Q E h => ?_) (fun cdv A outer s H vs Q E hr h => ?_)
  · repeat first | (obtain ⟨e, _⟩ := h; subst e; rfl; done) | (obtain ⟨_, h⟩ := h)
  refine ⟨_, (pss_cons (ps_expr (pe_wX (cat_Kind_init T) hr (by decide) rfl pU (pa_cons (pv 0) (pa_cons (pv 1) (pa_cons pe_int pa_nil)))))
  (pss_cons (ps_if (PW.pt (pw_or (pt_not (pt_val (pe_cX (cal_is_whole T) hr (by decide) rfl pU (pa_cons (pv 2) pa_nil)))) (pw_or1 (pt_not (pt_chain op_le op_lt pe_int (pv 2) (pv 1)))))) pss_dead pss_nil)
  (pss_one (ps_fld (pv 0) (pv 2) rfl)))), ?_⟩
  try dsimp only [cxK]
  obtain ⟨a, dx, wd, pt, rfl, ha, h4, h32, p1, p2, kq⟩ := h
  walk_at "rdo"
  refine ⟨a, _, dx, wd, 0, rfl, ha, .inr (.inr rfl), h4, h32, fun H1 h1 => ?_⟩
  walk_at "rdo"
  refine ⟨.int pt, "int", rfl, .base (.int pt), by decide, ?_⟩
  rw [show ("int" == "int") = true by decide]
  walk_at "rd"
  refine r_DT p1 ?_
  walk_at "rd"
  rw [decide_eq_true p2]
  walk_at "rd"
  refine ⟨a, _, dx, _, rfl, h1.1, c_Pointed T, na_Pointed_point T, (by show 2 < 1000; decide), ?_⟩
  exact kq _ h1.step
theorem mak_Pointed (T : Tx K mg) : MakX P w K mg base 5 "Pointed" (He.ga K "Pointed") (sp_Pointed_init K) := by
  obtain ⟨fd, F⟩ := fn_Pointed_init T
  exact ⟨_, fd, _, mk_Pointed T, ok_Pointed_init T F, g_Pointed T, F.bindsN fun _ _ _ _ _ _ us hl => match us, hl with | [_, _, _], _ => rfl⟩

end
section
variable {P : Program} {w : World} {K : PySem.W.Frag} {mg : Str → Option Value} {base : Heap}
def sp_kind_in (K : PySem.W.Frag) : Sp := fun vs H Q _ => ∃ wd aw kd, vs = [.int wd, .ref aw] ∧ H aw = some (.lst (kd.words.map V.str)) ∧ kd.Good ∧ kd.w = wd ∧ ∀ a H', H a = none → Same H H' → KindAt K H' a kd → Q (.ref a) H'
theorem kdw_shape {k : KindM} (g : k.Good) : SeqAt.shaped (.list (k.words.map .str)) = true := by
  have hp := g.pp
  unfold KindM.words
  refine shaped_low ?_
  cases k.tag with
  | plain => intro x hx; rw [List.mem_singleton.mp hx]; intro c hc; revert c; decide +kernel
  | signed => intro x hx; rw [List.mem_singleton.mp hx]; intro c hc; revert c; decide +kernel
  | point =>
    intro x hx
    rcases List.mem_cons.mp hx with rfl | hx
    · intro c hc; revert c; decide +kernel
    · rw [List.mem_singleton.mp hx]; exact low_num hp.1
theorem sh_w (w : Str) (h : SeqAt.shaped (.list (([w] : List Str).map .str)) = true) {ws : List Str} (h2 : SeqAt.shaped (.list (ws.map .str)) = true) : (SeqAt.shaped (.list (ws.map .str)) && SeqAt.shaped (.list (([w] : List Str).map .str))) = true := by rw [h, h2]; rfl
abbrev N_kind_in : List Str := ["width", "words", "point"]
theorem sc_kind_in : FnScope ["width", "words", "point"] ["width", "words"] (defScope s_kind_in) := ⟨rfl, rfl, rfl, by decide +kernel, rfl, by decide +kernel, by decide +kernel⟩
theorem ok_kind_in {f : Addr} {fd : FuncData} (T : Tx K mg)  (F : FunP K "kind_in" "kind_in" s_kind_in f fd) : FnOk P w K mg base (L2.CX P w) 7 f fd ["width", "words"] (sp_kind_in K) := by
  refine F.ok sc_kind_in (fun vs H Q E h => ?_) (fun cdv A outer s H vs Q E hr h => ?_)
  · repeat first | (obtain ⟨e, _⟩ := h; subst e; rfl; done) | (obtain ⟨_, h⟩ := h)
  refine ⟨_, (pss_cons (ps_if (pt_cmpR (op_eqD (hu64 hr)) (pv 1) (pe_lst (pa_cons pe_str pa_nil)) (nomark _)) (pss_one (ps_ret (pe_kX (mak_Plain T) hr (by decide) rfl pU (pa_cons (pv 0) pa_nil)))) pss_nil)
  (pss_cons (ps_if (pt_cmpR (op_eqD (hu64 hr)) (pv 1) (pe_lst (pa_cons pe_str pa_nil)) (nomark _)) (pss_one (ps_ret (pe_kX (mak_Signed T) hr (by decide) rfl pU (pa_cons (pv 0) pa_nil)))) pss_nil)
  (pss_cons (ps_if (PW.pt (pw_and (pt_cmpR op_eq (pe_callB call_len_seq (by rfl) (fr_len T) (by decide +kernel) (pa_cons (pv 1) pa_nil)) pe_int (nomark _)) (pw_and1 (pt_cmpR op_eq (pe_ix ix_list (pv 1) pe_int (fun _ _ => rfl)) pe_str (nomark _))))) (pss_cons (ps_set (i := 2) sc_kind_in.nd rfl (Or.inl rfl) (pe_cX (cal_number_in T) hr (by decide) rfl pU (pa_cons (pe_ix ix_list (pv 1) pe_int (fun _ _ => rfl)) (pa_cons pe_int (pa_cons (pe_op op_sub (pv 0) pe_int) pa_nil)))))
  (pss_one (ps_if (pt_cmp (pc_notN (pv 2))) (pss_one (ps_ret (pe_kX (mak_Pointed T) hr (by decide) rfl pU (pa_cons (pv 0) (pa_cons (pv 2) pa_nil))))) pss_nil))) pss_nil)
  (pss_one (ps_ret pe_non))))), ?_⟩
  try dsimp only [cxK]
  obtain ⟨wd, aw, ⟨tag, kw, kp⟩, rfl, hw, g, hwd, kq⟩ := h
  have hwd : kw = wd := hwd
  subst hwd
  have hs := kdw_shape g
  have g4 := g.w4
  have g32 := g.w32
  have s1p : SeqAt.shaped (.list ((["plain"] : List Str).map .str)) = true := by decide +kernel
  have s1s : SeqAt.shaped (.list ((["signed"] : List Str).map .str)) = true := by decide +kernel
  walk_at "rdo"
  refine r_newL fun q hq => ?_
  have s1 : Same H (upd H q (.lst [.str "plain"])) := Same.new hq
  have e1 := s1 _ _ hw
  have eq1 : upd H q (.lst [.str "plain"]) q = some (.lst ((["plain"] : List Str).map V.str)) := upd_same
  generalize upd H q (.lst [.str "plain"]) = H1 at *
  cases tag with
  | plain =>
    obtain rfl : kp = 0 := g.p0 (by simp)
    walk_at "rdo"
    refine r_eqStrs ["plain"] ["plain"] true (SqL.of e1) (SqL.of eq1) (by decide +kernel) (by decide +kernel) ?_
    walk_at "rdo"
    intro x dx hx hdx hne
    refine ⟨x, dx, kw, rfl, upd_same, g4, g32, fun H' h' => ⟨rfl, ?_⟩⟩
    exact kq x H' (s1.free hx) (s1.trans (h'.new hx hdx)) (KindAt.plain g4 g32 h'.1)
  | signed =>
    obtain rfl : kp = 0 := g.p0 (by simp)
    walk_at "rdo"
    refine r_eqStrs ["signed"] ["plain"] false (SqL.of e1) (SqL.of eq1) (by decide +kernel) (by decide +kernel) ?_
    walk_at "rdo"
    refine r_newL fun q2 hq2 => ?_
    have s2 : Same H1 (upd H1 q2 (.lst [.str "signed"])) := Same.new hq2
    refine r_eqStrs ["signed"] ["signed"] true (SqL.of (s2 _ _ e1)) (SqL.of upd_same) (by decide +kernel) (by decide +kernel) ?_
    generalize upd H1 q2 (.lst [.str "signed"]) = H2 at *
    walk_at "rdo"
    intro x dx hx hdx hne
    refine ⟨x, dx, kw, rfl, upd_same, g4, g32, fun H' h' => ⟨rfl, ?_⟩⟩
    exact kq x H' (s1.free (s2.free hx)) (s1.trans (s2.trans (h'.new hx hdx))) (KindAt.signed g4 g32 h'.1)
  | point =>
    obtain ⟨p1, p2⟩ := g.p1 rfl
    have p1 : 1 ≤ kp := p1
    have p2 : kp < kw := p2
    walk_at "rdo"
    refine r_eqStrs ["point", num kp] ["plain"] false (SqL.of e1) (SqL.of eq1) (sh_w _ s1p hs) (by simp [PyData.eqv, PyData.eqvAll]) ?_
    walk_at "rdo"
    refine r_newL fun q2 hq2 => ?_
    have s2 : Same H1 (upd H1 q2 (.lst [.str "signed"])) := Same.new hq2
    refine r_eqStrs ["point", num kp] ["signed"] false (SqL.of (s2 _ _ e1)) (SqL.of upd_same) (sh_w _ s1s hs) (by simp [PyData.eqv, PyData.eqvAll]) ?_
    have e2 := s2 _ _ e1
    generalize upd H1 q2 (.lst [.str "signed"]) = H2 at *
    walk_at "rdo"
    refine r_lenL (SqL.of e2) ?_
    walk_at "rdo"
    refine r_ixL (SqL.of e2) at0 ?_
    walk_at "rdo"
    refine r_ixL (SqL.of e2) at1 ?_
    walk_at "rdo"
    refine ⟨num kp, 1, kw - 1, rfl, by have := num_small (i := kp) (by omega) (by omega); omega, fun H3 s3 => ?_⟩
    rw [num_in (by omega) p1 (by omega) (by omega)]
    unfold oI
    walk_at "rdo"
    intro x dx hx hdx hne
    refine ⟨x, dx, kw, kp, rfl, upd_same, g4, g32, p1, p2, fun H' h' => ⟨rfl, ?_⟩⟩
    exact kq x H' (s1.free (s2.free (s3.free hx))) (s1.trans (s2.trans (s3.trans (h'.new hx hdx)))) (KindAt.pointed g4 g32 p1 p2 h'.1)
theorem cal_kind_in (T : Tx K mg) : CalX P w K mg base 7 "kind_in" (sp_kind_in K) [] := by
  obtain ⟨fd, F⟩ := fn_kind_in T
  exact ⟨_, fd, _, [], ok_kind_in T F, g_kind_in T, F.kp, F.bindsN fun _ _ _ _ _ _ us hl => match us, hl with | [_, _], _ => rfl, .nil⟩

end
section
variable {P : Program} {w : World} {K : PySem.W.Frag} {mg : Str → Option Value} {base : Heap}
def wayB (x : Str) : Prop := x = "down" ∨ x = "up" ∨ x = "cut" ∨ x = "near"
/-- a thing that a row may bear at a width -/
def Arg.ok (wd : Int) : Arg → Prop
  | .nm x => isName x = true
  | .wy x => wayB x
  | .kn i => 0 ≤ i ∧ i ≤ wd - 1
  | .nn i => 1 ≤ i ∧ i ≤ 2 ^ wd.toNat - 1
  | .fr i j => 0 ≤ i ∧ i ≤ j ∧ 1 ≤ j ∧ j ≤ 2 ^ wd.toNat - 1
/-- all but a row's three places stay -/
def But3 (a r n : Addr) (H H' : Hp) : Prop := ∀ c o, c ≠ a → c ≠ r → c ≠ n → H c = some o → H' c = some o
def sp_taken (K : PySem.W.Frag) : Sp := fun vs H Q _ => ∃ a dx ln deed g r n wd way, ∃ x : Arg, ∃ xs : List Str, ∃ ns : List Int, vs = [.ref a, .int wd, .str ⟨#[x.letter]⟩, .str x.text] ∧ H a = some (.ins (He.ga K "Row") dx (rowFs ln deed g r n way)) ∧ r ≠ n ∧ a ≠ r ∧ a ≠ n ∧ 4 ≤ wd ∧ wd ≤ 32 ∧
  H r = some (.lst (xs.map V.str)) ∧ H n = some (.lst (ns.map V.int)) ∧ xs.length ≤ 1000 ∧ ns.length ≤ 1000 ∧ x.ok wd ∧
  ∀ H', H' a = some (.ins (He.ga K "Row") dx (rowFs ln deed g r n (x.way way))) → H' r = some (.lst ((xs ++ x.reads).map V.str)) → H' n = some (.lst ((ns ++ x.nums).map V.int)) → But3 a r n H H' → Q (.bl true) H'
theorem pow_wd {wd : Int} (h4 : 4 ≤ wd) (h32 : wd ≤ 32) : 16 ≤ (2 : Int) ^ wd.toNat ∧ (2 : Int) ^ wd.toNat ≤ 4294967296 := by
  have h1 : (2 : Nat) ^ 4 ≤ 2 ^ wd.toNat := Nat.pow_le_pow_right (by decide) (by omega)
  have e : ((2 ^ wd.toNat : Nat) : Int) = (2 : Int) ^ wd.toNat := by simp
  have e4 : (2 : Nat) ^ 4 = 16 := by decide
  exact ⟨by omega, pow_le32 (by omega)⟩
theorem lets : (⟨#[98]⟩ : Str) = "b" ∧ (⟨#[119]⟩ : Str) = "w" ∧ (⟨#[107]⟩ : Str) = "k" ∧ (⟨#[110]⟩ : Str) = "n" ∧ (⟨#[114]⟩ : Str) = "r" := by decide +kernel
theorem inV_ints : ∀ ns : List Int, inV V.non (ns.map V.int) = false
  | [] => rfl
  | n :: ns => by
    have ih := inV_ints ns
    unfold inV at ih ⊢
    rw [List.map_cons, List.any_cons, ih]
    rfl
theorem flat_ints : ∀ ns : List Int, (ns.map V.int).all flatV = true
  | [] => rfl
  | _ :: ns => by rw [List.map_cons, List.all_cons, flat_ints ns]; rfl
abbrev N_taken : List Str := ["row", "width", "letter", "word", "top", "stroke", "bottom", "most"]
theorem sc_taken : FnScope ["row", "width", "letter", "word", "top", "stroke", "bottom", "most"] ["row", "width", "letter", "word"] (defScope s_taken) := ⟨rfl, rfl, rfl, by decide +kernel, rfl, by decide +kernel, by decide +kernel⟩
theorem ok_taken {f : Addr} {fd : FuncData} (T : Tx K mg)  (F : FunP K "taken" "taken" s_taken f fd) : FnOk P w K mg base (L2.CX P w) 3 f fd ["row", "width", "letter", "word"] (sp_taken K) := by
  refine F.ok sc_taken (fun vs H Q E h => ?_) (fun cdv A outer s H vs Q E hr h => ?_)
  · repeat first | (obtain ⟨e, _⟩ := h; subst e; rfl; done) | (obtain ⟨_, h⟩ := h)
  refine ⟨_, (pss_cons (ps_if (pt_cmpR op_eq (pv 2) pe_str (nomark _)) (pss_cons (ps_expr (pe_bm PySem.F.plainAttrs_list PySem.F.slot_list_append PySem.F.type_list_append mt_append (pe_fld (pv 0) rfl) (pa_cons (pv 3) pa_nil)))
  (pss_one (ps_ret (pe_cX (cal_is_name T) hr (by decide) rfl pU (pa_cons (pv 3) pa_nil))))) pss_nil)
  (pss_cons (ps_if (pt_cmpR op_eq (pv 2) pe_str (nomark _)) (pss_cons (ps_fld (pv 0) (pv 3) rfl)
  (pss_one (ps_ret (pe_cmpR op_in_seq (pv 3) (pe_gref rfl (g_WAYS T)) (by with_unfolding_all rfl))))) pss_nil)
  (pss_cons (ps_if (pt_cmpR op_eq (pv 2) pe_str (nomark _)) (pss_one (ps_expr (pe_bm PySem.F.plainAttrs_list PySem.F.slot_list_append PySem.F.type_list_append mt_append (pe_fld (pv 0) rfl) (pa_cons (pe_cX (cal_number_in T) hr (by decide) rfl pU (pa_cons (pv 3) (pa_cons pe_int (pa_cons (pe_op op_sub (pv 1) pe_int) pa_nil)))) pa_nil)))) (pss_one (ps_if (pt_cmpR op_eq (pv 2) pe_str (nomark _)) (pss_one (ps_expr (pe_bm PySem.F.plainAttrs_list PySem.F.slot_list_append PySem.F.type_list_append mt_append (pe_fld (pv 0) rfl) (pa_cons (pe_cX (cal_number_in T) hr (by decide) rfl pU (pa_cons (pv 3) (pa_cons pe_int (pa_cons (pe_op op_sub (pe_op op_shl pe_int (pv 1)) pe_int) pa_nil)))) pa_nil)))) (pss_cons (ps_asg (pe_partition (pv 3) pe_str) (pg_tup rfl (pgs_cons (pg_name (i := 4) sc_taken.nd rfl (Or.inl rfl)) (pgs_cons (pg_name (i := 5) sc_taken.nd rfl (Or.inl rfl)) (pgs_cons (pg_name (i := 6) sc_taken.nd rfl (Or.inl rfl)) pgs_nil)))))
  (pss_cons (ps_set (i := 7) sc_taken.nd rfl (Or.inl rfl) (pe_cX (cal_number_in T) hr (by decide) rfl pU (pa_cons (pv 6) (pa_cons pe_int (pa_cons (pe_op op_sub (pe_op op_shl pe_int (pv 1)) pe_int) pa_nil)))))
  (pss_one (ps_expr (pe_bm PySem.F.plainAttrs_list PySem.F.slot_list_extend PySem.F.type_list_extend mt_extend (pe_fld (pv 0) rfl) (pa_cons (pe_lst (pa_cons (pe_cX (cal_number_in T) hr (by decide) rfl pU (pa_cons (pv 4) (pa_cons pe_int (pa_cons (pe_orT (pv 7) (pe_one pe_int)) pa_nil)))) (pa_cons (pv 7) pa_nil))) pa_nil)))))))))
  (pss_one (ps_ret (pe_cmpR op_notIn_seq pe_non (pe_fld (pv 0) rfl) (by with_unfolding_all rfl))))))), ?_⟩
  try dsimp only [cxK]
  obtain ⟨a, dx, ln, deed, g, r, n, wd, way, x, xs, ns, rfl, ha, hrn, har, han, h4, h32, hr', hn', hxl, hnl, ho, kq⟩ := h
  obtain ⟨l1, l2, l3, l4, l5⟩ := lets
  have hp := pow_wd h4 h32
  cases x with
  | nm x =>
    have hx : isName x = true := ho
    show _
    rw [show (⟨#[(Arg.nm x).letter]⟩ : Str) = "b" from l1]
    walk_at "rdo"
    refine r_fldO ha (c_Row T) (na_Row_reads T) lkR_reads ?_
    refine r_tyL (SqL.of hr') ?_
    walk_at "rdo"
    refine r_app hr' (by rw [List.length_map]; omega) ?_
    walk_at "rdo"
    refine ⟨x, rfl, by have := (name_signs hx).1; show x.length ≤ _; omega, fun H1 s1 => ?_⟩
    rw [hx]
    refine kq _ (s1 _ _ (by rw [upd_ne har]; exact ha)) (s1 _ _ ?_) (s1 _ _ ?_) fun c o c1 c2 c3 e => s1 _ _ (by rw [upd_ne c2]; exact e)
    · rw [upd_same, List.map_append]; rfl
    · rw [upd_ne hrn.symm, show ns ++ (Arg.nm x).nums = ns from List.append_nil ns]; exact hn'
  | wy x =>
    have hx : wayB x := ho
    rw [show (⟨#[(Arg.wy x).letter]⟩ : Str) = "w" from l2]
    walk_at "rdo"
    refine ⟨a, _, dx, _, rfl, ha, c_Row T, na_Row_way T, (by show 6 < 1000; decide), ?_⟩
    rw [show putF ("way" : Str) (V.str (Arg.wy x).text) (rowFs ln deed g r n way) = rowFs ln deed g r n x from rfl]
    walk_at "rdo"
    refine r_inTp (l := WAYSl) (tp_WAYS T _) ?_
    rw [decide_eq_true (show (Arg.wy x).text ∈ WAYSl by unfold WAYSl; show x ∈ _; rcases hx with h | h | h | h <;> simp [h])]
    refine kq _ upd_same ?_ ?_ fun c o c1 c2 c3 e => by rw [upd_ne c1]; exact e
    · rw [upd_ne har.symm, show xs ++ (Arg.wy x).reads = xs from List.append_nil xs]; exact hr'
    · rw [upd_ne han.symm, show ns ++ (Arg.wy x).nums = ns from List.append_nil ns]; exact hn'
  | kn i =>
    have hx : 0 ≤ i ∧ i ≤ wd - 1 := ho
    rw [show (⟨#[(Arg.kn i).letter]⟩ : Str) = "k" from l3]
    walk_at "rdo"
    refine r_fldO ha (c_Row T) (na_Row_numbers T) lkR_numbers ?_
    refine r_tyL (SqL.of hn') ?_
    walk_at "rdo"
    refine ⟨num i, 0, wd - 1, rfl, by have := num_small (i := i) (by omega) (by omega); omega, fun H1 s1 => ?_⟩
    rw [num_in (by omega) (by omega) (by omega) (by omega)]
    walk_at "rdo"
    refine r_app (s1 _ _ hn') (by rw [List.length_map]; omega) ?_
    walk_at "rdo"
    refine r_fldO (by rw [upd_ne han]; exact s1 _ _ ha) (c_Row T) (na_Row_numbers T) lkR_numbers ?_
    have e2 : upd H1 n (.lst (ns.map V.int ++ [oI (some i)])) n = some (.lst ((ns ++ [i]).map V.int)) := by rw [upd_same, List.map_append]; rfl
    refine ⟨n, _, rfl, .inl (SqL.of e2), rfl, flat_ints _, ?_⟩
    rw [inV_ints]
    refine kq _ (by rw [upd_ne han]; exact s1 _ _ ha) ?_ e2 fun c o c1 c2 c3 e => by rw [upd_ne c3]; exact s1 _ _ e
    rw [upd_ne hrn, show xs ++ (Arg.kn i).reads = xs from List.append_nil xs]; exact s1 _ _ hr'
  | nn i =>
    have hx : 1 ≤ i ∧ i ≤ 2 ^ wd.toNat - 1 := ho
    rw [show (⟨#[(Arg.nn i).letter]⟩ : Str) = "n" from l4]
    walk_at "rdo"
    refine r_fldO ha (c_Row T) (na_Row_numbers T) lkR_numbers ?_
    refine r_tyL (SqL.of hn') ?_
    walk_at "rdo"
    refine r_I ⟨by omega, by omega, by decide⟩ ?_
    rw [Int.one_mul]
    walk_at "rdo"
    refine ⟨num i, 1, _, rfl, by have := num_small (i := i) (by omega) (by omega); omega, fun H1 s1 => ?_⟩
    rw [num_in (by omega) (by omega) (by omega) (by omega)]
    walk_at "rdo"
    refine r_app (s1 _ _ hn') (by rw [List.length_map]; omega) ?_
    walk_at "rdo"
    refine r_fldO (by rw [upd_ne han]; exact s1 _ _ ha) (c_Row T) (na_Row_numbers T) lkR_numbers ?_
    have e2 : upd H1 n (.lst (ns.map V.int ++ [oI (some i)])) n = some (.lst ((ns ++ [i]).map V.int)) := by rw [upd_same, List.map_append]; rfl
    refine ⟨n, _, rfl, .inl (SqL.of e2), rfl, flat_ints _, ?_⟩
    rw [inV_ints]
    refine kq _ (by rw [upd_ne han]; exact s1 _ _ ha) ?_ e2 fun c o c1 c2 c3 e => by rw [upd_ne c3]; exact s1 _ _ e
    rw [upd_ne hrn, show xs ++ (Arg.nn i).reads = xs from List.append_nil xs]; exact s1 _ _ hr'
  | fr i j =>
    have hx : 0 ≤ i ∧ i ≤ j ∧ 1 ≤ j ∧ j ≤ 2 ^ wd.toNat - 1 := ho
    rw [show (⟨#[(Arg.fr i j).letter]⟩ : Str) = "r" from l5]
    have li := num_small (i := i) (by omega) (by omega)
    have lj := num_small (i := j) (by omega) (by omega)
    walk_at "rdo"
    refine r_m1 ?_
    walk_at "rdo"
    refine ⟨⟨_, rfl⟩, ?_⟩
    walk_at "rdo"
    have lt : (Arg.fr i j).text.length ≤ 100 := by
      show ((num i ++ ("/" : Str)) ++ num j).length ≤ 100
      rw [lenApp, lenApp]
      have : ("/" : Str).length = 1 := by decide +kernel
      omega
    refine ⟨by decide +kernel, line_le (by omega), fun p hp' => ?_⟩
    have hpart : Txt.partition (Arg.fr i j).text "/" = (num i, ("/" : Str), num j) := TL.partition_app (y := "/") (s := 47) (S := []) (by decide +kernel) (num_free (by omega) (.inl (by decide)))
    rw [hpart]
    have s0 := Same.new (o := .tup [V.str (num i), V.str "/", V.str (num j)]) hp'
    have ep : upd H p (.tup [V.str (num i), V.str "/", V.str (num j)]) p = some (.tup [V.str (num i), V.str "/", V.str (num j)]) := upd_same
    generalize upd H p (.tup [V.str (num i), V.str "/", V.str (num j)]) = H0 at *
    refine r_gT3 (SqT.of ep) ?_
    have ha0 := s0 _ _ ha
    have hr0 := s0 _ _ hr'
    have hn0 := s0 _ _ hn'
    walk_at "rdo"
    refine r_I ⟨by omega, by omega, by decide⟩ ?_
    rw [Int.one_mul]
    walk_at "rdo"
    refine ⟨num j, 1, _, rfl, by omega, fun H1 s1 => ?_⟩
    rw [num_in (by omega) (by omega) (by omega) (by omega)]
    walk_at "rdo"
    refine r_fldO (s1 _ _ ha0) (c_Row T) (na_Row_numbers T) lkR_numbers ?_
    refine r_tyL (SqL.of (s1 _ _ hn0)) ?_
    walk_at "rdo"
    refine r_var rfl ?_
    refine ⟨true, by show true = (j != 0); simp; omega, ?_⟩
    rw [if_pos rfl]
    walk_at "rdo"
    refine ⟨num i, 0, j, rfl, by omega, fun H2 s2 => ?_⟩
    rw [num_in (by omega) (by omega) (by omega) (by omega)]
    walk_at "rdo"
    refine r_newL fun q hq => ?_
    have s3 := Same.new (o := .lst [oI (some i), oI (some j)]) hq
    have e3 : upd H2 q (.lst [oI (some i), oI (some j)]) q = some (.lst [V.int i, V.int j]) := upd_same
    have s03 := s1.trans (s2.trans s3)
    generalize upd H2 q (.lst [oI (some i), oI (some j)]) = H3 at *
    have ha3 := s03 _ _ ha0
    have hr3 := s03 _ _ hr0
    have hn3 := s03 _ _ hn0
    walk_at "rdo"
    refine ⟨n, q, _, _, rfl, rfl, hn3, e3, line_le (by rw [List.length_map]; show _ + 2 ≤ _; omega), ?_⟩
    have e4 : upd H3 n (.lst (ns.map V.int ++ [V.int i, V.int j])) n = some (.lst ((ns ++ [i, j]).map V.int)) := by rw [upd_same, List.map_append]; rfl
    walk_at "rdo"
    refine r_fldO (by rw [upd_ne han]; exact ha3) (c_Row T) (na_Row_numbers T) lkR_numbers ?_
    refine ⟨n, _, rfl, .inl (SqL.of e4), rfl, flat_ints _, ?_⟩
    rw [inV_ints]
    refine kq _ (by rw [upd_ne han]; exact ha3) ?_ e4 fun c o c1 c2 c3 e => by rw [upd_ne c3]; exact s03 _ _ (s0 _ _ e)
    rw [upd_ne hrn, show xs ++ (Arg.fr i j).reads = xs from List.append_nil xs]; exact hr3
theorem cal_taken (T : Tx K mg) : CalX P w K mg base 3 "taken" (sp_taken K) [] := by
  obtain ⟨fd, F⟩ := fn_taken T
  exact ⟨_, fd, _, [], ok_taken T F, g_taken T, F.kp, F.bindsN fun _ _ _ _ _ _ us hl => match us, hl with | [_, _, _, _], _ => rfl, .nil⟩

end
section
variable {P : Program} {w : World} {K : PySem.W.Frag} {mg : Str → Option Value} {base : Heap}
def sp_Draft_init (K : PySem.W.Frag) : Sp := fun vs H Q _ => ∃ a dx, vs = [.ref a] ∧ H a = some (.ins (He.ga K "Draft") dx []) ∧
  ∀ A H', (∀ F, (∀ x ∈ A.fp a, F x = none) → DAt K F H' a DM0 A) → (∀ x ∈ A.fp a, x = a ∨ H x = none) → (∀ b, b ∉ A.fp a → H' b = H b) → Q .non H'
abbrev N_Draft_init : List Str := ["self"]
theorem sc_Draft_init : FnScope ["self"] ["self"] (defScope s_Draft_init) := ⟨rfl, rfl, rfl, by decide +kernel, rfl, by decide +kernel, by decide +kernel⟩
theorem ok_Draft_init {f : Addr} {fd : FuncData} (T : Tx K mg)  (F : FunP K "__init__" "Draft.__init__" s_Draft_init f fd) : FnOk P w K mg base (L2.CX P w) 1 f fd ["self"] (sp_Draft_init K) := by
  refine F.ok sc_Draft_init (fun vs H Q E h => ?_) (fun cdv A outer s H vs Q E hr h => ?_)
  · repeat first | (obtain ⟨e, _⟩ := h; subst e; rfl; done) | (obtain ⟨_, h⟩ := h)
  refine ⟨_, (pss_cons (ps_fld (pv 0) pe_int rfl)
  (pss_cons (ps_fld (pv 0) (pe_lst pa_nil) rfl)
  (pss_cons (ps_fld (pv 0) (pe_lst pa_nil) rfl)
  (pss_cons (ps_fld (pv 0) (pe_lst pa_nil) rfl)
  (pss_cons (ps_fld (pv 0) (pe_lst pa_nil) rfl)
  (pss_cons (ps_fld (pv 0) pe_dnewK rfl)
  (pss_one (ps_fld (pv 0) pe_dnewK rfl)))))))), ?_⟩
  try dsimp only [cxK]
  obtain ⟨a, dx, rfl, ha, kq⟩ := h
  walk_at "rdo"
  refine ⟨a, _, dx, _, rfl, ha, c_Draft T, na_Draft_width T, by decide, ?_⟩
  with_reducible refine r_seq ?_
  with_reducible refine r_newFld rfl upd_same (c_Draft T) (na_Draft_inputs T) ?_ ["width"] ?_ ?_ fun i H1 i0 ia i1 a1 f1 => ?_
  · show 1 < 1000; decide
  · exact rfl
  · decide +kernel
  with_reducible refine r_seq ?_
  with_reducible refine r_newFld rfl a1 (c_Draft T) (na_Draft_rows T) ?_ ["width", "inputs"] ?_ ?_ fun r H2 r0 ra r1 a2 f2 => ?_
  · show 2 < 1000; decide
  · exact rfl
  · decide +kernel
  with_reducible refine r_seq ?_
  with_reducible refine r_newFld rfl a2 (c_Draft T) (na_Draft_outs T) ?_ ["width", "inputs", "rows"] ?_ ?_ fun o H3 o0 oa o1 a3 f3 => ?_
  · show 3 < 1000; decide
  · exact rfl
  · decide +kernel
  with_reducible refine r_seq ?_
  with_reducible refine r_newFld rfl a3 (c_Draft T) (na_Draft_loops T) ?_ ["width", "inputs", "rows", "outs"] ?_ ?_ fun l H4 l0 la l1 a4 f4 => ?_
  · show 4 < 1000; decide
  · exact rfl
  · decide +kernel
  with_reducible refine r_seq ?_
  with_reducible refine r_newFldD rfl a4 (c_Draft T) (na_Draft_known T) ?_ ["width", "inputs", "rows", "outs", "loops"] ?_ ?_ fun k H5 k0 ka k1 a5 f5 => ?_
  · show 5 < 1000; decide
  · exact rfl
  · decide +kernel
  with_reducible refine r_newFldD rfl a5 (c_Draft T) (na_Draft_chosen T) ?_ ["width", "inputs", "rows", "outs", "loops", "known"] ?_ ?_ fun c H6 c0 ca c1 a6 f6 => ?_
  · show 6 < 1000; decide
  · exact rfl
  · decide +kernel
  have ne : ∀ {x y : Addr} {o : HO} {h : Hp}, h x = none → h y = some o → x ≠ y := fun h1 h2 z => by rw [z, h2] at h1; cases h1
  have ri := ne r0 i1
  have i2 : H2 i = some (.lst []) := by rw [f2 _ ia ri.symm]; exact i1
  have oi := ne o0 i2
  have or' := ne o0 r1
  have i3 : H3 i = some (.lst []) := by rw [f3 _ ia oi.symm]; exact i2
  have r3 : H3 r = some (.lst []) := by rw [f3 _ ra or'.symm]; exact r1
  have li := ne l0 i3
  have lr := ne l0 r3
  have lo := ne l0 o1
  have i4 : H4 i = some (.lst []) := by rw [f4 _ ia li.symm]; exact i3
  have r4 : H4 r = some (.lst []) := by rw [f4 _ ra lr.symm]; exact r3
  have o4 : H4 o = some (.lst []) := by rw [f4 _ oa lo.symm]; exact o1
  have ki := ne k0 i4
  have kr := ne k0 r4
  have ko := ne k0 o4
  have kl := ne k0 l1
  have i5 : H5 i = some (.lst []) := by rw [f5 _ ia ki.symm]; exact i4
  have r5 : H5 r = some (.lst []) := by rw [f5 _ ra kr.symm]; exact r4
  have o5 : H5 o = some (.lst []) := by rw [f5 _ oa ko.symm]; exact o4
  have l5 : H5 l = some (.lst []) := by rw [f5 _ la kl.symm]; exact l1
  have ci := ne c0 i5
  have cr := ne c0 r5
  have co := ne c0 o5
  have cl := ne c0 l5
  have ck := ne c0 k1
  have k2 := f6 k ka ck.symm
  refine kq ⟨dx, i, r, o, l, k, c, []⟩ H6 (fun F hF => ?_) ?_ ?_
  · refine ⟨a6, ⟨[], by rw [f6 _ ia ci.symm]; exact i5, rfl⟩, ⟨[], by rw [f6 _ ra cr.symm]; exact r5, rfl⟩, ⟨[], by rw [f6 _ oa co.symm]; exact o5, rfl⟩,
      ⟨[], by rw [f6 _ la cl.symm]; exact l5, rfl, rfl⟩, by rw [k2]; exact k1, ⟨[], c1, Nat.le_refl _, fun i => rfl⟩, ?_, hF⟩
    show List.Nodup [a, i, r, o, l, k, c]
    simp only [List.nodup_cons, List.mem_cons, List.not_mem_nil, not_or, not_false_eq_true, and_true, List.nodup_nil]
    exact ⟨⟨ia.symm, ra.symm, oa.symm, la.symm, ka.symm, ca.symm⟩, ⟨ri.symm, oi.symm, li.symm, ki.symm, ci.symm⟩, ⟨or'.symm, lr.symm, kr.symm, cr.symm⟩, ⟨lo.symm, ko.symm, co.symm⟩, ⟨kl.symm, cl.symm⟩, ck.symm⟩
  · have b0 : ∀ x, x ≠ a → upd H a (.ins (He.ga K "Draft") dx (putF "width" (V.int 0) [])) x = H x := fun x hx => upd_ne hx
    have e1 : H i = none := by rw [← b0 i ia]; exact i0
    have e2 : H r = none := by rw [← b0 r ra, ← f1 r ra ri]; exact r0
    have e3 : H o = none := by rw [← b0 o oa, ← f1 o oa oi, ← f2 o oa or']; exact o0
    have e4 : H l = none := by rw [← b0 l la, ← f1 l la li, ← f2 l la lr, ← f3 l la lo]; exact l0
    have e5 : H k = none := by rw [← b0 k ka, ← f1 k ka ki, ← f2 k ka kr, ← f3 k ka ko, ← f4 k ka kl]; exact k0
    have e6 : H c = none := by rw [← b0 c ca, ← f1 c ca ci, ← f2 c ca cr, ← f3 c ca co, ← f4 c ca cl, ← f5 c ca ck]; exact c0
    intro x hx
    simp only [DA.fp, List.mem_cons, List.not_mem_nil, or_false] at hx
    rcases hx with rfl | rfl | rfl | rfl | rfl | rfl | rfl
    · exact .inl rfl
    all_goals exact .inr (by assumption)
  · intro b hb
    simp only [DA.fp, List.mem_cons, List.not_mem_nil, or_false, not_or] at hb
    obtain ⟨b1, b2, b3, b4, b5, b6, b7⟩ := hb
    rw [f6 b b1 b7, f5 b b1 b6, f4 b b1 b5, f3 b b1 b4, f2 b b1 b3, f1 b b1 b2, upd_ne b1]
theorem mak_Draft (T : Tx K mg) : MakX P w K mg base 1 "Draft" (He.ga K "Draft") (sp_Draft_init K) := by
  obtain ⟨fd, F⟩ := fn_Draft_init T
  exact ⟨_, fd, _, mk_Draft T, ok_Draft_init T F, g_Draft T, F.bindsN fun _ _ _ _ _ _ us hl => match us, hl with | [_], _ => rfl⟩

end
section
variable {P : Program} {w : World} {K : PySem.W.Frag} {mg : Str → Option Value} {base : Heap}
def sp_Draft_block (K : PySem.W.Frag) : Sp := fun vs H Q _ => ∃ d F M A, vs = [.ref d] ∧ Same F H ∧ DAt K F H d M A ∧ Rt H Q (.ref A.blk)
abbrev N_Draft_block : List Str := ["self"]
theorem sc_Draft_block : FnScope ["self"] ["self"] (defScope s_Draft_block) := ⟨rfl, rfl, rfl, by decide +kernel, rfl, by decide +kernel, by decide +kernel⟩
theorem ok_Draft_block {f : Addr} {fd : FuncData} (T : Tx K mg)  (F : FunP K "block" "Draft.block" s_Draft_block f fd) : FnOk P w K mg base (L2.CX P w) 1 f fd ["self"] (sp_Draft_block K) := by
  refine F.ok sc_Draft_block (fun vs H Q E h => ?_) (fun cdv A outer s H vs Q E hr h => ?_)
  · repeat first | (obtain ⟨e, _⟩ := h; subst e; rfl; done) | (obtain ⟨_, h⟩ := h)
  refine ⟨_, (pss_cons (ps_if (pt_cmpR (op_eqE (hu64 hr)) (pe_fld (pv 0) rfl) (pe_lst pa_nil) (nomark _)) (pss_one (ps_ret (pe_fld (pv 0) rfl))) pss_nil)
  (pss_one (ps_ret (pe_fld (pe_ix ix_list (pe_fld (pv 0) rfl) (pe_un un_neg pe_int) (fun _ _ => rfl)) rfl)))), ?_⟩
  try dsimp only [cxK]
  obtain ⟨d, F, M, A, rfl, S, D, kq⟩ := h
  walk_at "rdo"
  refine r_fldO D.o (c_Draft T) (na_Draft_loops T) lkD_loops ?_
  walk_at "rdo"
  refine r_newL fun q hq => ?_
  have s1 : Same H (upd H q (.lst [])) := Same.new hq
  have D1 := D.same s1
  obtain ⟨v, hl1, hl2⟩ := D1.l
  have hlen := hl2.len
  cases hM : M.loops with
  | nil =>
    rw [hM] at hl2
    obtain ⟨rfl, ers⟩ := hl2
    refine r_eqE0 (SqL.of hl1) (SqL.of upd_same) ?_
    walk_at "rdo"
    refine r_fldO D1.o (c_Draft T) (na_Draft_rows T) lkD_rows ?_
    have e : A.blk = A.r := by unfold DA.blk; rw [ers]
    rw [e] at kq
    exact kq.go s1
  | cons x l =>
    rw [hM] at hl2 hlen
    refine r_eqE1 (SqL.of hl1) (SqL.of upd_same) (by rw [hlen]; exact fun z => nomatch z) ?_
    walk_at "rdo"
    refine r_fldO D1.o (c_Draft T) (na_Draft_loops T) lkD_loops ?_
    walk_at "rdo"
    obtain ⟨a, b, y⟩ := x
    obtain ⟨p, dx, r, ws, vs', rs', e1, e2, h1, h2, h4, h5⟩ := hl2
    rw [e1] at hl1
    refine r_ixL (SqL.of hl1) atLast ?_
    walk_at "rdo"
    refine r_fldO (s1 _ _ (S _ _ h1)) (c_Repeat T) (na_Repeat_rows T) lkP_rows ?_
    have e : A.blk = r := by unfold DA.blk; rw [e2]
    rw [e] at kq
    exact kq.go s1
theorem met_Draft_block (T : Tx K mg) : ∀ C, C = He.ga K "Draft" → MetX P w K mg base 1 C "block" (sp_Draft_block K) := by
  rintro C rfl
  obtain ⟨fd, F⟩ := fn_Draft_block T
  exact ⟨_, fd, _, c_Draft T, m_Draft_block T, ok_Draft_block T F, F.bindsN fun _ _ _ _ _ _ us hl => match us, hl with | [_], _ => rfl⟩

end
section
variable {P : Program} {w : World} {K : PySem.W.Frag} {mg : Str → Option Value} {base : Heap}
def sp_Draft_take_width (K : PySem.W.Frag) : Sp := fun vs H Q _ => ∃ d aw w F M A, vs = [.ref d, .ref aw] ∧ F aw = some (.lst ((Ln.width w).words.map V.str)) ∧ Same F H ∧ DAt K F H d M A ∧
  numberIn (num w) 4 32 = some w ∧ (num w).length ≤ 100 ∧ PostD K F d { M with wd := w } Q
abbrev N_Draft_take_width : List Str := ["self", "words"]
theorem sc_Draft_take_width : FnScope ["self", "words"] ["self", "words"] (defScope s_Draft_take_width) := ⟨rfl, rfl, rfl, by decide +kernel, rfl, by decide +kernel, by decide +kernel⟩
theorem ok_Draft_take_width {f : Addr} {fd : FuncData} (T : Tx K mg)  (F : FunP K "take_width" "Draft.take_width" s_Draft_take_width f fd) : FnOk P w K mg base (L2.CX P w) 3 f fd ["self", "words"] (sp_Draft_take_width K) := by
  refine F.ok sc_Draft_take_width (fun vs H Q E h => ?_) (fun cdv A outer s H vs Q E hr h => ?_)
  · repeat first | (obtain ⟨e, _⟩ := h; subst e; rfl; done) | (obtain ⟨_, h⟩ := h)
  refine ⟨_, (pss_cons (ps_if (PW.pt (pw_or (pt_cmpR op_ne (pe_callB call_len_seq (by rfl) (fr_len T) (by decide +kernel) (pa_cons (pv 1) pa_nil)) pe_int (nomark _)) (pw_or1 (pt_cmpR op_ne (pe_ix ix_list (pv 1) pe_int (fun _ _ => rfl)) pe_str (nomark _))))) (pss_one (ps_ret pe_bl)) pss_nil)
  (pss_cons (ps_fld (pv 0) (pe_cX (cal_number_in T) hr (by decide) rfl pU (pa_cons (pe_ix ix_list (pv 1) pe_int (fun _ _ => rfl)) (pa_cons pe_int (pa_cons pe_int pa_nil)))) rfl)
  (pss_one (ps_ret (pe_cmp (pc_notN (pe_fld (pv 0) rfl))))))), ?_⟩
  try dsimp only [cxK]
  obtain ⟨d, aw, w, F, M, A, rfl, hw, S, D, hn, hl, kq⟩ := h
  walk_at "rdo"
  refine r_lenL (SqL.of (S _ _ hw)) ?_
  walk_at "rdo"
  refine r_ixL (SqL.of (S _ _ hw)) at0 ?_
  walk_at "rdo"
  refine r_ixL (SqL.of (S _ _ hw)) at1 ?_
  walk_at "rdo"
  refine ⟨num w, 4, 32, rfl, by omega, fun H1 s1 => ?_⟩
  rw [hn]
  walk_at "rdo"
  have D1 := D.same s1
  refine ⟨d, _, A.dx, _, rfl, D1.o, c_Draft T, na_Draft_width T, (by show 7 < 1000; decide), ?_⟩
  walk_at "rdo"
  have D2 := D1.setW w
  have e2 : putF ("width" : Str) (oI (some w)) (draftFs M.wd A.i A.r A.o A.l A.k A.c) = draftFs w A.i A.r A.o A.l A.k A.c := rfl
  rw [e2]
  refine r_fldO D2.o (c_Draft T) (na_Draft_width T) lkD_width ?_
  rw [show (!decide (V.int w = V.non)) = true by simp]
  exact kq F A _ (Same.refl F) (same_updN (S.trans s1) (D.fz d (by simp [DA.fp]))) D2
theorem met_Draft_take_width (T : Tx K mg) : ∀ C, C = He.ga K "Draft" → MetX P w K mg base 3 C "take_width" (sp_Draft_take_width K) := by
  rintro C rfl
  obtain ⟨fd, F⟩ := fn_Draft_take_width T
  exact ⟨_, fd, _, c_Draft T, m_Draft_take_width T, ok_Draft_take_width T F, F.bindsN fun _ _ _ _ _ _ us hl => match us, hl with | [_, _], _ => rfl⟩

end
section
variable {P : Program} {w : World} {K : PySem.W.Frag} {mg : Str → Option Value} {base : Heap}
def sp_Draft_take_in (K : PySem.W.Frag) : Sp := fun vs H Q _ => ∃ d ln aw nm kd F M A, vs = [.ref d, .int ln, .ref aw] ∧ F aw = some (.lst ((Ln.inp nm kd).words.map V.str)) ∧ Same F H ∧ DAt K F H d M A ∧ M.rows = .nil ∧ M.loops = [] ∧ M.outs = [] ∧
  isName nm = true ∧ kd.Good ∧ kd.w = M.wd ∧ M.ins.length ≤ 1000 ∧ M.known.length ≤ 1000 ∧ PostD K F d { M with ins := M.ins ++ [(ln, nm, kd)], known := putN M.known nm } Q
theorem cut2 {x y : V} {xs : List V} : cutV (x :: y :: xs) (some 2) none = xs := by
  show ((x :: y :: xs).drop (HT.sIx (x :: y :: xs).length 0 (some ((2 : Nat) : Int)))).take ((x :: y :: xs).length - HT.sIx (x :: y :: xs).length 0 (some ((2 : Nat) : Int))) = xs
  rw [HT.sIx_nat, Nat.min_eq_left (by simp)]
  simp
abbrev N_Draft_take_in : List Str := ["self", "line", "words", "kind"]
theorem sc_Draft_take_in : FnScope ["self", "line", "words", "kind"] ["self", "line", "words"] (defScope s_Draft_take_in) := ⟨rfl, rfl, rfl, by decide +kernel, rfl, by decide +kernel, by decide +kernel⟩
theorem ok_Draft_take_in {f : Addr} {fd : FuncData} (T : Tx K mg)  (F : FunP K "take_in" "Draft.take_in" s_Draft_take_in f fd) : FnOk P w K mg base (L2.CX P w) 8 f fd ["self", "line", "words"] (sp_Draft_take_in K) := by
  refine F.ok sc_Draft_take_in (fun vs H Q E h => ?_) (fun cdv A outer s H vs Q E hr h => ?_)
  · repeat first | (obtain ⟨e, _⟩ := h; subst e; rfl; done) | (obtain ⟨_, h⟩ := h)
  refine ⟨_, (pss_cons (ps_if (PW.pt (pw_or (pt_cmpR (op_neE (hu64 hr)) (pe_fld (pv 0) rfl) (pe_lst pa_nil) (nomark _)) (pw_or (pt_cmpR (op_neE (hu64 hr)) (pe_fld (pv 0) rfl) (pe_lst pa_nil) (nomark _)) (pw_or (pt_cmpR (op_neE (hu64 hr)) (pe_fld (pv 0) rfl) (pe_lst pa_nil) (nomark _)) (pw_or (pt_cmpR op_lt (pe_callB call_len_seq (by rfl) (fr_len T) (by decide +kernel) (pa_cons (pv 2) pa_nil)) pe_int (nomark _)) (pw_or1 (pt_not (pt_val (pe_cX (cal_is_name T) hr (by decide) rfl pU (pa_cons (pe_ix ix_list (pv 2) pe_int (fun _ _ => rfl)) pa_nil)))))))))) (pss_one (ps_ret pe_bl)) pss_nil)
  (pss_cons (ps_set (i := 3) sc_Draft_take_in.nd rfl (Or.inl rfl) (pe_cX (cal_kind_in T) hr (by decide) rfl pU (pa_cons (pe_fld (pv 0) rfl) (pa_cons (pe_slice sl_list (pv 2) (po_some pe_int) po_none) pa_nil))))
  (pss_cons (ps_expr (pe_bm PySem.F.plainAttrs_list PySem.F.slot_list_append PySem.F.type_list_append mt_append (pe_fld (pv 0) rfl) (pa_cons (pe_tup (pa_cons (pv 1) (pa_cons (pe_ix ix_list (pv 2) pe_int (fun _ _ => rfl)) (pa_cons (pv 3) pa_nil)))) pa_nil)))
  (pss_cons (ps_dput (hu_of hr) (pe_fld (pv 0) rfl) (pe_ix ix_list (pv 2) pe_int (fun _ _ => rfl)) pe_bl rfl)
  (pss_one (ps_ret (pe_cmp (pc_notN (pv 3))))))))), ?_⟩
  try dsimp only [cxK]
  obtain ⟨d, ln, aw, nm, kd, F, M, A, rfl, hw, S, D, hr0, hl0, ho0, hn, hkd, hkw, hil, hkl, kq⟩ := h
  have hnl := (name_signs hn).1
  walk_at "rdo"
  refine r_fldO D.o (c_Draft T) (na_Draft_rows T) lkD_rows ?_
  walk_at "rdo"
  refine r_newL fun q1 hq1 => ?_
  have s1 : Same H (upd H q1 (.lst [])) := Same.new hq1
  have S1 := S.trans s1
  have D1 := D.same s1
  obtain ⟨vr, r1, r2⟩ := D1.r
  rw [hr0] at r2; cases r2
  refine r_neE0 (SqL.of r1) (SqL.of upd_same) ?_
  clear r1
  generalize upd H q1 (.lst []) = H1 at *
  walk_at "rdo"
  refine r_fldO D1.o (c_Draft T) (na_Draft_loops T) lkD_loops ?_
  walk_at "rdo"
  refine r_newL fun q2 hq2 => ?_
  have s2 : Same H1 (upd H1 q2 (.lst [])) := Same.new hq2
  have S2 : Same F (upd H1 q2 (.lst [])) := fun a u e => s2 a u (S1 a u e)
  have D2 := D1.same s2
  obtain ⟨vl, l1, l2⟩ := D2.l
  have ll := l2.len
  rw [hl0] at ll
  have el : vl = [] := List.eq_nil_of_length_eq_zero ll
  subst el
  refine r_neE0 (SqL.of l1) (SqL.of upd_same) ?_
  clear l1 l2
  generalize upd H1 q2 (.lst []) = H2 at *
  walk_at "rdo"
  refine r_fldO D2.o (c_Draft T) (na_Draft_outs T) lkD_outs ?_
  walk_at "rdo"
  refine r_newL fun q3 hq3 => ?_
  have s3 : Same H2 (upd H2 q3 (.lst [])) := Same.new hq3
  have S3 : Same F (upd H2 q3 (.lst [])) := fun a u e => s3 a u (S2 a u e)
  have D3 := D2.same s3
  obtain ⟨vo, o1, o2⟩ := D3.u
  rw [ho0] at o2; cases o2
  refine r_neE0 (SqL.of o1) (SqL.of upd_same) ?_
  clear o1
  generalize upd H2 q3 (.lst []) = H3 at *
  walk_at "rdo"
  refine r_lenL (SqL.of (S3 _ _ hw)) ?_
  walk_at "rd"
  have hlen : 3 ≤ ((Ln.inp nm kd).words.map V.str).length := by
    rw [List.length_map]; show 3 ≤ kd.words.length + 1 + 1; unfold KindM.words; cases kd.tag <;> simp
  refine r_DF (by omega) ?_
  walk_at "rdo"
  refine r_ixL (SqL.of (S3 _ _ hw)) at1 ?_
  walk_at "rdo"
  refine ⟨nm, rfl, by omega, fun H4 s4 => ?_⟩
  rw [hn]
  have S4 : Same F H4 := fun a u e => s4 a u (S3 a u e)
  have D4 := D3.same s4
  walk_at "rdo"
  refine r_fldO D4.o (c_Draft T) (na_Draft_width T) lkD_width ?_
  walk_at "rdo"
  refine r_slL (SqL.of (S4 _ _ hw)) fun q5 hq5 => ?_
  have s5 : Same H4 (upd H4 q5 (.lst (cutV ((Ln.inp nm kd).words.map V.str) (some 2) none))) := Same.new hq5
  have S5 : Same F (upd H4 q5 (.lst (cutV ((Ln.inp nm kd).words.map V.str) (some 2) none))) := fun a u e => s5 a u (S4 a u e)
  have D5 := D4.same s5
  walk_at "rdo"
  refine ⟨M.wd, q5, kd, rfl, by rw [upd_same]; show some (HO.lst (cutV (V.str "in" :: V.str nm :: kd.words.map V.str) (some 2) none)) = _; rw [cut2], hkd, hkw, fun k H6 hk s6 K6 => ?_⟩
  have S6 : Same F H6 := fun a u e => s6 a u (S5 a u e)
  have D6 := D5.same s6
  clear s6 S5 D5
  walk_at "rdo"
  refine r_fldO D6.o (c_Draft T) (na_Draft_inputs T) lkD_inputs ?_
  obtain ⟨vi, i1, i2⟩ := D6.i
  have il := i2.len
  refine r_tyL (SqL.of i1) ?_
  walk_at "rdo"
  refine r_ixL (SqL.of (S6 _ _ hw)) at1 ?_
  walk_at "rdo"
  refine r_newL fun t ht => ?_
  have st := Same.new (o := .tup [.int ln, .str nm, .ref k]) ht
  have D7 := D6.same st
  have it := D6.fresh ht
  have ik : k ∉ A.fp d := (D4.same s5).fresh hk
  obtain ⟨F8, f1, f2, D8, f3⟩ := D7.freeze (fun a u e => st a u (S6 a u e))
  have et := f3 t _ it upd_same
  have ek : KindAt K F8 k kd := (K6.on st).move fun o e => f3 k o ik e
  have i3 := st _ _ i1
  generalize upd H6 t (.tup [.int ln, .str nm, .ref k]) = H7 at *
  walk_at "rdo"
  refine r_app i3 (by omega) ?_
  have D9 := D8.addI i3 et ek
  have m := A.mem d
  have S9 : Same F8 (upd H7 A.i (.lst (vi ++ [.ref t]))) := same_updN f2 (D8.fz _ m.2.1)
  generalize upd H7 A.i (.lst (vi ++ [.ref t])) = H9 at *
  walk_at "rdo"
  refine r_fldO D9.o (c_Draft T) (na_Draft_known T) lkD_known ?_
  walk_at "rdo"
  refine r_ixL (SqL.of (S9 _ _ (f1 _ _ hw))) at1 ?_
  refine r_dputS D9.k (by unfold knownD; rw [List.length_map]; show M.known.length ≤ _; omega) ?_
  have D10 := D9.know nm
  have S10 := same_updN (o := .dK (putK (knownD M.known) (Sum.inr nm) (.bl true))) S9 (D9.fz _ m.2.2.2.2.2.1)
  walk_at "rdo"
  rw [show (!decide (V.ref k = V.non)) = true by simp]
  exact kq F8 A _ f1 S10 D10
theorem met_Draft_take_in (T : Tx K mg) : ∀ C, C = He.ga K "Draft" → MetX P w K mg base 8 C "take_in" (sp_Draft_take_in K) := by
  rintro C rfl
  obtain ⟨fd, F⟩ := fn_Draft_take_in T
  exact ⟨_, fd, _, c_Draft T, m_Draft_take_in T, ok_Draft_take_in T F, F.bindsN fun _ _ _ _ _ _ us hl => match us, hl with | [_, _, _], _ => rfl⟩

end
section
variable {P : Program} {w : World} {K : PySem.W.Frag} {mg : Str → Option Value} {base : Heap}
def sp_Draft_take_out (K : PySem.W.Frag) : Sp := fun vs H Q _ => ∃ d ln aw nm F M A, vs = [.ref d, .int ln, .ref aw] ∧ F aw = some (.lst ((Ln.out nm).words.map V.str)) ∧ Same F H ∧ DAt K F H d M A ∧ M.loops = [] ∧
  isName nm = true ∧ nm.length ≤ 100 ∧ M.outs.length ≤ 1000 ∧ PostD K F d { M with outs := M.outs ++ [(ln, nm)] } Q
abbrev N_Draft_take_out : List Str := ["self", "line", "words"]
theorem sc_Draft_take_out : FnScope ["self", "line", "words"] ["self", "line", "words"] (defScope s_Draft_take_out) := ⟨rfl, rfl, rfl, by decide +kernel, rfl, by decide +kernel, by decide +kernel⟩
theorem ok_Draft_take_out {f : Addr} {fd : FuncData} (T : Tx K mg)  (F : FunP K "take_out" "Draft.take_out" s_Draft_take_out f fd) : FnOk P w K mg base (L2.CX P w) 3 f fd ["self", "line", "words"] (sp_Draft_take_out K) := by
  refine F.ok sc_Draft_take_out (fun vs H Q E h => ?_) (fun cdv A outer s H vs Q E hr h => ?_)
  · repeat first | (obtain ⟨e, _⟩ := h; subst e; rfl; done) | (obtain ⟨_, h⟩ := h)
  refine ⟨_, (pss_cons (ps_if (PW.pt (pw_or (pt_cmpR (op_neE (hu64 hr)) (pe_fld (pv 0) rfl) (pe_lst pa_nil) (nomark _)) (pw_or (pt_cmpR op_ne (pe_callB call_len_seq (by rfl) (fr_len T) (by decide +kernel) (pa_cons (pv 2) pa_nil)) pe_int (nomark _)) (pw_or1 (pt_not (pt_val (pe_cX (cal_is_name T) hr (by decide) rfl pU (pa_cons (pe_ix ix_list (pv 2) pe_int (fun _ _ => rfl)) pa_nil)))))))) (pss_one (ps_ret pe_bl)) pss_nil)
  (pss_cons (ps_expr (pe_bm PySem.F.plainAttrs_list PySem.F.slot_list_append PySem.F.type_list_append mt_append (pe_fld (pv 0) rfl) (pa_cons (pe_tup (pa_cons (pv 1) (pa_cons (pe_ix ix_list (pv 2) pe_int (fun _ _ => rfl)) pa_nil))) pa_nil)))
  (pss_one (ps_ret pe_bl)))), ?_⟩
  try dsimp only [cxK]
  obtain ⟨d, ln, aw, nm, F, M, A, rfl, hw, S, D, hl0, hn, hnl, hol, kq⟩ := h
  walk_at "rdo"
  refine r_fldO D.o (c_Draft T) (na_Draft_loops T) lkD_loops ?_
  walk_at "rdo"
  refine r_newL fun q2 hq2 => ?_
  have s2 : Same H (upd H q2 (.lst [])) := Same.new hq2
  have S2 : Same F (upd H q2 (.lst [])) := fun a u e => s2 a u (S a u e)
  have D2 := D.same s2
  obtain ⟨vl, l1, l2⟩ := D2.l
  have ll := l2.len
  rw [hl0] at ll
  have el : vl = [] := List.eq_nil_of_length_eq_zero ll
  subst el
  refine r_neE0 (SqL.of l1) (SqL.of upd_same) ?_
  clear l1 l2
  generalize upd H q2 (.lst []) = H2 at *
  walk_at "rdo"
  refine r_lenL (SqL.of (S2 _ _ hw)) ?_
  walk_at "rdo"
  refine r_ixL (SqL.of (S2 _ _ hw)) at1 ?_
  walk_at "rdo"
  refine ⟨nm, rfl, by omega, fun H4 s4 => ?_⟩
  rw [hn]
  have S4 : Same F H4 := fun a u e => s4 a u (S2 a u e)
  have D4 := D2.same s4
  walk_at "rdo"
  refine r_fldO D4.o (c_Draft T) (na_Draft_outs T) lkD_outs ?_
  obtain ⟨vo, o1, o2⟩ := D4.u
  have ol := o2.len
  refine r_tyL (SqL.of o1) ?_
  walk_at "rdo"
  refine r_ixL (SqL.of (S4 _ _ hw)) at1 ?_
  walk_at "rdo"
  refine r_newL fun t ht => ?_
  have st := Same.new (o := .tup [.int ln, .str nm]) ht
  have D7 := D4.same st
  have it := D4.fresh ht
  obtain ⟨F8, f1, f2, D8, f3⟩ := D7.freeze (fun a u e => st a u (S4 a u e))
  have et := f3 t _ it upd_same
  have o3 := st _ _ o1
  generalize upd H4 t (.tup [.int ln, .str nm]) = H7 at *
  walk_at "rdo"
  refine r_app o3 (by omega) ?_
  have D9 := D8.addO o3 et
  have m := A.mem d
  have S9 := same_updN (o := .lst (vo ++ [.ref t])) f2 (D8.fz _ m.2.2.2.1)
  walk_at "rdo"
  exact kq F8 A _ f1 S9 D9
theorem met_Draft_take_out (T : Tx K mg) : ∀ C, C = He.ga K "Draft" → MetX P w K mg base 3 C "take_out" (sp_Draft_take_out K) := by
  rintro C rfl
  obtain ⟨fd, F⟩ := fn_Draft_take_out T
  exact ⟨_, fd, _, c_Draft T, m_Draft_take_out T, ok_Draft_take_out T F, F.bindsN fun _ _ _ _ _ _ us hl => match us, hl with | [_, _, _], _ => rfl⟩

end
section
variable {P : Program} {w : World} {K : PySem.W.Frag} {mg : Str → Option Value} {base : Heap}
def sp_Draft_take_repeat (K : PySem.W.Frag) : Sp := fun vs H Q _ => ∃ d ln aw n F M A, vs = [.ref d, .int ln, .ref aw] ∧ F aw = some (.lst ((Ln.rep n).words.map V.str)) ∧ Same F H ∧ DAt K F H d M A ∧
  numberIn (num n) 1 32 = some n ∧ (num n).length ≤ 100 ∧ M.loops.length ≤ 1000 ∧ PostD K F d { M with loops := (ln, n, .nil) :: M.loops } Q
abbrev N_Draft_take_repeat : List Str := ["self", "line", "words", "times"]
theorem sc_Draft_take_repeat : FnScope ["self", "line", "words", "times"] ["self", "line", "words"] (defScope s_Draft_take_repeat) := ⟨rfl, rfl, rfl, by decide +kernel, rfl, by decide +kernel, by decide +kernel⟩
theorem ok_Draft_take_repeat {f : Addr} {fd : FuncData} (T : Tx K mg)  (F : FunP K "take_repeat" "Draft.take_repeat" s_Draft_take_repeat f fd) : FnOk P w K mg base (L2.CX P w) 3 f fd ["self", "line", "words"] (sp_Draft_take_repeat K) := by
  refine F.ok sc_Draft_take_repeat (fun vs H Q E h => ?_) (fun cdv A outer s H vs Q E hr h => ?_)
  · repeat first | (obtain ⟨e, _⟩ := h; subst e; rfl; done) | (obtain ⟨_, h⟩ := h)
  refine ⟨_, (pss_cons (ps_if (pt_cmpR op_ne (pe_callB call_len_seq (by rfl) (fr_len T) (by decide +kernel) (pa_cons (pv 2) pa_nil)) pe_int (nomark _)) (pss_one (ps_ret pe_bl)) pss_nil)
  (pss_cons (ps_set (i := 3) sc_Draft_take_repeat.nd rfl (Or.inl rfl) (pe_cX (cal_number_in T) hr (by decide) rfl pU (pa_cons (pe_ix ix_list (pv 2) pe_int (fun _ _ => rfl)) (pa_cons pe_int (pa_cons (pe_gint rfl (i_MOST_TURNS T)) pa_nil)))))
  (pss_cons (ps_expr (pe_bm PySem.F.plainAttrs_list PySem.F.slot_list_append PySem.F.type_list_append mt_append (pe_fld (pv 0) rfl) (pa_cons (pe_kX (mak_Repeat T) hr (by decide) rfl pU (pa_cons (pv 1) (pa_cons (pv 3) pa_nil))) pa_nil)))
  (pss_one (ps_ret (pe_cmp (pc_notN (pv 3)))))))), ?_⟩
  try dsimp only [cxK]
  obtain ⟨d, ln, aw, n, F, M, A, rfl, hw, S, D, hn, hnl, hll, kq⟩ := h
  walk_at "rdo"
  refine r_lenL (SqL.of (S _ _ hw)) ?_
  walk_at "rdo"
  refine r_ixL (SqL.of (S _ _ hw)) at1 ?_
  walk_at "rdo"
  refine ⟨num n, 1, 32, rfl, by omega, fun H1 s1 => ?_⟩
  rw [hn]
  have S1 : Same F H1 := fun a u e => s1 a u (S a u e)
  have D1 := D.same s1
  walk_at "rdo"
  refine r_fldO D1.o (c_Draft T) (na_Draft_loops T) lkD_loops ?_
  obtain ⟨vl, l1, l2⟩ := D1.l
  have ll := l2.len
  refine r_tyL (SqL.of l1) ?_
  walk_at "rdo"
  intro x dx hx hdx hne
  refine ⟨x, dx, ln, n, rfl, upd_same, fun r H2 hr r2 x2 fr => ⟨rfl, ?_⟩⟩
  have rx : r ≠ x := fun z => by rw [z, upd_same] at hr; cases hr
  have rd : r ≠ dx := fun z => by rw [upd_ne rx, z, upd_same] at hr; cases hr
  have hr1 : H1 r = none := by rw [upd_ne rx, upd_ne rd] at hr; exact hr
  have s2 : Same H1 H2 := fun a u e => by
    rw [fr a (ne_of_none e hx) (ne_of_none e hr1), upd_ne (ne_of_none e hx), upd_ne (ne_of_none e hdx)]; exact e
  have D2 := D1.same s2
  have ix := D1.fresh hx
  have ir := D1.fresh hr1
  -- all but the new rows' list is frozen
  obtain ⟨F3, f1, f2, D3, f3⟩ := D2.freeze (fun a u e => s2 a u (S1 a u e))
  have F3r := f3 r _ ir r2
  have F3x := f3 x _ ix x2
  have fr0 : F r = none := by
    cases e : F r with
    | none => rfl
    | some o => rw [S1 _ _ e] at hr1; cases hr1
  have g1 : Same F (del F3 r) := fun a u e => by
    have : a ≠ r := fun z => by rw [z, fr0] at e; cases e
    rw [del_ne this]; exact f1 a u e
  have g2 : Same (del F3 r) F3 := fun a u e => by
    by_cases z : a = r
    · subst z; rw [del_same] at e; cases e
    · rwa [del_ne z] at e
  have gz : ∀ y ∈ A.fp d, del F3 r y = none := fun y hy => by
    have hyr : y ≠ r := fun z => ir (by rw [← z]; exact hy)
    rw [del_ne hyr]
    exact D3.fz y hy
  have D4 := (D2.froze g1 gz)
  have g3 : Same (del F3 r) H2 := fun a u e => f2 a u (g2 a u e)
  have l3 := s2 _ _ l1
  walk_at "rdo"
  refine r_app l3 (by omega) ?_
  have D5 := D4.push l3 (by rw [del_ne rx.symm]; exact F3x) r2 ir del_same
  have S5 := same_updN (o := .lst (vl ++ [.ref x])) g3 (gz _ (A.mem d).2.2.2.2.1)
  walk_at "rdo"
  show Q (.bl (!decide (V.int n = V.non))) _
  rw [show (!decide (V.int n = V.non)) = true by simp]
  exact kq _ _ _ g1 S5 D5
theorem met_Draft_take_repeat (T : Tx K mg) : ∀ C, C = He.ga K "Draft" → MetX P w K mg base 3 C "take_repeat" (sp_Draft_take_repeat K) := by
  rintro C rfl
  obtain ⟨fd, F⟩ := fn_Draft_take_repeat T
  exact ⟨_, fd, _, c_Draft T, m_Draft_take_repeat T, ok_Draft_take_repeat T F, F.bindsN fun _ _ _ _ _ _ us hl => match us, hl with | [_, _, _], _ => rfl⟩

end
section
variable {P : Program} {w : World} {K : PySem.W.Frag} {mg : Str → Option Value} {base : Heap}
def sp_Draft_take_end (K : PySem.W.Frag) : Sp := fun vs H Q _ => ∃ d F M A ln tm body l, vs = [.ref d] ∧ Same F H ∧ DAt K F H d M A ∧ M.loops = (ln, tm, body) :: l ∧ body ≠ .nil ∧ ({ M with loops := l } : DM).top.len ≤ 1000 ∧
  PostD K F d (addR { M with loops := l } (.rep ln tm body .nil)) Q
abbrev N_Draft_take_end : List Str := ["self", "loop"]
theorem sc_Draft_take_end : FnScope ["self", "loop"] ["self"] (defScope s_Draft_take_end) := ⟨rfl, rfl, rfl, by decide +kernel, rfl, by decide +kernel, by decide +kernel⟩
theorem ok_Draft_take_end {f : Addr} {fd : FuncData} (T : Tx K mg)  (F : FunP K "take_end" "Draft.take_end" s_Draft_take_end f fd) : FnOk P w K mg base (L2.CX P w) 2 f fd ["self"] (sp_Draft_take_end K) := by
  refine F.ok sc_Draft_take_end (fun vs H Q E h => ?_) (fun cdv A outer s H vs Q E hr h => ?_)
  · repeat first | (obtain ⟨e, _⟩ := h; subst e; rfl; done) | (obtain ⟨_, h⟩ := h)
  refine ⟨_, (pss_cons (ps_if (PW.pt (pw_or (pt_cmpR (op_eqE (hu64 hr)) (pe_fld (pv 0) rfl) (pe_lst pa_nil) (nomark _)) (pw_or1 (pt_cmpR (op_eqE (hu64 hr)) (pe_fld (pe_ix ix_list (pe_fld (pv 0) rfl) (pe_un un_neg pe_int) (fun _ _ => rfl)) rfl) (pe_lst pa_nil) (nomark _))))) (pss_one (ps_ret pe_bl)) pss_nil)
  (pss_cons (ps_set (i := 1) sc_Draft_take_end.nd rfl (Or.inl rfl) (pe_bm0 PySem.F.plainAttrs_list PySem.F.slot_list_pop PySem.F.type_list_pop mt_pop (pe_fld (pv 0) rfl)))
  (pss_cons (ps_expr (pe_bm PySem.F.plainAttrs_list PySem.F.slot_list_append PySem.F.type_list_append mt_append (pe_mX0 (met_Draft_block T) hr (by decide) pU (pv 0)) (pa_cons (pv 1) pa_nil)))
  (pss_one (ps_ret pe_bl))))), ?_⟩
  try dsimp only [cxK]
  obtain ⟨d, F, M, A, ln, tm, body, l, rfl, S, D, hl, hb, htl, kq⟩ := h
  walk_at "rdo"
  refine r_fldO D.o (c_Draft T) (na_Draft_loops T) lkD_loops ?_
  walk_at "rdo"
  refine r_newL fun q hq => ?_
  have s1 : Same H (upd H q (.lst [])) := Same.new hq
  have S1 := S.trans s1
  have D1 := D.same s1
  obtain ⟨a, dx, r, ws, v, rs', ers, l1, ha, hr, hrows, D2, R2, fr⟩ := D1.pop hl
  refine r_eqE1 (SqL.of l1) (SqL.of upd_same) (by simp) ?_
  generalize upd H q (.lst []) = H1 at *
  walk_at "rdo"
  refine r_fldO D1.o (c_Draft T) (na_Draft_loops T) lkD_loops ?_
  walk_at "rdo"
  refine r_ixL (SqL.of l1) atLast ?_
  walk_at "rdo"
  refine r_fldO (S1 _ _ ha) (c_Repeat T) (na_Repeat_rows T) lkP_rows ?_
  walk_at "rdo"
  refine r_newL fun q2 hq2 => ?_
  have s2 : Same H1 (upd H1 q2 (.lst [])) := Same.new hq2
  have hne : ws.length ≠ 0 := fun z => hb (hrows.nil_iff.mp (List.eq_nil_of_length_eq_zero z))
  refine r_eqE1 (SqL.of (s2 _ _ hr)) (SqL.of upd_same) hne ?_
  have D1' := D1.same s2
  have S2 : Same F (upd H1 q2 (.lst [])) := fun a u e => s2 a u (S1 a u e)
  have l2 := s2 _ _ l1
  have hr2 := s2 _ _ hr
  clear D2
  generalize upd H1 q2 (.lst []) = H2 at *
  obtain ⟨a', dx', r', ws', v', rs'', ers', l1', ha', hr', hrows', D2, R2', fr'⟩ := D1'.pop hl
  have er : r' = r := by rw [ers] at ers'; injection ers' with h1 h2; exact h1.symm
  subst er
  rw [l2] at l1'
  have ev := Option.some.inj l1'
  injection ev with ev
  have ev2 := List.append_inj' ev rfl
  have ea : a' = a := by have := ev2.2; injection this with h1 _; injection h1 with h1; exact h1.symm
  subst ea
  rw [← ev2.1] at D2
  rw [hr2] at hr'
  have ews : ws' = ws := by have := Option.some.inj hr'; injection this with h1; exact h1.symm
  subst ews
  walk_at "rdo"
  refine r_fldO D1'.o (c_Draft T) (na_Draft_loops T) lkD_loops ?_
  refine ⟨.inl ⟨rfl, _, SqL.of l2⟩, A.l, v ++ [.ref a'], .ref a', rfl, rfl, l2, by simp, ?_⟩
  rw [List.dropLast_concat]
  have F3s : Same F (upd F r' (.lst ws')) := Same.new fr
  have m := A.mem d
  have S3 : Same (upd F r' (.lst ws')) (upd H2 A.l (.lst v)) := fun x o e => by
    by_cases z : x = r'
    · subst z
      rw [upd_same] at e
      have n := D1'.ne.2.2.2.2.2.2.1 x (by rw [ers]; exact List.mem_cons_self)
      rw [upd_ne n.2.2.2.2.1, hr2]; exact e
    · rw [upd_ne z] at e
      have n : x ≠ A.l := fun w => by rw [w, D1'.fz _ m.2.2.2.2.1] at e; cases e
      rw [upd_ne n]; exact S2 x o e
  generalize upd H2 A.l (.lst v) = H3 at *
  walk_at "rdo"
  refine r_methO D2.o rfl (lkD_none (by decide +kernel)) ?_
  walk_at "rdo"
  refine ⟨d, _, _, _, rfl, S3, D2, fun H4 s4 => ?_⟩
  have D4 := D2.same s4
  have S4 : Same (upd F r' (.lst ws')) H4 := fun a u e => s4 a u (S3 a u e)
  obtain ⟨vb, b1, b2⟩ := D4.blkAt
  have bl := b2.len
  have bl2 : vb.length ≤ 1000 := by rw [bl]; exact htl
  refine r_tyL (SqL.of b1) ?_
  walk_at "rdo"
  refine r_app b1 (by omega) ?_
  have D5 := D4.addN b1 R2'
  have S5 := same_updN (o := .lst (vb ++ [.ref a'])) S4 (D4.fz _ D4.blk_mem)
  walk_at "rdo"
  exact kq _ _ _ F3s S5 D5
theorem met_Draft_take_end (T : Tx K mg) : ∀ C, C = He.ga K "Draft" → MetX P w K mg base 2 C "take_end" (sp_Draft_take_end K) := by
  rintro C rfl
  obtain ⟨fd, F⟩ := fn_Draft_take_end T
  exact ⟨_, fd, _, c_Draft T, m_Draft_take_end T, ok_Draft_take_end T F, F.bindsN fun _ _ _ _ _ _ us hl => match us, hl with | [_], _ => rfl⟩

end
section
variable {P : Program} {w : World} {K : PySem.W.Frag} {mg : Str → Option Value} {base : Heap}
def sp_Draft_is_great (K : PySem.W.Frag) : Sp := fun vs H Q _ => ∃ d ln F M A, vs = [.ref d, .int ln] ∧ DAt K F H d M A ∧ Q (.bl (M.great ln)) H
abbrev N_Draft_is_great : List Str := ["self", "line"]
theorem sc_Draft_is_great : FnScope ["self", "line"] ["self", "line"] (defScope s_Draft_is_great) := ⟨rfl, rfl, rfl, by decide +kernel, rfl, by decide +kernel, by decide +kernel⟩
theorem ok_Draft_is_great {f : Addr} {fd : FuncData} (T : Tx K mg)  (F : FunP K "is_great" "Draft.is_great" s_Draft_is_great f fd) : FnOk P w K mg base (L2.CX P w) 1 f fd ["self", "line"] (sp_Draft_is_great K) := by
  refine F.ok sc_Draft_is_great (fun vs H Q E h => ?_) (fun cdv A outer s H vs Q E hr h => ?_)
  · repeat first | (obtain ⟨e, _⟩ := h; subst e; rfl; done) | (obtain ⟨_, h⟩ := h)
  refine ⟨_, (pss_one (ps_ret (pe_or (pe_cmpR op_ge (pv 1) (pe_gint rfl (i_MOST_LINES T)) (nomark _)) (pe_or (pe_cmpR op_gt (pe_callB call_lenD (by rfl) (fr_len T) (by decide +kernel) (pa_cons (pe_fld (pv 0) rfl) pa_nil)) (pe_gint rfl (i_MOST_NAMES T)) (nomark _)) (pe_one (pe_cmpR op_gt (pe_callB call_len_seq (by rfl) (fr_len T) (by decide +kernel) (pa_cons (pe_fld (pv 0) rfl) pa_nil)) (pe_gint rfl (i_DEEPEST T)) (nomark _))))))), ?_⟩
  try dsimp only [cxK]
  obtain ⟨d, ln, F, M, A, rfl, D, kq⟩ := h
  unfold DM.great at kq
  walk_at "rd"
  refine r_iteD (fun h1 => ?_) (fun h1 => ?_)
  · rw [decide_eq_true (show ln ≥ 60 from h1)] at kq; exact kq
  rw [decide_eq_false (show ¬ ln ≥ 60 from h1), Bool.false_or] at kq
  walk_at "rdo"
  refine r_fldO D.o (c_Draft T) (na_Draft_known T) lkD_known ?_
  walk_at "rdo"
  refine ⟨A.k, _, rfl, D.k, ?_⟩
  have ek : (knownD M.known).length = M.known.length := by unfold knownD; rw [List.length_map]
  rw [ek]
  walk_at "rd"
  refine r_iteD (fun h1 => ?_) (fun h1 => ?_)
  · rw [decide_eq_true (show M.known.length > 30 by omega)] at kq; exact kq
  rw [decide_eq_false (show ¬ M.known.length > 30 by omega), Bool.false_or] at kq
  walk_at "rd"
  refine r_fldO D.o (c_Draft T) (na_Draft_loops T) lkD_loops ?_
  obtain ⟨vl, l1, l2⟩ := D.l
  walk_at "rd"
  refine ⟨A.l, _, rfl, .inl (SqL.of l1), ?_⟩
  rw [l2.len]
  walk_at "rd"
  have e : decide ((3 : Int) < (M.loops.length : Int)) = decide (M.loops.length > 3) := by
    by_cases h : M.loops.length > 3
    · rw [decide_eq_true h, decide_eq_true (by omega)]
    · rw [decide_eq_false h, decide_eq_false (by omega)]
  rw [e]
  exact kq
theorem met_Draft_is_great (T : Tx K mg) : ∀ C, C = He.ga K "Draft" → MetX P w K mg base 1 C "is_great" (sp_Draft_is_great K) := by
  rintro C rfl
  obtain ⟨fd, F⟩ := fn_Draft_is_great T
  exact ⟨_, fd, _, c_Draft T, m_Draft_is_great T, ok_Draft_is_great T F, F.bindsN fun _ _ _ _ _ _ us hl => match us, hl with | [_, _], _ => rfl⟩

end
section
variable {P : Program} {w : World} {K : PySem.W.Frag} {mg : Str → Option Value} {base : Heap}
def progFs (wd : Int) (i r o k : Addr) : List (Str × V) := [("width", .int wd), ("inputs", .ref i), ("rows", .ref r), ("outs", .ref o), ("kinds", .ref k)]
/-- a program as it is made: only kinds, inputs, outs will change -/
def sp_Program_init (K : PySem.W.Frag) : Sp := fun vs H Q _ => ∃ a dx wd r, vs = [.ref a, .int wd, .ref r] ∧ H a = some (.ins (He.ga K "Program") dx []) ∧
  ∀ i o k H', H i = none → H o = none → H k = none → i ≠ o → i ≠ k → o ≠ k → H' i = some (.lst []) → H' o = some (.lst []) → H' k = some (.dK []) → H' a = some (.ins (He.ga K "Program") dx (progFs wd i r o k)) → (∀ b, b ≠ a → b ≠ i → b ≠ o → b ≠ k → H' b = H b) → Q .non H'
abbrev N_Program_init : List Str := ["self", "width", "rows"]
theorem sc_Program_init : FnScope ["self", "width", "rows"] ["self", "width", "rows"] (defScope s_Program_init) := ⟨rfl, rfl, rfl, by decide +kernel, rfl, by decide +kernel, by decide +kernel⟩
theorem ok_Program_init {f : Addr} {fd : FuncData} (T : Tx K mg)  (F : FunP K "__init__" "Program.__init__" s_Program_init f fd) : FnOk P w K mg base (L2.CX P w) 1 f fd ["self", "width", "rows"] (sp_Program_init K) := by
  refine F.ok sc_Program_init (fun vs H Q E h => ?_) (fun cdv A outer s H vs Q E hr h => ?_)
  · repeat first | (obtain ⟨e, _⟩ := h; subst e; rfl; done) | (obtain ⟨_, h⟩ := h)
  refine ⟨_, (pss_cons (ps_fld (pv 0) (pv 1) rfl)
  (pss_cons (ps_fld (pv 0) (pe_lst pa_nil) rfl)
  (pss_cons (ps_fld (pv 0) (pv 2) rfl)
  (pss_cons (ps_fld (pv 0) (pe_lst pa_nil) rfl)
  (pss_one (ps_fld (pv 0) pe_dnewK rfl)))))), ?_⟩
  try dsimp only [cxK]
  obtain ⟨a, dx, wd, r, rfl, ha, kq⟩ := h
  walk_at "rdo"
  refine ⟨a, _, dx, _, rfl, ha, c_Program T, na_Program_width T, by decide, ?_⟩
  with_reducible refine r_seq ?_
  with_reducible refine r_newFld rfl upd_same (c_Program T) (na_Program_inputs T) ?_ ["width"] ?_ ?_ fun i H1 i0 ia i1 a1 f1 => ?_
  · show 1 < 1000; decide
  · exact rfl
  · decide +kernel
  walk_at "rdo"
  refine ⟨a, _, dx, _, rfl, a1, c_Program T, na_Program_rows T, (by show 2 < 1000; decide), ?_⟩
  generalize e2 : upd H1 a (.ins (He.ga K "Program") dx (putF "rows" (V.ref r) (putF "width" (V.int wd) [] ++ [(("inputs" : Str), V.ref i)]))) = H2
  have a2 : H2 a = some (.ins (He.ga K "Program") dx [("width", V.int wd), ("inputs", V.ref i), ("rows", V.ref r)]) := by rw [← e2]; exact upd_same
  have f2 : ∀ b, b ≠ a → H2 b = H1 b := fun b hb => by rw [← e2]; exact upd_ne hb
  with_reducible refine r_seq ?_
  with_reducible refine r_newFld rfl a2 (c_Program T) (na_Program_outs T) ?_ ["width", "inputs", "rows"] ?_ ?_ fun o H3 o0 oa o1 a3 f3 => ?_
  · show 3 < 1000; decide
  · exact rfl
  · decide +kernel
  with_reducible refine r_newFldD rfl a3 (c_Program T) (na_Program_kinds T) ?_ ["width", "inputs", "rows", "outs"] ?_ ?_ fun k H4 k0 ka k1 a4 f4 => ?_
  · show 4 < 1000; decide
  · exact rfl
  · decide +kernel
  have i2 : H2 i = some (.lst []) := by rw [f2 _ ia]; exact i1
  have oi : o ≠ i := ne_of_none' o0 i2
  have i3 : H3 i = some (.lst []) := by rw [f3 _ ia oi.symm]; exact i2
  have ki : k ≠ i := ne_of_none' k0 i3
  have ko : k ≠ o := ne_of_none' k0 o1
  have b0 : ∀ x, x ≠ a → upd H a (.ins (He.ga K "Program") dx (putF "width" (V.int wd) [])) x = H x := fun x hx => upd_ne hx
  have e1 : H i = none := by rw [← b0 i ia]; exact i0
  have e2' : H o = none := by rw [← b0 o oa, ← f1 o oa oi, ← f2 o oa]; exact o0
  have e3 : H k = none := by rw [← b0 k ka, ← f1 k ka ki, ← f2 k ka, ← f3 k ka ko]; exact k0
  refine kq i o k H4 e1 e2' e3 oi.symm ki.symm ko.symm ?_ ?_ k1 a4 fun b b1 b2 b3 b4 => ?_
  · rw [f4 _ ia ki.symm]; exact i3
  · rw [f4 _ oa ko.symm]; exact o1
  · rw [f4 b b1 b4, f3 b b1 b3, f2 b b1, f1 b b1 b2, upd_ne b1]
theorem mak_Program (T : Tx K mg) : MakX P w K mg base 1 "Program" (He.ga K "Program") (sp_Program_init K) := by
  obtain ⟨fd, F⟩ := fn_Program_init T
  exact ⟨_, fd, _, mk_Program T, ok_Program_init T F, g_Program T, F.bindsN fun _ _ _ _ _ _ us hl => match us, hl with | [_, _, _], _ => rfl⟩

end
section
variable {P : Program} {w : World} {K : PySem.W.Frag} {mg : Str → Option Value} {base : Heap}
/-! ### a row's words and their parts -/
def DEEDS : List Str := ["add", "sub", "addstop", "substop", "low", "high", "less", "same", "over", "left", "right", "rest", "part", "copy", "pick", "div", "times", "mul"]
def lettersOf (args : List Arg) : Str := ⟨(args.map Arg.letter).toArray⟩
structure RowOk (wd : Int) (gs : List Str) (deed : Str) (args : List Arg) : Prop where
  dd : deed ∈ DEEDS
  fm : formOf deed = lettersOf args
  nm : ∀ g ∈ gs, isName g = true
  gl : (∃ g, gs = [g] ∧ deed ≠ "part") ∨ ∃ g h, gs = [g, h] ∧ g ≠ h ∧ deed = "part"
  ok : ∀ x ∈ args, x.ok wd
theorem deeds_all : (DEEDS.all fun d => decide (d.length ≤ 10) && (decide (d ≠ "set") && (decide (1 ≤ (formOf d).length) && (decide ((formOf d).length ≤ 4) && d.cps.toList.all fun c => decide (97 ≤ c ∧ c ≤ 122))))) = true := by decide +kernel
theorem deed_fine {d : Str} (h : d ∈ DEEDS) : d.length ≤ 10 ∧ d ≠ "set" ∧ 1 ≤ (formOf d).length ∧ (formOf d).length ≤ 4 ∧ ∀ c ∈ d.cps.toList, 97 ≤ c ∧ c ≤ 122 := by
  have q := List.all_eq_true.mp deeds_all d h
  simp only [Bool.and_eq_true, decide_eq_true_eq, List.all_eq_true] at q
  exact ⟨q.1, q.2.1, q.2.2.1, q.2.2.2.1, q.2.2.2.2⟩
theorem RowOk.len {wd : Int} {gs : List Str} {deed : Str} {args : List Arg} (h : RowOk wd gs deed args) : 1 ≤ args.length ∧ args.length ≤ 4 := by
  have q := deed_fine h.dd
  rw [h.fm] at q
  have e : (lettersOf args).length = args.length := by show (args.map Arg.letter).toArray.size = _; simp
  rw [e] at q
  exact ⟨q.2.2.1, q.2.2.2.1⟩
theorem low_arg {wd : Int} (h4 : 4 ≤ wd) {x : Arg} (h : x.ok wd) : lowS x.text := by
  cases x with
  | nm x => exact low_name h
  | wy x => rcases (h : wayB x) with rfl | rfl | rfl | rfl <;> (intro c hc; revert c; decide +kernel)
  | kn i => exact low_num (show 0 ≤ i from h.1)
  | nn i => exact low_num (by have := h.1; omega)
  | fr i j =>
    obtain ⟨h1, h2, h3, h4⟩ := (h : 0 ≤ i ∧ i ≤ j ∧ 1 ≤ j ∧ j ≤ 2 ^ wd.toNat - 1)
    intro c hc
    have e : (Arg.fr i j).text.cps.toList = ((num i).cps.toList ++ ("/" : Str).cps.toList) ++ (num j).cps.toList := by
      show ((num i ++ ("/" : Str)) ++ num j).cps.toList = _
      exact (TL.tl_append _ _).trans (by rw [show TL.tl (num i ++ ("/" : Str)) = _ from TL.tl_append _ _]; try rfl)
    rw [e] at hc
    rcases List.mem_append.mp hc with hc | hc
    · rcases List.mem_append.mp hc with hc | hc
      · exact low_num h1 c hc
      · have : ("/" : Str).cps.toList = [47] := by decide +kernel
        rw [this] at hc
        rw [List.mem_singleton.mp hc]; decide
    · exact low_num (by omega) c hc
theorem cutDrop (xs : List V) (k : Nat) (h : k ≤ xs.length) : cutV xs (some (k : Int)) none = xs.drop k := by
  show (xs.drop (HT.sIx xs.length 0 (some (k : Int)))).take (xs.length - HT.sIx xs.length 0 (some (k : Int))) = _
  rw [HT.sIx_nat, Nat.min_eq_left h, List.take_of_length_le (by rw [List.length_drop]; exact Nat.le_refl _)]
theorem cutMid (xs : List V) (j k : Nat) (h : j ≤ k) (h2 : k ≤ xs.length) : cutV xs (some (j : Int)) (some (k : Int)) = (xs.drop j).take (k - j) := by
  show (xs.drop (HT.sIx xs.length 0 (some (j : Int)))).take (HT.sIx xs.length xs.length (some (k : Int)) - HT.sIx xs.length 0 (some (j : Int))) = _
  rw [HT.sIx_nat, HT.sIx_nat, Nat.min_eq_left h2, Nat.min_eq_left (by omega)]
structure Parts (ws : List Str) (g0 gl : Str) (gi gt : List Str) (gs : List Str) (deed : Str) (rest : List Str) (m : Int) (w1 : List Str) (b1 : Bool) : Prop where
  c1 : cutV (ws.map V.str) (some 1) (some 2) = w1.map V.str
  s1 : (SeqAt.shaped (.list (w1.map .str)) && SeqAt.shaped (.list ((["="] : List Str).map .str))) = true
  e1 : PyData.eqv (.list (w1.map .str)) (.list ((["="] : List Str).map .str)) = b1
  hm : m = 1 + (if b1 = true then 0 else 1)
  cg : cutV (ws.map V.str) none (some m) = gs.map V.str
  cd : cutV (ws.map V.str) (some (m + 1)) (some (m + 2)) = ([deed] : List Str).map V.str
  cr : cutV (ws.map V.str) (some (m + 2)) none = rest.map V.str
  ce : cutV (ws.map V.str) (some m) (some (m + 1)) = (["="] : List Str).map V.str
  hp : (decide (deed = "part") != decide (m = 2)) = false
  ga : gs = g0 :: gt
  gb : gs = gi ++ [gl]
  n0 : isName g0 = true
  nl : isName gl = true
  ct : cutV (gs.map V.str) (some 1) none = gt.map V.str
  ch : cutV (gs.map V.str) none (some 1) = ([g0] : List Str).map V.str
  se : (SeqAt.shaped (.list (gt.map .str)) && SeqAt.shaped (.list (([g0] : List Str).map .str))) = true
  ee : PyData.eqv (.list (gt.map .str)) (.list (([g0] : List Str).map .str)) = false
  gl3 : gs.length ≤ 3
theorem sh_name {x : Str} (h : isName x = true) : SeqAt.shaped (.list (([x] : List Str).map .str)) = true := shaped_low (xs := [x]) fun y hy => by rw [List.mem_singleton.mp hy]; exact low_name h
theorem sh_eq : SeqAt.shaped (.list ((["="] : List Str).map .str)) = true := by decide +kernel
theorem eqv1 {g h : Str} (e : g ≠ h) : PyData.eqv (.list (([g] : List Str).map .str)) (.list (([h] : List Str).map .str)) = false := by
  simp [PyData.eqv, PyData.eqvAll, e]
theorem eqv0 {h : Str} : PyData.eqv (.list (([] : List Str).map .str)) (.list (([h] : List Str).map .str)) = false := by
  simp [PyData.eqv, PyData.eqvAll]
theorem RowOk.parts {wd : Int} {gs : List Str} {deed : Str} {args : List Arg} (h : RowOk wd gs deed args) : ∃ g0 gl gi gt m w1 b1, Parts (Ln.row gs deed args).words g0 gl gi gt gs deed (args.map Arg.text) m w1 b1 := by
  rcases h.gl with ⟨g, rfl, hp⟩ | ⟨g, k, rfl, hgk, hp⟩
  · have hg := h.nm g (by simp)
    have ew : (Ln.row [g] deed args).words = g :: ("=" : Str) :: deed :: args.map Arg.text := rfl
    rw [ew]
    refine ⟨g, g, [], [], 1, ["="], true, ?_, by rw [sh_eq]; rfl, by decide +kernel, rfl, ?_, ?_, ?_, ?_, ?_, rfl, rfl, hg, hg, rfl, rfl, by rw [shaped_nil, sh_name hg]; rfl, eqv0, by show 1 ≤ 3; decide⟩
    · exact cutMid _ 1 2 (by decide) (by simp)
    · exact cutTake _ (k := 1) (by simp)
    · exact cutMid _ 2 3 (by decide) (by simp)
    · exact cutDrop _ 3 (by simp)
    · exact cutMid _ 1 2 (by decide) (by simp)
    · rw [decide_eq_false hp]; rfl
  · have hg := h.nm g (by simp)
    have hk := h.nm k (by simp)
    have ew : (Ln.row [g, k] deed args).words = g :: k :: ("=" : Str) :: deed :: args.map Arg.text := rfl
    rw [ew]
    have hke : k ≠ "=" := name_ne hk 61 (by decide +kernel) (.inl (by decide))
    refine ⟨g, k, [g], [k], 2, [k], false, ?_, by rw [sh_name hk, sh_eq]; rfl, eqv1 hke, rfl, ?_, ?_, ?_, ?_, ?_, rfl, rfl, hg, hk, rfl, rfl, by rw [sh_name hk, sh_name hg]; rfl, eqv1 (Ne.symm hgk), by show 2 ≤ 3; decide⟩
    · exact cutMid _ 1 2 (by decide) (by simp)
    · exact cutTake _ (k := 2) (by simp)
    · exact cutMid _ 3 4 (by decide) (by simp)
    · exact cutDrop _ 4 (by simp)
    · exact cutMid _ 2 3 (by decide) (by simp)
    · rw [decide_eq_true hp]; rfl
theorem readsA_take {args : List Arg} {i : Nat} {x : Arg} (h : args[i]? = some x) : readsA (args.take (i + 1)) = readsA (args.take i) ++ x.reads := by
  unfold readsA
  rw [List.take_add_one, h, List.flatMap_append]
  simp
theorem numsA_take {args : List Arg} {i : Nat} {x : Arg} (h : args[i]? = some x) : numsA (args.take (i + 1)) = numsA (args.take i) ++ x.nums := by
  unfold numsA
  rw [List.take_add_one, h, List.flatMap_append]
  simp
theorem wayA_take {args : List Arg} {i : Nat} {x : Arg} (h : args[i]? = some x) : wayA (args.take (i + 1)) = x.way (wayA (args.take i)) := by
  unfold wayA
  rw [List.take_add_one, h, List.foldl_append]
  rfl
theorem readsA_len : ∀ args : List Arg, (readsA args).length ≤ 2 * args.length ∧ (numsA args).length ≤ 2 * args.length
  | [] => ⟨Nat.le_refl _, Nat.le_refl _⟩
  | x :: r => by
    have h := readsA_len r
    have e1 : readsA (x :: r) = x.reads ++ readsA r := rfl
    have e2 : numsA (x :: r) = x.nums ++ numsA r := rfl
    rw [e1, e2, List.length_append, List.length_append, List.length_cons]
    have h1 : x.reads.length ≤ 2 := by cases x <;> simp [Arg.reads]
    have h2 : x.nums.length ≤ 2 := by cases x <;> simp [Arg.nums]
    omega
/-- a row told: its three places' last contents -/
theorem DAt.proph3 {K : PySem.W.Frag} {F H : Hp} {d : Addr} {M : DM} {A : DA} {a r n : Addr} (S : Same F H) (D : DAt K F H d M A) (ha : F a = none) (hr : F r = none) (hn : F n = none) (ia : a ∉ A.fp d) (ir : r ∉ A.fp d) (jn : n ∉ A.fp d) (har : a ≠ r) (han : a ≠ n) (hrn : r ≠ n) (o0 o1 o2 : HO) :
    ∃ F2, Same F F2 ∧ (∀ x ∈ A.fp d, F2 x = none) ∧ (∀ x o, x ≠ a → x ≠ r → x ≠ n → F2 x = some o → H x = some o) ∧ F2 a = some o0 ∧ F2 r = some o1 ∧ F2 n = some o2 ∧ (∀ x o, x ∉ A.fp d → x ≠ a → x ≠ r → x ≠ n → H x = some o → F2 x = some o) := by
  obtain ⟨Fz, z1, z2, Dz, z3⟩ := D.freeze S
  refine ⟨upd (upd (upd Fz a o0) r o1) n o2, ?_, ?_, ?_, ?_, ?_, upd_same, ?_⟩
  · intro x o e
    have x0 : x ≠ a := fun z => by rw [z, ha] at e; cases e
    have x1 : x ≠ r := fun z => by rw [z, hr] at e; cases e
    have x2 : x ≠ n := fun z => by rw [z, hn] at e; cases e
    rw [upd_ne x2, upd_ne x1, upd_ne x0]; exact z1 _ _ e
  · intro x hx
    have x0 : x ≠ a := fun z => ia (z ▸ hx)
    have x1 : x ≠ r := fun z => ir (z ▸ hx)
    have x2 : x ≠ n := fun z => jn (z ▸ hx)
    rw [upd_ne x2, upd_ne x1, upd_ne x0]; exact Dz.fz x hx
  · intro x o x0 x1 x2 e
    rw [upd_ne x2, upd_ne x1, upd_ne x0] at e; exact z2 _ _ e
  · rw [upd_ne han, upd_ne har, upd_same]
  · rw [upd_ne hrn, upd_same]
  · intro x o hx x0 x1 x2 e
    rw [upd_ne x2, upd_ne x1, upd_ne x0]; exact z3 x o hx e

end
section
variable {P : Program} {w : World} {K : PySem.W.Frag} {mg : Str → Option Value} {base : Heap}
theorem join1 (d : Str) : Txt.join "" [d] = d := by rw [TL.join_eq]; rfl
def sp_Draft_take_row (K : PySem.W.Frag) : Sp := fun vs H Q _ => ∃ d ln aw gs deed args F M A, vs = [.ref d, .int ln, .ref aw] ∧ F aw = some (.lst ((Ln.row gs deed args).words.map V.str)) ∧ Same F H ∧ DAt K F H d M A ∧ RowOk M.wd gs deed args ∧
  4 ≤ M.wd ∧ M.wd ≤ 32 ∧ M.known.length ≤ 1000 ∧ M.top.len ≤ 1000 ∧ PostD K F d ((Ln.row gs deed args).step ln M) Q
abbrev N_Draft_take_row : List Str := ["self", "line", "words", "many", "goals", "deed", "rest", "row", "name", "form", "letter", "word"]
theorem sc_Draft_take_row : FnScope ["self", "line", "words", "many", "goals", "deed", "rest", "row", "name", "form", "letter", "word"] ["self", "line", "words"] (defScope s_Draft_take_row) := ⟨rfl, rfl, rfl, by decide +kernel, rfl, by decide +kernel, by decide +kernel⟩
theorem ok_Draft_take_row {f : Addr} {fd : FuncData} (T : Tx K mg)  (F : FunP K "take_row" "Draft.take_row" s_Draft_take_row f fd) : FnOk P w K mg base (L2.CX P w) 8 f fd ["self", "line", "words"] (sp_Draft_take_row K) := by
  refine F.ok sc_Draft_take_row (fun vs H Q E h => ?_) (fun cdv A outer s H vs Q E hr h => ?_)
  · repeat first | (obtain ⟨e, _⟩ := h; subst e; rfl; done) | (obtain ⟨_, h⟩ := h)
  refine ⟨_, (pss_cons (ps_set (i := 3) sc_Draft_take_row.nd rfl (Or.inl rfl) (pe_op op_add pe_int (pe_callTy call_int1 (by rfl) (fr_int T) (by decide +kernel) (pa_cons (pe_cmpR (op_neD (hu64 hr)) (pe_slice sl_list (pv 2) (po_some pe_int) (po_some pe_int)) (pe_lst (pa_cons pe_str pa_nil)) (nomark _)) pa_nil))))
  (pss_cons (ps_set (i := 4) sc_Draft_take_row.nd rfl (Or.inl rfl) (pe_slice sl_list (pv 2) po_none (po_some (pv 3))))
  (pss_cons (ps_set (i := 5) sc_Draft_take_row.nd rfl (Or.inl rfl) (pe_bm PySem.F.plainAttrs_str PySem.F.slot_str_join PySem.F.type_str_join mt_join pe_str (pa_cons (pe_slice sl_list (pv 2) (po_some (pe_op op_add (pv 3) pe_int)) (po_some (pe_op op_add (pv 3) pe_int))) pa_nil)))
  (pss_cons (ps_set (i := 6) sc_Draft_take_row.nd rfl (Or.inl rfl) (pe_slice sl_list (pv 2) (po_some (pe_op op_add (pv 3) pe_int)) po_none))
  (pss_cons (ps_if (PW.pt (pw_or (pt_cmpR (op_neD (hu64 hr)) (pe_slice sl_list (pv 2) (po_some (pv 3)) (po_some (pe_op op_add (pv 3) pe_int))) (pe_lst (pa_cons pe_str pa_nil)) (nomark _)) (pw_or (pt_cmpR op_ne (pe_cmpR op_eq (pv 5) pe_str (nomark _)) (pe_cmpR op_eq (pv 3) pe_int (nomark _)) (nomark _)) (pw_or1 (pt_not (pt_val (pe_cX (cal_is_name T) hr (by decide) rfl pU (pa_cons (pe_ix ix_list (pv 4) pe_int (fun _ _ => rfl)) pa_nil)))))))) (pss_one (ps_ret pe_bl)) pss_nil)
  (pss_cons (ps_if (PW.pt (pw_or (pt_not (pt_val (pe_cX (cal_is_name T) hr (by decide) rfl pU (pa_cons (pe_ix ix_list (pv 4) (pe_un un_neg pe_int) (fun _ _ => rfl)) pa_nil)))) (pw_or1 (pt_cmpR (op_eqD (hu64 hr)) (pe_slice sl_list (pv 4) (po_some pe_int) po_none) (pe_slice sl_list (pv 4) po_none (po_some pe_int)) (nomark _))))) (pss_one (ps_ret pe_bl)) pss_nil)
  (pss_cons (ps_set (i := 7) sc_Draft_take_row.nd rfl (Or.inr rfl) (pe_kX (mak_Row T) hr (by decide) rfl pU (pa_cons (pv 1) (pa_cons (pv 5) (pa_cons (pv 4) pa_nil)))))
  (pss_cons (ps_expr (pe_bm PySem.F.plainAttrs_list PySem.F.slot_list_append PySem.F.type_list_append mt_append (pe_mX0 (met_Draft_block T) hr (by decide) pU (pv 0)) (pa_cons (pv 7) pa_nil)))
  (pss_cons (ps_for oU rfl (pi_list (pv 4)) (pg_name (i := 8) sc_Draft_take_row.nd rfl (Or.inl rfl))
  (pss_one (ps_dput (hu_of hr) (pe_fld (pv 0) rfl) (pv 8) pe_bl rfl)))
  (pss_cons (ps_if (pt_cmpR op_eq (pv 5) pe_str (nomark _)) pss_dead pss_nil)
  (pss_cons (ps_set (i := 9) sc_Draft_take_row.nd rfl (Or.inl rfl) (pe_cX (cal_form_of T) hr (by decide) rfl pU (pa_cons (pv 5) pa_nil)))
  (pss_cons (ps_if (PW.pt (pw_or (pt_cmpR op_ne (pe_callB call_len_str (by rfl) (fr_len T) (by decide +kernel) (pa_cons (pv 9) pa_nil)) (pe_callB call_len_seq (by rfl) (fr_len T) (by decide +kernel) (pa_cons (pv 6) pa_nil)) (nomark _)) (pw_or1 (pt_cmpR (op_eqE (hu64 hr)) (pv 6) (pe_lst pa_nil) (nomark _))))) (pss_one (ps_ret pe_bl)) pss_nil)
  (pss_one (ps_ret (pe_callB (cr_all rfl) (by rfl) (fr_all T) (by decide +kernel) (pa_cons (pe_lc (own := [("letter", 10), ("word", 11)]) (te := tCall (sp_taken K) [] E0 (tCons (tVar 7) (tCons (tFld K (tVar 0) "width") (tCons (tVar 10) (tCons (tVar 11) tNil))))) (g := gTup _ 2 (gCons (gName 10) (gCons (gName 11) (gNil)))) (tt := tYes) rfl sc_Draft_take_row.nd (pi_zipSL rfl (fr_zip T) (pa_cons (pv 9) (pa_cons (pv 6) pa_nil))) (blkOk_by (N := N_Draft_take_row) (sc := defScope s_Draft_take_row) (by decide +kernel)) (fun _ _ _ _ _ => (pg_tup rfl (pgs_cons (pg_name (i := 10) sc_Draft_take_row.nd rfl (Or.inl rfl)) (pgs_cons (pg_name (i := 11) sc_Draft_take_row.nd rfl (Or.inl rfl)) pgs_nil)))) (fun _ _ _ _ _ => pts_nil) (fun _ _ _ _ _ => (pe_cX (cal_taken T) hr (by decide) rfl passL (pa_cons (pv 7) (pa_cons (pe_fld (pv 0) rfl) (pa_cons (pv 10) (pa_cons (pv 11) pa_nil))))))) pa_nil)))))))))))))))), ?_⟩
  try dsimp only [cxK]
  obtain ⟨d, ln, aw, gs, deed, args, F, M, A, rfl, hw, S, D, hok, h4, h32, hkl, htl, kq⟩ := h
  obtain ⟨g0, gl, gi, gt, m, w1, b1, P⟩ := hok.parts
  obtain ⟨dl, dset, -, -, -⟩ := deed_fine hok.dd
  obtain ⟨al1, al4⟩ := hok.len
  walk_at "rd"
  refine r_slL (SqL.of (S _ _ hw)) fun q1 hq1 => ?_
  rw [P.c1]
  have s1 : Same H (upd H q1 (.lst (w1.map V.str))) := Same.new hq1
  have S1 := S.trans s1
  have D1 := D.same s1
  have e1 : upd H q1 (.lst (w1.map V.str)) q1 = some (.lst (w1.map V.str)) := upd_same
  generalize upd H q1 (.lst (w1.map V.str)) = H1 at *
  walk_at "rd"
  refine r_newL fun q2 hq2 => ?_
  have s2 : Same H1 (upd H1 q2 (.lst [.str "="])) := Same.new hq2
  have S2 : Same F (upd H1 q2 (.lst [.str "="])) := fun a u e => s2 a u (S1 a u e)
  have D2 := D1.same s2
  refine r_neStrs w1 ["="] b1 (SqL.of (s2 _ _ e1)) (SqL.of upd_same) P.s1 P.e1 ?_
  generalize upd H1 q2 (.lst [.str "="]) = H2 at *
  clear e1
  walk_at "rd"
  refine r_intB ?_
  walk_at "rd"
  rw [show (1 + if (!b1) = true then 1 else 0 : Int) = m by rw [P.hm]; cases b1 <;> rfl]
  refine r_slL (SqL.of (S2 _ _ hw)) fun qg hqg => ?_
  rw [P.cg]
  have s3 : Same H2 (upd H2 qg (.lst (gs.map V.str))) := Same.new hqg
  have S3 : Same F (upd H2 qg (.lst (gs.map V.str))) := fun a u e => s3 a u (S2 a u e)
  have D3 := D2.same s3
  have eg : upd H2 qg (.lst (gs.map V.str)) qg = some (.lst (gs.map V.str)) := upd_same
  have ig := D2.fresh hqg
  generalize upd H2 qg (.lst (gs.map V.str)) = H3 at *
  walk_at "rd"
  refine ⟨rfl, ?_⟩
  walk_at "rd"
  refine r_slL (SqL.of (S3 _ _ hw)) fun q4 hq4 => ?_
  rw [P.cd]
  have s4 : Same H3 (upd H3 q4 (.lst (([deed] : List Str).map V.str))) := Same.new hq4
  have S4 : Same F (upd H3 q4 (.lst (([deed] : List Str).map V.str))) := fun a u e => s4 a u (S3 a u e)
  have D4 := D3.same s4
  have eg4 := s4 _ _ eg
  have e4 : upd H3 q4 (.lst (([deed] : List Str).map V.str)) q4 = some (.lst (([deed] : List Str).map V.str)) := upd_same
  generalize upd H3 q4 (.lst (([deed] : List Str).map V.str)) = H4 at *
  walk_at "rd"
  refine ⟨"", q4, [deed], rfl, rfl, .inl (SqL.of e4), ?_, ?_⟩
  · have l0 : ("" : Str).length = 0 := by decide +kernel
    rw [l0]
    show ([deed.length].sum + 1 * 0 ≤ 16777216)
    simp only [List.sum_cons, List.sum_nil]
    omega
  rw [join1]
  clear e4
  walk_at "rd"
  refine r_slL (SqL.of (S4 _ _ hw)) fun qr hqr => ?_
  rw [P.cr]
  have s5 : Same H4 (upd H4 qr (.lst ((args.map Arg.text).map V.str))) := Same.new hqr
  have S5 : Same F (upd H4 qr (.lst ((args.map Arg.text).map V.str))) := fun a u e => s5 a u (S4 a u e)
  have D5 := D4.same s5
  have eg5 := s5 _ _ eg4
  have er5 : upd H4 qr (.lst ((args.map Arg.text).map V.str)) qr = some (.lst ((args.map Arg.text).map V.str)) := upd_same
  have ir := D4.fresh hqr
  generalize upd H4 qr (.lst ((args.map Arg.text).map V.str)) = H5 at *
  walk_at "rds"
  refine r_ifB false (fun B kB => ?_) (fun H6 s6 => ?_)
  · walk_at "rd"
    refine r_slL (SqL.of (S5 _ _ hw)) fun q6 hq6 => ?_
    rw [P.ce]
    have s6 : Same H5 (upd H5 q6 (.lst ((["="] : List Str).map V.str))) := Same.new hq6
    have e6 : upd H5 q6 (.lst ((["="] : List Str).map V.str)) q6 = some (.lst ((["="] : List Str).map V.str)) := upd_same
    generalize upd H5 q6 (.lst ((["="] : List Str).map V.str)) = H6 at *
    walk_at "rd"
    refine r_newL fun q7 hq7 => ?_
    have s7 : Same H6 (upd H6 q7 (.lst [.str "="])) := Same.new hq7
    refine r_neStrs ["="] ["="] true (SqL.of (s7 _ _ e6)) (SqL.of upd_same) (by decide +kernel) (by decide +kernel) ?_
    have s67 := s6.trans s7
    generalize upd H6 q7 (.lst [.str "="]) = H7 at *
    walk_at "rd"
    rw [P.hp]
    walk_at "rd"
    rw [P.ga] at eg5
    refine r_ixL (SqL.of (s67 _ _ eg5)) at0 ?_
    walk_at "rd"
    refine ⟨g0, rfl, by have := (name_signs P.n0).1; omega, fun H8 s8 => ?_⟩
    rw [P.n0]
    walk_at "rd"
    exact kB _ (s67.trans s8)
  have S6 : Same F H6 := fun a u e => s6 a u (S5 a u e)
  have D6 := D5.same s6
  have eg6 := s6 _ _ eg5
  have er6 := s6 _ _ er5
  rw [if_neg (by decide)]
  walk_at "rds"
  refine r_ifB false (fun B kB => ?_) (fun H7 s7 => ?_)
  · walk_at "rd"
    have eg6' := eg6
    rw [P.gb, List.map_append] at eg6'
    refine r_ixL (SqL.of eg6') atLast ?_
    walk_at "rd"
    refine ⟨gl, rfl, by have := (name_signs P.nl).1; omega, fun H8 s8 => ?_⟩
    rw [P.nl]
    walk_at "rd"
    refine r_slL (SqL.of (s8 _ _ eg6)) fun q9 hq9 => ?_
    rw [P.ct]
    have s9 : Same H8 (upd H8 q9 (.lst (gt.map V.str))) := Same.new hq9
    have e9 : upd H8 q9 (.lst (gt.map V.str)) q9 = some (.lst (gt.map V.str)) := upd_same
    have s89 := s8.trans s9
    generalize upd H8 q9 (.lst (gt.map V.str)) = H9 at *
    walk_at "rd"
    refine r_slL (SqL.of (s89 _ _ eg6)) fun q10 hq10 => ?_
    rw [P.ch]
    have s10 : Same H9 (upd H9 q10 (.lst (([g0] : List Str).map V.str))) := Same.new hq10
    refine r_eqStrs gt [g0] false (SqL.of (s10 _ _ e9)) (SqL.of upd_same) P.se P.ee ?_
    walk_at "rd"
    exact kB _ (s89.trans s10)
  have S7 : Same F H7 := fun a u e => s7 a u (S6 a u e)
  have D7 := D6.same s7
  have eg7 := s7 _ _ eg6
  have er7 := s7 _ _ er6
  rw [if_neg (by decide)]
  clear S1 S2 S3 S4 S5 S6 D1 D2 D3 D4 D5 D6 s1 s2 s3 s4 s5 s6 s7 eg eg4 eg5 eg6 er5 er6 hqg hq4 hqr hq1 hq2
  walk_at "rd"
  intro a dx ha hdx hne
  refine ⟨a, dx, ln, deed, qg, rfl, upd_same, fun r n H8 hr hn hrn r8 n8 a8 f8 => ⟨rfl, ?_⟩⟩
  have ra : r ≠ a := fun z => by rw [z, upd_same] at hr; cases hr
  have na : n ≠ a := fun z => by rw [z, upd_same] at hn; cases hn
  have rdx : r ≠ dx := fun z => by rw [upd_ne ra, z, upd_same] at hr; cases hr
  have ndx : n ≠ dx := fun z => by rw [upd_ne na, z, upd_same] at hn; cases hn
  have hr7 : H7 r = none := by rw [upd_ne ra, upd_ne rdx] at hr; exact hr
  have hn7 : H7 n = none := by rw [upd_ne na, upd_ne ndx] at hn; exact hn
  have s8 : Same H7 H8 := fun x u e => by
    rw [f8 x (ne_of_none e ha) (ne_of_none e hr7) (ne_of_none e hn7), upd_ne (ne_of_none e ha), upd_ne (ne_of_none e hdx)]; exact e
  have S8 : Same F H8 := fun x u e => s8 x u (S7 x u e)
  have D8 := D7.same s8
  have ia := D7.fresh ha
  have ir8 := D7.fresh hr7
  have in8 := D7.fresh hn7
  have eg8 := s8 _ _ eg7
  have er8 := s8 _ _ er7
  walk_at "rd"
  refine r_methO D8.o rfl (lkD_none (by decide +kernel)) ?_
  walk_at "rd"
  refine ⟨d, F, M, A, rfl, S8, D8, fun H9 s9 => ?_⟩
  have S9 : Same F H9 := fun x u e => s9 x u (S8 x u e)
  have S9' := S7
  have eg7' := eg7
  have rqr : qr ≠ r := fun z => by rw [z, hr7] at er7; cases er7
  have rqn : qr ≠ n := fun z => by rw [z, hn7] at er7; cases er7
  have D9 := D8.same s9
  have r9 := s9 _ _ r8
  have n9 := s9 _ _ n8
  have a9 := s9 _ _ a8
  have eg9 := s9 _ _ eg8
  have er9 := s9 _ _ er8
  obtain ⟨vb, b1', b2⟩ := D9.blkAt
  have bl : vb.length ≤ 1000 := by rw [b2.len]; exact htl
  refine r_tyL (SqL.of b1') ?_
  walk_at "rd"
  refine r_app b1' (by omega) ?_
  clear S8 D8 r8 n8 a8 eg8 er8 s8 s9 f8 eg7 er7 D7 S7
  have Fr : F r = none := by
    cases e : F r with
    | none => rfl
    | some o => exact absurd (S9' _ _ e) (by rw [hr7]; exact fun z => nomatch z)
  have Fn : F n = none := by
    cases e : F n with
    | none => rfl
    | some o => exact absurd (S9' _ _ e) (by rw [hn7]; exact fun z => nomatch z)
  have Fa : F a = none := by
    cases e : F a with
    | none => rfl
    | some o => exact absurd (S9' _ _ e) (by rw [ha]; exact fun z => nomatch z)
  obtain ⟨F2, p1, p2, p3, p0, p4, p5, p6⟩ := D9.proph3 S9 Fa Fr Fn ia ir8 in8 ra.symm na.symm hrn (.ins (He.ga K "Row") dx (rowFs ln deed qg r n (wayA args))) (.lst ((readsA args).map .str)) (.lst ((numsA args).map .int))
  have ga : qg ≠ a := fun z => by rw [z, ha] at eg7'; cases eg7'
  have gr : qg ≠ r := fun z => by rw [z, hr7] at eg7'; cases eg7'
  have gn : qg ≠ n := fun z => by rw [z, hn7] at eg7'; cases eg7'
  have row : RowsAt K F2 (.row ln ⟨deed, gs, readsA args, numsA args, wayA args⟩ .nil) [.ref a] := ⟨a, dx, qg, r, n, [], rfl, p0, p6 _ _ ig ga gr gn eg9, p4, p5, rfl⟩
  have D10 := (D9.froze p1 p2).addN b1' row
  have bm := D9.blk_mem
  have f10 : ∀ x o, x ∉ A.fp d → H9 x = some o → upd H9 A.blk (.lst (vb ++ [.ref a])) x = some o := fun x o hx e => by
    have hxb : x ≠ A.blk := fun z => hx (by rw [z]; exact bm)
    rw [upd_ne hxb]; exact e
  have eM : ({ addR M (.row ln ⟨deed, gs, readsA args, numsA args, wayA args⟩ .nil) with known := M.known } : DM) = addR M (.row ln ⟨deed, gs, readsA args, numsA args, wayA args⟩ .nil) := by
    obtain ⟨wd, ins, rows, outs, loops, known, chosen⟩ := M
    cases loops with
    | nil => rfl
    | cons y l => obtain ⟨a, b, c⟩ := y; rfl
  rw [← eM] at D10
  have aqr : qr ≠ a := fun z => by rw [z, a9] at er9; cases er9
  generalize upd H9 A.blk (.lst (vb ++ [.ref a])) = H10 at *
  walk_at "rd"
  refine r_forLv rfl (SqL.of (f10 _ _ ig eg9)) ⟨fun i σ' H' => (∃ z, σ' = ((((((L2.start N_Draft_take_row [V.ref d, V.int ln, V.ref aw]).set 3 (some (V.int m))).set 4 (some (V.ref qg))).set 5 (some (V.str deed))).set 6 (some (V.ref qr))).set 7 (some (V.ref a))).set 8 z) ∧
    DAt K F2 H' d { addR M (.row ln ⟨deed, gs, readsA args, numsA args, wayA args⟩ .nil) with known := (gs.take i).foldl putN M.known } A ∧ (∀ x o, x ∉ A.fp d → H9 x = some o → H' x = some o), ⟨⟨none, rfl⟩, D10, f10⟩, fun i σ' H' q => SqL.of (q.2.2 _ _ ig eg9), fun i x σ' H' hx q => ?_, fun σ' H' q => ?_⟩
  · obtain ⟨⟨z, rfl⟩, Dq, fq⟩ := q
    obtain ⟨y, hy, rfl⟩ : ∃ y, gs[i]? = some y ∧ x = V.str y := by
      rw [List.getElem?_map] at hx
      cases e : gs[i]? with
      | none => rw [e] at hx; cases hx
      | some y => rw [e] at hx; exact ⟨y, rfl, (Option.some.inj hx).symm⟩
    walk_at "rd"
    refine r_fldO Dq.o (c_Draft T) (na_Draft_known T) lkD_known ?_
    walk_at "rd"
    refine r_dputS Dq.k ?_ ?_
    · have l1 := fold_len M.known (gs.take i)
      have l2 : (gs.take i).length ≤ gs.length := by rw [List.length_take]; exact Nat.min_le_right _ _
      have l3 := P.gl3
      unfold knownD
      rw [List.length_map]
      show ((gs.take i).foldl putN M.known).length ≤ 100000
      omega
    have Dk := Dq.know y
    have km := (A.mem d).2.2.2.2.2.1
    refine ⟨⟨some (V.str y), rfl⟩, ?_, fun x o hx' e => ?_⟩
    · rw [take_fold hy]; exact Dk
    · have hxk : x ≠ A.k := fun z => hx' (by rw [z]; exact km)
      rw [upd_ne hxk]; exact fq x o hx' e
  obtain ⟨⟨z, rfl⟩, Dq, fq⟩ := q
  rw [List.length_map, List.take_length] at Dq
  have eS : (Ln.row gs deed args).step ln M = { addR M (.row ln ⟨deed, gs, readsA args, numsA args, wayA args⟩ .nil) with known := gs.foldl putN M.known } := by
    show addR { M with known := gs.foldl putN M.known } _ = _
    rw [addR_known]
    rfl
  rw [eS] at kq
  have ewd := (addR_known0 M (.row ln ⟨deed, gs, readsA args, numsA args, wayA args⟩ .nil)).2.1
  generalize hM' : ({ addR M (.row ln ⟨deed, gs, readsA args, numsA args, wayA args⟩ .nil) with known := gs.foldl putN M.known } : DM) = M' at *
  have ewd' : M'.wd = M.wd := by rw [← hM']; exact ewd
  have erq := fq _ _ ir er9
  have rq := fq _ _ ir8 r9
  have nq := fq _ _ in8 n9
  have aq := fq _ _ ia a9
  clear D10 f10 D9 eg9 er9 r9 n9 a9 eM
  walk_at "rd"
  rw [decide_eq_false dset]
  walk_at "rd"
  refine ⟨_, rfl, fun H11 s11 => ?_⟩
  rw [hok.fm]
  have D11 := Dq.same s11
  have er11 := s11 _ _ erq
  have r11 := s11 _ _ rq
  have n11 := s11 _ _ nq
  have a11 := s11 _ _ aq
  have lsz : (lettersOf args).length = args.length := by show (args.map Arg.letter).toArray.size = _; simp
  walk_at "rd"
  refine r_lenS (by omega) ?_
  walk_at "rd"
  refine r_lenL (SqL.of er11) ?_
  walk_at "rd"
  rw [lsz, List.length_map, List.length_map, decide_eq_true rfl]
  walk_at "rd"
  refine r_newL fun q12 hq12 => ?_
  have s12 : Same H11 (upd H11 q12 (.lst [])) := Same.new hq12
  have hne12 : ((args.map Arg.text).map V.str).length ≠ 0 := by rw [List.length_map, List.length_map]; omega
  refine r_eqE1 (SqL.of (s12 _ _ er11)) (SqL.of upd_same) hne12 ?_
  have D12 := D11.same s12
  have er12 := s12 _ _ er11
  have r12 := s12 _ _ r11
  have n12 := s12 _ _ n11
  have a12 := s12 _ _ a11
  have f12 : ∀ x o, x ∉ A.fp d → H9 x = some o → upd H11 q12 (.lst []) x = some o := fun x o hx e => s12 _ _ (s11 _ _ (fq x o hx e))
  generalize upd H11 q12 (.lst []) = H12 at *
  walk_at "rd"
  have aR : ∀ i, (readsA (args.take i)).length ≤ 1000 ∧ (numsA (args.take i)).length ≤ 1000 := fun i => by
    have q := readsA_len (args.take i)
    have l : (args.take i).length ≤ args.length := by rw [List.length_take]; exact Nat.min_le_right _ _
    omega
  have w4 : 4 ≤ M'.wd := by omega
  have w32 : M'.wd ≤ 32 := by omega
  refine r_lcZ (x := lettersOf args) (ys := (args.map Arg.text).map V.str) rfl rfl (SqL.of er12) (fun E i H' => H12 E = none ∧ H' E = some (.lst ((List.replicate i true).map V.bl)) ∧ H' a = some (.ins (He.ga K "Row") dx (rowFs ln deed qg r n (wayA (args.take i)))) ∧
    H' r = some (.lst ((readsA (args.take i)).map V.str)) ∧ H' n = some (.lst ((numsA (args.take i)).map V.int)) ∧ But3 a r n H12 H') (fun p q => rfl) (fun E hE => ?_) (fun E i H' q => ?_) (fun E i Tp c y H' hc hy q hT => ?_) (fun E H' q => ?_)
  · refine ⟨hE, upd_same, ?_, ?_, ?_, fun x o _ _ _ e => ?_⟩
    · rw [upd_ne (ne_of_none a12 hE)]; exact a12
    · rw [upd_ne (ne_of_none r12 hE)]; exact r12
    · rw [upd_ne (ne_of_none n12 hE)]; exact n12
    · rw [upd_ne (ne_of_none e hE)]; exact e
  · exact SqL.of (q.2.2.2.2.2 _ _ aqr rqr rqn er12)
  · obtain ⟨hE, aE, qa, rE, nE, fE⟩ := q
    obtain ⟨x, hx, rfl⟩ : ∃ x, args[i]? = some x ∧ y = V.str x.text := by
      rw [List.getElem?_map, List.getElem?_map] at hy
      cases e : args[i]? with
      | none => rw [e] at hy; cases hy
      | some x => rw [e] at hy; exact ⟨x, rfl, (Option.some.inj hy).symm⟩
    have hcx : c = x.letter := by
      have e : (lettersOf args).cps[i]? = some x.letter := by
        show (args.map Arg.letter).toArray[i]? = _
        rw [List.getElem?_toArray, List.getElem?_map, hx]
        rfl
      rw [e] at hc
      exact (Option.some.inj hc).symm
    subst hcx
    have Ea : E ≠ a := ne_of_none' hE a12
    have Er : E ≠ r := ne_of_none' hE r12
    have En : E ≠ n := ne_of_none' hE n12
    have DT := (D12.frame (H' := H') fun x hx => by
      obtain ⟨o, e⟩ := D12.alloc x hx
      rw [e]; exact fE x o (fun w => ia (by rw [← w]; exact hx)) (fun w => ir8 (by rw [← w]; exact hx)) (fun w => in8 (by rw [← w]; exact hx)) e).same (Same.new (o := .tup [.str ⟨#[x.letter]⟩, .str x.text]) hT)
    have sT := Same.new (o := .tup [.str ⟨#[x.letter]⟩, .str x.text]) hT
    have rT := sT _ _ rE
    have nT := sT _ _ nE
    have aT := sT _ _ qa
    have eT := sT _ _ aE
    have fT : But3 a r n H12 (upd H' Tp (.tup [.str ⟨#[x.letter]⟩, .str x.text])) := fun c o c1 c2 c3 e => sT _ _ (fE c o c1 c2 c3 e)
    generalize upd H' Tp (.tup [.str ⟨#[x.letter]⟩, .str x.text]) = HT at *
    walk_at "rd"
    refine r_fldO DT.o (c_Draft T) (na_Draft_width T) lkD_width ?_
    walk_at "rd"
    refine ⟨a, dx, ln, deed, qg, r, n, M'.wd, wayA (args.take i), x, readsA (args.take i), numsA (args.take i), rfl, aT, hrn, ra.symm, na.symm, w4, w32, rT, nT, (aR i).1, (aR i).2, by rw [ewd']; exact hok.ok x (List.mem_of_getElem? hx), fun H4 e0 e1 e2 sb => ?_⟩
    have hi := (List.getElem?_eq_some_iff.mp hx).1
    refine ⟨_, sb _ _ Ea Er En eT, line_lt (by rw [List.length_map, List.length_replicate]; omega), hE, ?_, ?_, ?_, ?_, fun c o c1 c2 c3 e => ?_⟩
    · rw [upd_same, List.replicate_succ', List.map_append]; rfl
    · rw [upd_ne Ea.symm, wayA_take hx]; exact e0
    · rw [upd_ne Er.symm, readsA_take hx]; exact e1
    · rw [upd_ne En.symm, numsA_take hx]; exact e2
    · rw [upd_ne (ne_of_none e hE)]; exact sb c o c1 c2 c3 (fT c o c1 c2 c3 e)
  · obtain ⟨hE, aE, qa, rE, nE, fE⟩ := q
    have hmin : min (lettersOf args).cps.size ((args.map Arg.text).map V.str).length = args.length := by
      rw [show (lettersOf args).cps.size = args.length from lsz, List.length_map, List.length_map, Nat.min_self]
    rw [hmin] at aE qa rE nE
    rw [List.take_length] at qa rE nE
    have DE := D12.frame (H' := H') fun x hx => by
      obtain ⟨o, e⟩ := D12.alloc x hx
      rw [e]; exact fE x o (fun w => ia (by rw [← w]; exact hx)) (fun w => ir8 (by rw [← w]; exact hx)) (fun w => in8 (by rw [← w]; exact hx)) e
    have SF : Same F2 H' := fun x o e => by
      by_cases x0 : x = a
      · subst x0; rw [p0] at e; rw [← e]; exact qa
      · by_cases x1 : x = r
        · subst x1; rw [p4] at e; rw [← e]; exact rE
        · by_cases x2 : x = n
          · subst x2; rw [p5] at e; rw [← e]; exact nE
          · exact fE x o x0 x1 x2 (f12 x o (fun w => by rw [p2 x w] at e; cases e) (p3 x o x0 x1 x2 e))
    walk_at "rd"
    refine ⟨E, List.replicate args.length true, rfl, SqL.of aE, ?_⟩
    rw [show (List.replicate args.length true).all id = true by rw [List.all_eq_true]; intro b hb; rw [(List.mem_replicate.mp hb).2]; rfl]
    exact kq F2 A H' p1 SF DE
theorem met_Draft_take_row (T : Tx K mg) : ∀ C, C = He.ga K "Draft" → MetX P w K mg base 8 C "take_row" (sp_Draft_take_row K) := by
  rintro C rfl
  obtain ⟨fd, F⟩ := fn_Draft_take_row T
  exact ⟨_, fd, _, c_Draft T, m_Draft_take_row T, ok_Draft_take_row T F, F.bindsN fun _ _ _ _ _ _ us hl => match us, hl with | [_, _, _], _ => rfl⟩

end
section
variable {P : Program} {w : World} {K : PySem.W.Frag} {mg : Str → Option Value} {base : Heap}
def Ln.sound (ln : Int) (M : DM) : Ln → Prop
  | .width w => ln = 0 ∧ 4 ≤ w ∧ w ≤ 32
  | .inp nm kd => 0 < ln ∧ M.rows = .nil ∧ M.loops = [] ∧ M.outs = [] ∧ isName nm = true ∧ kd.Good ∧ kd.w = M.wd ∧ M.ins.length ≤ 1000 ∧ M.known.length ≤ 1000
  | .out nm => 0 < ln ∧ M.loops = [] ∧ isName nm = true ∧ M.outs.length ≤ 1000
  | .rep n => 0 < ln ∧ M.outs = [] ∧ 1 ≤ n ∧ n ≤ 32 ∧ M.loops.length ≤ 1000
  | .fin => 0 < ln ∧ M.outs = [] ∧ ∃ a b y l, M.loops = (a, b, y) :: l ∧ y ≠ .nil ∧ ({ M with loops := l } : DM).top.len ≤ 1000
  | .row gs deed args => 0 < ln ∧ M.outs = [] ∧ RowOk M.wd gs deed args ∧ 4 ≤ M.wd ∧ M.wd ≤ 32 ∧ M.known.length ≤ 1000 ∧ M.top.len ≤ 1000
  | .set _ _ _ _ => 0 < ln ∧ False
def sp_Draft_take (K : PySem.W.Frag) : Sp := fun vs H Q _ => ∃ d ln aw, ∃ l : Ln, ∃ F M A, vs = [.ref d, .int ln, .ref aw] ∧ F aw = some (.lst (l.words.map V.str)) ∧ Same F H ∧ DAt K F H d M A ∧ l.sound ln M ∧ PostD K F d (l.step ln M) Q
theorem low_one {w : Str} (h : (w.cps.toList.all fun c => decide (c < 128)) = true) : lowS w := fun c hc => of_decide_eq_true (List.all_eq_true.mp h c hc)
theorem row_low {wd : Int} (h4 : 4 ≤ wd) {gs : List Str} {deed : Str} {args : List Arg} (h : RowOk wd gs deed args) : ∀ x ∈ (Ln.row gs deed args).words, lowS x := by
  intro x hx
  show lowS x
  rcases List.mem_append.mp (show x ∈ gs ++ (("=" : Str) :: deed :: args.map Arg.text) from hx) with hx | hx
  · exact low_name (h.nm x hx)
  rcases List.mem_cons.mp hx with rfl | hx
  · exact low_one (by decide +kernel)
  rcases List.mem_cons.mp hx with rfl | hx
  · exact fun c hc => by have := (deed_fine h.dd).2.2.2.2 c hc; omega
  · obtain ⟨a, ha, rfl⟩ := List.mem_map.mp hx
    exact low_arg h4 (h.ok a ha)
theorem row_first {wd : Int} {gs : List Str} {deed : Str} {args : List Arg} (h : RowOk wd gs deed args) : ∃ g u t, (Ln.row gs deed args).words = g :: u :: t ∧ isName g = true := by
  rcases h.gl with ⟨g, rfl, -⟩ | ⟨g, k, rfl, -, -⟩
  · exact ⟨g, _, _, rfl, h.nm g (by simp)⟩
  · exact ⟨g, _, _, rfl, h.nm g (by simp)⟩
abbrev N_Draft_take : List Str := ["self", "line", "words"]
theorem sc_Draft_take : FnScope ["self", "line", "words"] ["self", "line", "words"] (defScope s_Draft_take) := ⟨rfl, rfl, rfl, by decide +kernel, rfl, by decide +kernel, by decide +kernel⟩
theorem ok_Draft_take {f : Addr} {fd : FuncData} (T : Tx K mg)  (F : FunP K "take" "Draft.take" s_Draft_take f fd) : FnOk P w K mg base (L2.CX P w) 9 f fd ["self", "line", "words"] (sp_Draft_take K) := by
  refine F.ok sc_Draft_take (fun vs H Q E h => ?_) (fun cdv A outer s H vs Q E hr h => ?_)
  · repeat first | (obtain ⟨e, _⟩ := h; subst e; rfl; done) | (obtain ⟨_, h⟩ := h)
  refine ⟨_, (pss_cons (ps_if (pt_cmpR op_eq (pv 1) pe_int (nomark _)) (pss_one (ps_ret (pe_mX (met_Draft_take_width T) hr (by decide) pU (pv 0) (pa_cons (pv 2) pa_nil)))) pss_nil)
  (pss_cons (ps_if (pt_cmpR op_eq (pe_ix ix_list (pv 2) pe_int (fun _ _ => rfl)) pe_str (nomark _)) (pss_one (ps_ret (pe_mX (met_Draft_take_in T) hr (by decide) pU (pv 0) (pa_cons (pv 1) (pa_cons (pv 2) pa_nil))))) pss_nil)
  (pss_cons (ps_if (pt_cmpR op_eq (pe_ix ix_list (pv 2) pe_int (fun _ _ => rfl)) pe_str (nomark _)) (pss_one (ps_ret (pe_mX (met_Draft_take_out T) hr (by decide) pU (pv 0) (pa_cons (pv 1) (pa_cons (pv 2) pa_nil))))) pss_nil)
  (pss_cons (ps_if (pt_cmpR (op_neE (hu64 hr)) (pe_fld (pv 0) rfl) (pe_lst pa_nil) (nomark _)) (pss_one (ps_ret pe_bl)) pss_nil)
  (pss_cons (ps_if (pt_cmpR op_eq (pe_ix ix_list (pv 2) pe_int (fun _ _ => rfl)) pe_str (nomark _)) (pss_one (ps_ret (pe_mX (met_Draft_take_repeat T) hr (by decide) pU (pv 0) (pa_cons (pv 1) (pa_cons (pv 2) pa_nil))))) pss_nil)
  (pss_cons (ps_if (pt_cmpR (op_eqD (hu64 hr)) (pv 2) (pe_lst (pa_cons pe_str pa_nil)) (nomark _)) (pss_one (ps_ret (pe_mX0 (met_Draft_take_end T) hr (by decide) pU (pv 0)))) pss_nil)
  (pss_one (ps_ret (pe_mX (met_Draft_take_row T) hr (by decide) pU (pv 0) (pa_cons (pv 1) (pa_cons (pv 2) pa_nil))))))))))), ?_⟩
  try dsimp only [cxK]
  obtain ⟨d, ln, aw, l, F, M, A, rfl, hw, S, D, hl, kq⟩ := h
  walk_at "rd"
  refine r_iteD (fun e0 => ?_) (fun e0 => ?_)
  · cases l with
    | width w =>
      walk_at "rdo"
      refine r_methO D.o rfl (lkD_none (by decide +kernel)) ?_
      walk_at "rdo"
      exact ⟨d, aw, w, F, M, A, rfl, hw, S, D, num_in (by have := hl.2.1; omega) hl.2.1 hl.2.2 (by have := hl.2.2; omega), by have := num_small (i := w) (by have := hl.2.1; omega) (by have := hl.2.2; omega); omega, kq⟩
    | _ => exact absurd hl.1 (by omega)
  have outs0 : M.outs = [] → ∀ (R : V → Hp → Prop), (∀ H', Same H H' → R (.bl false) H') → tOp (rNeE K) (tFld K (tVar 0) "outs") (tLst tNil) (L2.start ["self", "line", "words"] [V.ref d, V.int ln, V.ref aw]) H R := by
    intro ho R hR
    walk_at "rd"
    refine r_fldO D.o (c_Draft T) (na_Draft_outs T) lkD_outs ?_
    walk_at "rd"
    refine r_newL fun q hq => ?_
    have s1 : Same H (upd H q (.lst [])) := Same.new hq
    obtain ⟨vo, o1, o2⟩ := (D.same s1).u
    rw [ho] at o2; cases o2
    exact r_neE0 (SqL.of o1) (SqL.of upd_same) (hR _ s1)
  cases l with
  | width w => exact absurd hl.1 e0
  | inp nm kd =>
    obtain ⟨-, h1, h2, h3, h4, h5, h6, h7, h8⟩ := hl
    walk_at "rd"
    refine r_ixL (SqL.of (S _ _ hw)) at0 ?_
    walk_at "rdo"
    refine r_methO D.o rfl (lkD_none (by decide +kernel)) ?_
    walk_at "rdo"
    exact ⟨d, ln, aw, nm, kd, F, M, A, rfl, hw, S, D, h1, h2, h3, h4, h5, h6, h7, h8, kq⟩
  | out nm =>
    obtain ⟨-, h1, h2, h4⟩ := hl
    have h3 := (name_signs h2).1
    walk_at "rd"
    refine r_ixL (SqL.of (S _ _ hw)) at0 ?_
    walk_at "rdo"
    refine r_ixL (SqL.of (S _ _ hw)) at0 ?_
    walk_at "rdo"
    refine r_methO D.o rfl (lkD_none (by decide +kernel)) ?_
    walk_at "rdo"
    exact ⟨d, ln, aw, nm, F, M, A, rfl, hw, S, D, h1, h2, by omega, h4, kq⟩
  | rep n =>
    obtain ⟨-, ho, h2, h3, h4⟩ := hl
    have hn := num_small (i := n) (by omega) (by omega)
    walk_at "rd"
    refine r_ixL (SqL.of (S _ _ hw)) at0 ?_
    walk_at "rdo"
    refine r_ixL (SqL.of (S _ _ hw)) at0 ?_
    walk_at "rd"
    refine r_DF (by decide +kernel) ?_
    with_reducible refine r_next ?_
    with_reducible refine r_seq ?_
    with_reducible refine r_if ?_
    with_reducible refine r_test ?_
    refine outs0 ho _ fun H1 s1 => ?_
    have S1 := S.trans s1
    have D1 := D.same s1
    walk_at "rd"
    refine r_ixL (SqL.of (S1 _ _ hw)) at0 ?_
    walk_at "rdo"
    refine r_methO D1.o rfl (lkD_none (by decide +kernel)) ?_
    walk_at "rdo"
    exact ⟨d, ln, aw, n, F, M, A, rfl, hw, S1, D1, num_in (by omega) h2 h3 (by omega), by omega, h4, kq⟩
  | fin =>
    obtain ⟨-, ho, a, b, y, l', hl', hy, ht⟩ := hl
    walk_at "rd"
    refine r_ixL (SqL.of (S _ _ hw)) at0 ?_
    walk_at "rdo"
    refine r_ixL (SqL.of (S _ _ hw)) at0 ?_
    walk_at "rd"
    refine r_DF (by decide +kernel) ?_
    with_reducible refine r_next ?_
    with_reducible refine r_seq ?_
    with_reducible refine r_if ?_
    with_reducible refine r_test ?_
    refine outs0 ho _ fun H1 s1 => ?_
    have S1 := S.trans s1
    have D1 := D.same s1
    walk_at "rd"
    refine r_ixL (SqL.of (S1 _ _ hw)) at0 ?_
    walk_at "rdo"
    refine r_newL fun q2 hq2 => ?_
    have s2 : Same H1 (upd H1 q2 (.lst [.str "end"])) := Same.new hq2
    have S2 : Same F (upd H1 q2 (.lst [.str "end"])) := fun a u e => s2 a u (S1 a u e)
    have D2 := D1.same s2
    refine r_eqStrs ["end"] ["end"] true (SqL.of (S2 _ _ hw)) (SqL.of upd_same) (by decide +kernel) (by decide +kernel) ?_
    generalize upd H1 q2 (.lst [.str "end"]) = H2 at *
    walk_at "rdo"
    refine r_methO D2.o rfl (lkD_none (by decide +kernel)) ?_
    walk_at "rdo"
    refine ⟨d, F, M, A, a, b, y, l', rfl, S2, D2, hl', hy, ht, ?_⟩
    have kq2 := kq
    simp only [Ln.step, hl'] at kq2
    exact kq2
  | row gs deed args =>
    obtain ⟨-, ho, hr, h4, h32, hk, ht⟩ := hl
    obtain ⟨g, u, t, ew, hg⟩ := row_first hr
    have hw' := hw
    rw [ew] at hw'
    have n1 : g ≠ "in" := fun z => by rw [z, show isName "in" = false by decide +kernel] at hg; cases hg
    have n2 : g ≠ "out" := fun z => by rw [z, show isName "out" = false by decide +kernel] at hg; cases hg
    have n3 : g ≠ "repeat" := fun z => by rw [z, show isName "repeat" = false by decide +kernel] at hg; cases hg
    walk_at "rd"
    refine r_ixL (SqL.of (S _ _ hw')) at0 ?_
    walk_at "rd"
    refine r_DF n1 ?_
    walk_at "rd"
    refine r_ixL (SqL.of (S _ _ hw')) at0 ?_
    walk_at "rd"
    refine r_DF n2 ?_
    with_reducible refine r_next ?_
    with_reducible refine r_seq ?_
    with_reducible refine r_if ?_
    with_reducible refine r_test ?_
    refine outs0 ho _ fun H1 s1 => ?_
    have S1 := S.trans s1
    have D1 := D.same s1
    walk_at "rd"
    refine r_ixL (SqL.of (S1 _ _ hw')) at0 ?_
    walk_at "rd"
    refine r_DF n3 ?_
    walk_at "rd"
    refine r_newL fun q2 hq2 => ?_
    have s2 : Same H1 (upd H1 q2 (.lst [.str "end"])) := Same.new hq2
    have S2 : Same F (upd H1 q2 (.lst [.str "end"])) := fun a u e => s2 a u (S1 a u e)
    have D2 := D1.same s2
    have ne2 : PyData.eqv (.list ((Ln.row gs deed args).words.map .str)) (.list (((["end"] : List Str)).map .str)) = false := by rw [ew]; simp [PyData.eqv, PyData.eqvAll]
    refine r_eqStrs (Ln.row gs deed args).words ["end"] false (SqL.of (S2 _ _ hw)) (SqL.of upd_same) (by rw [shaped_low (row_low h4 hr)]; decide +kernel) ne2 ?_
    generalize upd H1 q2 (.lst [.str "end"]) = H2 at *
    walk_at "rd"
    refine r_methO D2.o rfl (lkD_none (by decide +kernel)) ?_
    walk_at "rd"
    exact ⟨d, ln, aw, gs, deed, args, F, M, A, rfl, hw, S2, D2, hr, h4, h32, hk, ht, kq⟩
  | set g kd txt bits => exact hl.2.elim
theorem met_Draft_take (T : Tx K mg) : ∀ C, C = He.ga K "Draft" → MetX P w K mg base 9 C "take" (sp_Draft_take K) := by
  rintro C rfl
  obtain ⟨fd, F⟩ := fn_Draft_take T
  exact ⟨_, fd, _, c_Draft T, m_Draft_take T, ok_Draft_take T F, F.bindsN fun _ _ _ _ _ _ us hl => match us, hl with | [_, _, _], _ => rfl⟩

end
section
variable {P : Program} {w : World} {K : PySem.W.Frag} {mg : Str → Option Value} {base : Heap}
def SoundAll : Int → DM → List Ln → Prop
  | _, M, [] => M.loops = [] ∧ M.outs ≠ []
  | ln, M, l :: r => l.sound ln M ∧ (l.step ln M).great ln = false ∧ SoundAll (ln + 1) (l.step ln M) r
def sp_read_lines (K : PySem.W.Frag) : Sp := fun vs H Q _ => ∃ text ls, vs = [.str text] ∧ TextOk text ls ∧ SoundAll 0 DM0 ls ∧ ∀ d F A H', Same H F → Same F H' → DAt K F H' d (readM 0 DM0 ls) A → Q (.ref d) H'
abbrev N_read_lines : List Str := ["text", "draft", "lines", "line", "row", "words"]
theorem sc_read_lines : FnScope ["text", "draft", "lines", "line", "row", "words"] ["text"] (defScope s_read_lines) := ⟨rfl, rfl, rfl, by decide +kernel, rfl, by decide +kernel, by decide +kernel⟩
theorem ok_read_lines {f : Addr} {fd : FuncData} (T : Tx K mg)  (F : FunP K "read_lines" "read_lines" s_read_lines f fd) : FnOk P w K mg base (L2.CX P w) 10 f fd ["text"] (sp_read_lines K) := by
  refine F.ok sc_read_lines (fun vs H Q E h => ?_) (fun cdv A outer s H vs Q E hr h => ?_)
  · repeat first | (obtain ⟨e, _⟩ := h; subst e; rfl; done) | (obtain ⟨_, h⟩ := h)
  refine ⟨_, (pss_cons (ps_if (pt_not (pt_val (pe_callB call_isi (by rfl) (fr_isinstance T) (by decide +kernel) (pa_cons (pv 0) (pa_cons (pe_ty (n := "str") rfl (fr_str T) (by decide +kernel)) pa_nil))))) pss_dead pss_nil)
  (pss_cons (ps_set (i := 1) sc_read_lines.nd rfl (Or.inl rfl) (pe_kX0 (mak_Draft T) hr (by decide) rfl pU))
  (pss_cons (ps_set (i := 2) sc_read_lines.nd rfl (Or.inl rfl) (pe_split (pv 0) pe_str))
  (pss_cons (ps_for oU rfl (pi_enum rfl (fr_enumerate T) (pa_cons (pv 2) pa_nil)) (pg_tup rfl (pgs_cons (pg_name (i := 3) sc_read_lines.nd rfl (Or.inl rfl)) (pgs_cons (pg_name (i := 4) sc_read_lines.nd rfl (Or.inl rfl)) pgs_nil)))
  (pss_cons (ps_set (i := 5) sc_read_lines.nd rfl (Or.inl rfl) (pe_split (pv 4) pe_str))
  (pss_cons (ps_if (PW.pt (pw_or (pt_cmpR op_in_seq pe_str (pv 5) (by with_unfolding_all rfl)) (pw_or1 (pt_not (pt_val (pe_mX (met_Draft_take T) hr (by decide) pU (pv 1) (pa_cons (pv 3) (pa_cons (pv 5) pa_nil)))))))) pss_dead pss_nil)
  (pss_one (ps_if (pt_val (pe_mX (met_Draft_is_great T) hr (by decide) pU (pv 1) (pa_cons (pv 3) pa_nil))) pss_dead pss_nil)))))
  (pss_cons (ps_if (PW.pt (pw_or (pt_cmpR (op_neE (hu64 hr)) (pe_fld (pv 1) rfl) (pe_lst pa_nil) (nomark _)) (pw_or1 (pt_cmpR (op_eqE (hu64 hr)) (pe_fld (pv 1) rfl) (pe_lst pa_nil) (nomark _))))) pss_dead pss_nil)
  (pss_one (ps_ret (pv 1)))))))), ?_⟩
  try dsimp only [cxK]
  obtain ⟨text, ls, rfl, TO, SA, kq⟩ := h
  obtain ⟨ts, et, elen, ew⟩ := TO.ts
  walk_at "rdo"
  refine r_isiStr ?_
  walk_at "rdo"
  intro d dx hd hdx hne
  refine ⟨d, dx, rfl, upd_same, fun A H1 D1 fr1 f1 => ⟨rfl, ?_⟩⟩
  have frH : ∀ x ∈ A.fp d, H x = none := fun x hx => by
    rcases fr1 x hx with rfl | h
    · exact hd
    · by_cases e1 : x = d
      · rw [e1]; exact hd
      · rw [upd_ne e1] at h
        by_cases e2 : x = dx
        · rw [e2]; exact hdx
        · rwa [upd_ne e2] at h
  have D1 := D1 H frH
  have S1 : Same H H1 := fun x o e => by
    have hx : x ∉ A.fp d := fun z => by rw [frH x z] at e; cases e
    rw [f1 x hx, upd_ne (ne_of_none e hd), upd_ne (ne_of_none e hdx)]; exact e
  walk_at "rdo"
  refine r_m1 ?_
  walk_at "rdo"
  refine ⟨⟨_, rfl⟩, ?_⟩
  walk_at "rdo"
  refine ⟨rfl, line_le (by have := TO.len; omega), fun p hp => ?_⟩
  rw [et]
  have s2 : Same H1 (upd H1 p (.lst (ts.map V.str))) := Same.new hp
  have D2 := D1.same s2
  have ip := D1.fresh hp
  obtain ⟨F, z1, z2, D3, z3⟩ := D2.freeze (fun x o e => s2 _ _ (S1 x o e))
  have pF := z3 p _ ip upd_same
  generalize upd H1 p (.lst (ts.map V.str)) = H2 at *
  walk_at "rd"
  have sF : Same H F := z1
  refine r_forE rfl (SqL.of (z2 _ _ pF)) (fun i σ' H' => (∃ a1 a2 a3, σ' = (((((L2.start ["text", "draft", "lines", "line", "row", "words"] [V.str text]).set 1 (some (V.ref d))).set 2 (some (V.ref p))).set 3 a1).set 4 a2).set 5 a3) ∧
    ∃ Mi Fi Ai, readM 0 DM0 ls = readM (i : Int) Mi (ls.drop i) ∧ SoundAll (i : Int) Mi (ls.drop i) ∧ Same F Fi ∧ Same Fi H' ∧ DAt K Fi H' d Mi Ai)
    ⟨⟨none, none, none, rfl⟩, DM0, F, A, rfl, SA, Same.refl _, z2, D3⟩ (fun i σ' H' q => ?_) (fun i x Tp σ' H' hx q hT => ?_) (fun σ' H' q => ?_)
  · obtain ⟨-, Mi, Fi, Ai, -, -, q3, q4, -⟩ := q
    exact SqL.of (q4 _ _ (q3 _ _ pF))
  · obtain ⟨⟨a1, a2, a3, rfl⟩, Mi, Fi, Ai, q1, q2, q3, q4, q5⟩ := q
    obtain ⟨t, ht, rfl⟩ : ∃ t, ts[i]? = some t ∧ x = V.str t := by
      rw [List.getElem?_map] at hx
      cases e : ts[i]? with
      | none => rw [e] at hx; cases hx
      | some y => rw [e] at hx; exact ⟨y, rfl, (Option.some.inj hx).symm⟩
    have hi : i < ls.length := by rw [← elen]; exact (List.getElem?_eq_some_iff.mp ht).1
    obtain ⟨l, hl⟩ : ∃ l, ls[i]? = some l := ⟨ls[i], by simp [hi]⟩
    have ed : ls.drop i = l :: ls.drop (i + 1) := by
      rw [List.drop_eq_getElem_cons hi]
      congr 1
      rw [List.getElem?_eq_getElem hi] at hl
      exact Option.some.inj hl
    obtain ⟨w1, w2, w3, w4⟩ := ew i t l ht hl
    rw [ed] at q1 q2
    have sT := Same.new (o := .tup [.int (i : Int), .str t]) hT
    have D4 := q5.same sT
    have S4 : Same Fi (upd H' Tp (.tup [.int (i : Int), .str t])) := fun x o e => sT _ _ (q4 _ _ e)
    generalize upd H' Tp (.tup [.int (i : Int), .str t]) = H4 at *
    walk_at "rd"
    refine r_m1 ?_
    walk_at "rd"
    refine ⟨⟨_, rfl⟩, ?_⟩
    walk_at "rd"
    refine ⟨t, " ", rfl, rfl, rfl, line_le (by omega), fun q hq => ?_⟩
    rw [w1]
    have s5 := Same.new (o := .lst (l.words.map V.str)) hq
    have D5 := D4.same s5
    have iq := D4.fresh hq
    obtain ⟨F5, y1, y2, D6, y3⟩ := D5.freeze (fun x o e => s5 _ _ (S4 x o e))
    have qF := y3 q _ iq upd_same
    generalize upd H4 q (.lst (l.words.map V.str)) = H5 at *
    have SH5 : Same H H5 := fun x o e => y2 _ _ (y1 _ _ (q3 _ _ (sF _ _ e)))
    walk_at "rd"
    refine r_inLs (SqL.of (y2 _ _ qF)) ?_
    walk_at "rd"
    refine r_DF w3 ?_
    walk_at "rd"
    refine r_methO D6.o rfl (lkD_none (by decide +kernel)) ?_
    walk_at "rd"
    refine ⟨d, (i : Int), q, l, F5, Mi, Ai, rfl, qF, y2, D6, q2.1, ?_⟩
    intro F6 A6 H6 z6 S6 D7
    walk_at "rd"
    refine r_methO D7.o rfl (lkD_none (by decide +kernel)) ?_
    walk_at "rd"
    refine ⟨d, (i : Int), F6, l.step (i : Int) Mi, A6, rfl, D7, ?_⟩
    rw [q2.2.1]
    have e2 : SoundAll ((i + 1 : Nat) : Int) (l.step (i : Int) Mi) (ls.drop (i + 1)) := q2.2.2
    walk_at "rd"
    exact ⟨⟨some (.int (i : Int)), some (.str t), some (.ref q), rfl⟩, l.step (i : Int) Mi, F6, A6, q1, e2, fun x o e => z6 _ _ (y1 _ _ (q3 _ _ e)), S6, D7⟩
  · obtain ⟨⟨a1, a2, a3, rfl⟩, Mi, Fi, Ai, q1, q2, q3, q4, q5⟩ := q
    have el : ls.drop (ts.map V.str).length = [] := by rw [List.length_map, elen]; exact List.drop_length
    rw [el] at q1 q2
    obtain ⟨hl, ho⟩ := q2
    rw [q1] at kq
    walk_at "rd"
    refine r_fldO q5.o (c_Draft T) (na_Draft_loops T) lkD_loops ?_
    walk_at "rd"
    refine r_newL fun q2 hq2 => ?_
    have s2 := Same.new (o := .lst []) hq2
    have D2 := q5.same s2
    obtain ⟨vl, l1, l2⟩ := D2.l
    have ll := l2.len
    rw [hl] at ll
    have el2 : vl = [] := List.eq_nil_of_length_eq_zero ll
    subst el2
    refine r_neE0 (SqL.of l1) (SqL.of upd_same) ?_
    walk_at "rd"
    refine r_fldO D2.o (c_Draft T) (na_Draft_outs T) lkD_outs ?_
    walk_at "rd"
    refine r_newL fun q3' hq3 => ?_
    have s3 := Same.new (o := .lst []) hq3
    have D3' := D2.same s3
    obtain ⟨vo, o1, o2⟩ := D3'.u
    have ol := o2.len
    refine r_eqE1 (SqL.of o1) (SqL.of upd_same) (by rw [ol]; exact fun z => ho (List.eq_nil_of_length_eq_zero z)) ?_
    walk_at "rd"
    exact kq d Fi Ai _ (fun x o e => q3 _ _ (sF _ _ e)) (fun x o e => s3 _ _ (s2 _ _ (q4 _ _ e))) D3'
theorem cal_read_lines (T : Tx K mg) : CalX P w K mg base 10 "read_lines" (sp_read_lines K) [] := by
  obtain ⟨fd, F⟩ := fn_read_lines T
  exact ⟨_, fd, _, [], ok_read_lines T F, g_read_lines T, F.kp, F.bindsN fun _ _ _ _ _ _ us hl => match us, hl with | [_], _ => rfl, .nil⟩

end
section
variable {P : Program} {w : World} {K : PySem.W.Frag} {mg : Str → Option Value} {base : Heap}
theorem c_is (T : Tx K mg) : ∀ {H : Hp} {a dx : Addr} {fs : List (Str × V)} {Q : VK}, (H a = some (.ins (He.ga K "Row") dx fs) → Q (.bl false) H → rIsi K [.ref a, .ref (He.ga K "Repeat")] H Q) ∧ (H a = some (.ins (He.ga K "Repeat") dx fs) → Q (.bl true) H → rIsi K [.ref a, .ref (He.ga K "Repeat")] H Q) :=
  fun {H a dx fs Q} => ⟨fun e q => ⟨_, _, _, _, _, rfl, .own _, .base (.ins e (c_Row T) (is_Row T).ha (is_Row T).hn (is_Row T).htk (is_Row T).hm), ki_Row_Repeat T, q⟩,
    fun e q => ⟨_, _, _, _, _, rfl, .own _, .base (.ins e (c_Repeat T) (is_Repeat T).ha (is_Repeat T).hn (is_Repeat T).htk (is_Repeat T).hm), ki_Repeat_Repeat T, q⟩⟩
def sp_count_rows (K : PySem.W.Frag) (d : Nat) : Sp := fun vs H Q _ => ∃ p ws r, vs = [.ref p] ∧ H p = some (.lst ws) ∧ RowsAt K H r ws ∧ r.depth < d ∧ r.small ∧ r.count ≤ 100000000 ∧ Q (.int r.count) H
abbrev N_count_rows : List Str := ["rows", "many", "row"]
theorem sc_count_rows : FnScope ["rows", "many", "row"] ["rows"] (defScope s_count_rows) := ⟨rfl, rfl, rfl, by decide +kernel, rfl, by decide +kernel, by decide +kernel⟩
theorem ok_count_rows {f : Addr} {fd : FuncData} (T : Tx K mg) {d : Nat} (ih : CalX P w K mg base (d + 1) "count_rows" (sp_count_rows K d) []) (F : FunP K "count_rows" "count_rows" s_count_rows f fd) : FnOk P w K mg base (L2.CX P w) (d + 2) f fd ["rows"] (sp_count_rows K (d + 1)) := by
  refine F.ok sc_count_rows (fun vs H Q E h => ?_) (fun cdv A outer s H vs Q E hr h => ?_)
  · repeat first | (obtain ⟨e, _⟩ := h; subst e; rfl; done) | (obtain ⟨_, h⟩ := h)
  refine ⟨_, (pss_cons (ps_set (i := 1) sc_count_rows.nd rfl (Or.inl rfl) pe_int)
  (pss_cons (ps_for oU rfl (pi_list (pv 0)) (pg_name (i := 2) sc_count_rows.nd rfl (Or.inl rfl))
  (pss_one (ps_if (pt_val (pe_callB call_isi (by rfl) (fr_isinstance T) (by decide +kernel) (pa_cons (pv 2) (pa_cons (pe_gref rfl (g_Repeat T)) pa_nil)))) (pss_one (ps_aug (i := 1) sc_count_rows.nd rfl (Or.inl rfl) (pe_op op_mul (pe_fld (pv 2) rfl) (pe_cX ih hr (Nat.le_refl _) rfl pU (pa_cons (pe_fld (pv 2) rfl) pa_nil))) ip_add)) (pss_one (ps_aug (i := 1) sc_count_rows.nd rfl (Or.inl rfl) pe_int ip_add)))))
  (pss_one (ps_ret (pv 1))))), ?_⟩
  try dsimp only [cxK]
  obtain ⟨p, ws, r, rfl, hp, hr', hd, hs, hc, kq⟩ := h
  walk_at "rd"
  refine r_forLv rfl (SqL.of hp) ⟨fun i σ' H' => H' = H ∧ ∃ z, σ' = ((L2.start ["rows", "many", "row"] [V.ref p]).set 1 (some (.int (r.count - (r.dropN i).count)))).set 2 z, ⟨rfl, none, ?_⟩, fun i σ' H' q => by rw [q.1]; exact SqL.of hp, fun i x σ' H' hx q => ?_, fun σ' H' q => ?_⟩
  · rw [show r.count - (r.dropN 0).count = 0 by show r.count - r.count = 0; omega]; rfl
  · obtain ⟨rfl, z, rfl⟩ := q
    have sm := Rows.dropN_small hs i
    have sm2 := Rows.dropN_small hs (i + 1)
    have c0 := Rows.count0 sm.1
    have c1 := Rows.count0 sm2.1
    rcases hr'.item hx with ⟨ln, rq, a, dx, g, rr, n, rfl, er, ea, -⟩ | ⟨ln, tm, body, a, dx, b, bs, rfl, er, ea, eb, hb⟩
    · have ec : (r.dropN i).count = 1 + (r.dropN (i + 1)).count := by rw [er]; rfl
      walk_at "rd"
      refine (c_is T).1 ea ?_
      walk_at "rd"
      refine ⟨rfl, some (.ref a), ?_⟩
      rw [show r.count - (r.dropN (i + 1)).count = r.count - (r.dropN i).count + 1 by omega]
      rfl
    · have ec : (r.dropN i).count = tm * body.count + (r.dropN (i + 1)).count := by rw [er]; rfl
      have sm' := sm.1
      rw [er] at sm'
      have hdep : body.depth < d := by have := sm.2; rw [er] at this; have h1 : body.depth + 1 ≤ r.depth := Nat.le_trans (Nat.le_max_left _ _) this; omega
      walk_at "rd"
      refine (c_is T).2 ea ?_
      walk_at "rd"
      refine r_fldO ea (c_Repeat T) (na_Repeat_times T) lkP_times ?_
      walk_at "rd"
      refine r_fldO ea (c_Repeat T) (na_Repeat_rows T) lkP_rows ?_
      walk_at "rd"
      refine ⟨b, bs, body, rfl, eb, hb, hdep, sm'.2.2.2.1, sm'.2.2.1, ?_⟩
      have b0 := Rows.count0 sm'.2.2.2.1
      have b1 := sm'.2.2.1
      have t0 := sm'.1
      have t1 := sm'.2.1
      show rI CMul (fun i j => V.int (i * j)) (V.int tm) (V.int body.count) H' _
      refine r_I (.inl ⟨by omega, by omega⟩) ?_
      walk_at "rd"
      refine ⟨rfl, some (.ref a), ?_⟩
      rw [show r.count - (r.dropN (i + 1)).count = r.count - (r.dropN i).count + tm * body.count by omega]
      rfl
  · obtain ⟨rfl, z, rfl⟩ := q
    rw [hr'.done, show r.count - Rows.nil.count = r.count by show r.count - 0 = r.count; omega]
    walk_at "rd"
    exact kq
theorem cal_count_rows' (T : Tx K mg) : ∀ d, CalX P w K mg base (d + 1) "count_rows" (sp_count_rows K d) []
  | 0 => by
    obtain ⟨fd, F⟩ := fn_count_rows T
    refine ⟨_, fd, ["rows"], [], F.ok sc_count_rows (fun vs H Q E h => ?_) (fun cdv A outer s H vs Q E hr h => ?_), g_count_rows T, F.kp, F.bindsN fun _ _ _ _ _ _ us hl => match us, hl with | [_], _ => rfl, .nil⟩
    · obtain ⟨p, ws, r, rfl, h1, h2, h3, h4⟩ := h; exact absurd h3 (Nat.not_lt_zero _)
    · obtain ⟨p, ws, r, rfl, h1, h2, h3, h4⟩ := h; exact absurd h3 (Nat.not_lt_zero _)
  | d + 1 => by
    obtain ⟨fd, F⟩ := fn_count_rows T
    exact ⟨_, fd, _, [], ok_count_rows T (cal_count_rows' T d) F, g_count_rows T, F.kp, F.bindsN fun _ _ _ _ _ _ us hl => match us, hl with | [_], _ => rfl, .nil⟩
theorem cal_count_rows (T : Tx K mg) : CalX P w K mg base 10 "count_rows" (sp_count_rows K 9) [] := cal_count_rows' T 9
end
section
variable {P : Program} {w : World} {K : PySem.W.Frag} {mg : Str → Option Value} {base : Heap}
def sp_Program_rows_run (K : PySem.W.Frag) : Sp := fun vs H Q _ => ∃ a dx wd i rr o k ws r, vs = [.ref a] ∧ H a = some (.ins (He.ga K "Program") dx (progFs wd i rr o k)) ∧ H rr = some (.lst ws) ∧ RowsAt K H r ws ∧ r.depth < 9 ∧ r.small ∧ r.count ≤ 100000000 ∧ Q (.int r.count) H
theorem lkQ_width {wd : Int} {i r o k : Addr} : List.lookup ("width" : Str) (progFs wd i r o k) = some (V.int wd) := rfl
theorem lkQ_inputs {wd : Int} {i r o k : Addr} : List.lookup ("inputs" : Str) (progFs wd i r o k) = some (V.ref i) := rfl
theorem lkQ_rows {wd : Int} {i r o k : Addr} : List.lookup ("rows" : Str) (progFs wd i r o k) = some (V.ref r) := rfl
theorem lkQ_outs {wd : Int} {i r o k : Addr} : List.lookup ("outs" : Str) (progFs wd i r o k) = some (V.ref o) := rfl
theorem lkQ_kinds {wd : Int} {i r o k : Addr} : List.lookup ("kinds" : Str) (progFs wd i r o k) = some (V.ref k) := rfl
theorem lkQ_none {wd : Int} {i r o k : Addr} {m : Str} (h : m ∉ (["width", "inputs", "rows", "outs", "kinds"] : List Str)) : List.lookup m (progFs wd i r o k) = none := by
  unfold progFs
  simp only [List.mem_cons, List.not_mem_nil, or_false, not_or] at h
  obtain ⟨h1, h2, h3, h4, h5⟩ := h
  simp only [List.lookup, beq_eq_false_iff_ne.mpr h1, beq_eq_false_iff_ne.mpr h2, beq_eq_false_iff_ne.mpr h3, beq_eq_false_iff_ne.mpr h4, beq_eq_false_iff_ne.mpr h5]
abbrev N_Program_rows_run : List Str := ["self"]
theorem sc_Program_rows_run : FnScope ["self"] ["self"] (defScope s_Program_rows_run) := ⟨rfl, rfl, rfl, by decide +kernel, rfl, by decide +kernel, by decide +kernel⟩
theorem ok_Program_rows_run {f : Addr} {fd : FuncData} (T : Tx K mg)  (F : FunP K "rows_run" "Program.rows_run" s_Program_rows_run f fd) : FnOk P w K mg base (L2.CX P w) 11 f fd ["self"] (sp_Program_rows_run K) := by
  refine F.ok sc_Program_rows_run (fun vs H Q E h => ?_) (fun cdv A outer s H vs Q E hr h => ?_)
  · repeat first | (obtain ⟨e, _⟩ := h; subst e; rfl; done) | (obtain ⟨_, h⟩ := h)
  refine ⟨_, (pss_one (ps_ret (pe_cX (cal_count_rows T) hr (by decide) rfl pU (pa_cons (pe_fld (pv 0) rfl) pa_nil)))), ?_⟩
  try dsimp only [cxK]
  obtain ⟨a, dx, wd, i, rr, o, k, ws, r, rfl, ha, hr', hw, hd, hs, hc, kq⟩ := h
  walk_at "rd"
  refine r_fldO ha (c_Program T) (na_Program_rows T) lkQ_rows ?_
  walk_at "rd"
  exact ⟨rr, ws, r, rfl, hr', hw, hd, hs, hc, kq⟩
theorem met_Program_rows_run (T : Tx K mg) : ∀ C, C = He.ga K "Program" → MetX P w K mg base 11 C "rows_run" (sp_Program_rows_run K) := by
  rintro C rfl
  obtain ⟨fd, F⟩ := fn_Program_rows_run T
  exact ⟨_, fd, _, c_Program T, m_Program_rows_run T, ok_Program_rows_run T F, F.bindsN fun _ _ _ _ _ _ us hl => match us, hl with | [_], _ => rfl⟩

end
section
variable {P : Program} {w : World} {K : PySem.W.Frag} {mg : Str → Option Value} {base : Heap}
/-- kinds in a list -/
def KdsAt (K : PySem.W.Frag) (H : Hp) : List V → List KindM → Prop
  | [], ks => ks = []
  | v :: vs, ks => ∃ a k ks', v = .ref a ∧ ks = k :: ks' ∧ KindAt K H a k ∧ KdsAt K H vs ks'
theorem KdsAt.on {K : PySem.W.Frag} {H H' : Hp} (s : Same H H') : ∀ {vs : List V} {ks : List KindM}, KdsAt K H vs ks → KdsAt K H' vs ks
  | [], _, h => h
  | _ :: _, _, ⟨a, k, ks', e1, e2, h1, h2⟩ => ⟨a, k, ks', e1, e2, h1.on s, KdsAt.on s h2⟩
theorem KdsAt.len {K : PySem.W.Frag} {H : Hp} : ∀ {vs : List V} {ks : List KindM}, KdsAt K H vs ks → vs.length = ks.length
  | [], _, h => by rw [show _ = [] from h]; rfl
  | _ :: _, _, ⟨a, k, ks', e1, e2, h1, h2⟩ => by rw [e2, List.length_cons, List.length_cons, KdsAt.len h2]
theorem KdsAt.item {K : PySem.W.Frag} {H : Hp} : ∀ {vs : List V} {ks : List KindM} {i : Nat} {k : KindM}, KdsAt K H vs ks → ks[i]? = some k → ∃ a, vs[i]? = some (.ref a) ∧ KindAt K H a k
  | [], _, i, k, h, e => by rw [show _ = [] from h] at e; exact absurd e (by simp)
  | _ :: _, _, 0, k, ⟨a, k', ks', e1, e2, h1, h2⟩, e => by
    rw [e2] at e
    obtain rfl := Option.some.inj e
    exact ⟨a, by rw [e1]; rfl, h1⟩
  | _ :: _, _, i + 1, k, ⟨a, k', ks', e1, e2, h1, h2⟩, e => by
    rw [e2] at e
    have q := KdsAt.item (i := i) h2 e
    exact q
theorem KdsAt.at' {K : PySem.W.Frag} {H : Hp} {vs : List V} {ks : List KindM} {i : Nat} {x : V} (h : KdsAt K H vs ks) (e : vs[i]? = some x) : ∃ a k, x = .ref a ∧ ks[i]? = some k ∧ KindAt K H a k := by
  have hi := (List.getElem?_eq_some_iff.mp e).1
  rw [h.len] at hi
  obtain ⟨a, e1, e2⟩ := h.item (i := i) (k := ks[i]) (by simp [hi])
  rw [e] at e1
  exact ⟨a, _, Option.some.inj e1, by simp [hi], e2⟩
theorem KdsAt.snoc {K : PySem.W.Frag} {H : Hp} {a : Addr} {k : KindM} (hk : KindAt K H a k) : ∀ {vs : List V} {ks : List KindM}, KdsAt K H vs ks → KdsAt K H (vs ++ [.ref a]) (ks ++ [k])
  | [], _, h => by subst h; exact ⟨a, k, [], rfl, rfl, hk, rfl⟩
  | _ :: _, _, ⟨a', k', ks', e1, e2, h1, h2⟩ => ⟨a', k', ks' ++ [k], e1, by rw [e2]; rfl, h1, KdsAt.snoc hk h2⟩
def PLAINS : List Str := ["low", "high", "rest", "over", "part"]
def LIKES : List Str := ["add", "sub", "addstop", "substop", "less", "same"]
def CMPS : List Str := ["less", "same"]
structure MadeOk (q : RowM) (wd : Int) (kds : List KindM) : Prop where
  ne : kds ≠ []
  pl : q.deed ∈ PLAINS → ∀ k ∈ kds, k.tag = .plain
  mu : q.deed = "mul" → ∀ k ∈ kds, k.tag = .point
  pk : q.deed = "pick" → ∃ k r, kds = k :: r ∧ k.tag = .plain
  lk : (q.deed ∈ LIKES ∨ q.deed = "mul" ∨ q.deed = "pick") → ∃ i k, kds = i ++ [k, k]
  dv : (q.deed = "div" ∨ q.deed = "times") → ∃ k r, kds = k :: r ∧ (k.tag = .plain ∨ ∃ ns n, q.numbers = ns ++ [n] ∧ n ≤ 2 ^ (wd - 1).toNat)
def madeKind (q : RowM) (wd : Int) (kds : List KindM) : KindM := if q.deed ∈ CMPS then ⟨.plain, wd, 0⟩ else kds.getLastD ⟨.plain, wd, 0⟩
theorem atLast2 {α : Type} {l : List α} {x y : α} : atI (l ++ [x, y]) (-2) = some x := by
  unfold atI ixN
  rw [if_neg (by decide), if_pos (by simp only [List.length_append, List.length_cons, List.length_nil]; omega)]
  show (l ++ [x, y])[(-2 + ((l ++ [x, y]).length : Int)).toNat]? = some x
  have e : (-2 + ((l ++ [x, y]).length : Int)).toNat = l.length := by simp only [List.length_append, List.length_cons, List.length_nil]; omega
  rw [e]
  simp
def sp_Program_made_kind (K : PySem.W.Frag) : Sp := fun vs H Q _ => ∃ s sx wd pi pr po pk a dx ln q g r n p vks kds, vs = [.ref s, .ref a, .ref p] ∧ H s = some (.ins (He.ga K "Program") sx (progFs wd pi pr po pk)) ∧ H a = some (.ins (He.ga K "Row") dx (rowFs ln q.deed g r n q.way)) ∧
  H n = some (.lst (q.numbers.map V.int)) ∧ H p = some (.lst vks) ∧ KdsAt K H vks kds ∧ 4 ≤ wd ∧ wd ≤ 32 ∧ MadeOk q wd kds ∧ ∀ k H', Same H H' → KindAt K H' k (madeKind q wd kds) → Q (.ref k) H'
abbrev N_Program_made_kind : List Str := ["self", "row", "some", "at", "kind"]
theorem sc_Program_made_kind : FnScope ["self", "row", "some", "at", "kind"] ["self", "row", "some"] (defScope s_Program_made_kind) := ⟨rfl, rfl, rfl, by decide +kernel, rfl, by decide +kernel, by decide +kernel⟩
theorem ok_Program_made_kind {f : Addr} {fd : FuncData} (T : Tx K mg)  (F : FunP K "made_kind" "Program.made_kind" s_Program_made_kind f fd) : FnOk P w K mg base (L2.CX P w) 7 f fd ["self", "row", "some"] (sp_Program_made_kind K) := by
  refine F.ok sc_Program_made_kind (fun vs H Q E h => ?_) (fun cdv A outer s H vs Q E hr h => ?_)
  · repeat first | (obtain ⟨e, _⟩ := h; subst e; rfl; done) | (obtain ⟨_, h⟩ := h)
  refine ⟨_, (pss_cons (ps_for oU rfl (pi_enum rfl (fr_enumerate T) (pa_cons (pv 2) pa_nil)) (pg_tup rfl (pgs_cons (pg_name (i := 3) sc_Program_made_kind.nd rfl (Or.inl rfl)) (pgs_cons (pg_name (i := 4) sc_Program_made_kind.nd rfl (Or.inl rfl)) pgs_nil)))
  (pss_one (ps_if (PW.pt (pw_or (PW.pt (pw_and (pt_cmpR op_in_seq (pe_fld (pv 1) rfl) (pe_gref rfl (g_PLAIN_DEEDS T)) (by with_unfolding_all rfl)) (pw_and1 (pt_cmpR op_ne (pe_mX0 (met_Kind_word T) hr (by decide) pU (pv 4)) pe_str (nomark _))))) (pw_or1 (PW.pt (pw_and (pt_cmpR op_eq (pe_fld (pv 1) rfl) pe_str (nomark _)) (pw_and1 (pt_cmpR op_ne (pe_mX0 (met_Kind_word T) hr (by decide) pU (pv 4)) pe_str (nomark _)))))))) pss_dead pss_nil)))
  (pss_cons (ps_if (PW.pt (pw_and (pt_cmpR op_eq (pe_fld (pv 1) rfl) pe_str (nomark _)) (pw_and1 (pt_cmpR op_ne (pe_mX0 (met_Kind_word T) hr (by decide) pU (pe_ix ix_list (pv 2) pe_int (fun _ _ => rfl))) pe_str (nomark _))))) pss_dead pss_nil)
  (pss_cons (ps_if (PW.pt (pw_and (PW.pt (pw_or (pt_cmpR op_in_seq (pe_fld (pv 1) rfl) (pe_gref rfl (g_LIKE_DEEDS T)) (by with_unfolding_all rfl)) (pw_or1 (pt_cmpR op_in_seq (pe_fld (pv 1) rfl) (pe_tup (pa_cons pe_str (pa_cons pe_str pa_nil))) (by with_unfolding_all rfl))))) (pw_and1 (pt_not (pt_val (pe_cX (cal_same_kind T) hr (by decide) rfl pU (pa_cons (pe_ix ix_list (pv 2) (pe_un un_neg pe_int) (fun _ _ => rfl)) (pa_cons (pe_ix ix_list (pv 2) (pe_un un_neg pe_int) (fun _ _ => rfl)) pa_nil)))))))) pss_dead pss_nil)
  (pss_cons (ps_if (PW.pt (pw_and (pt_cmpR op_in_seq (pe_fld (pv 1) rfl) (pe_tup (pa_cons pe_str (pa_cons pe_str pa_nil))) (by with_unfolding_all rfl)) (pw_and (pt_cmpR op_ne (pe_mX0 (met_Kind_word T) hr (by decide) pU (pe_ix ix_list (pv 2) pe_int (fun _ _ => rfl))) pe_str (nomark _)) (pw_and1 (pt_cmpR op_gt (pe_ix ix_list (pe_fld (pv 1) rfl) (pe_un un_neg pe_int) (fun _ _ => rfl)) (pe_op op_shl pe_int (pe_op op_sub (pe_fld (pv 0) rfl) pe_int)) (nomark _)))))) pss_dead pss_nil)
  (pss_cons (ps_if (pt_cmpR op_in_seq (pe_fld (pv 1) rfl) (pe_tup (pa_cons pe_str (pa_cons pe_str pa_nil))) (by with_unfolding_all rfl)) (pss_one (ps_ret (pe_kX (mak_Plain T) hr (by decide) rfl pU (pa_cons (pe_fld (pv 0) rfl) pa_nil)))) pss_nil)
  (pss_one (ps_ret (pe_ix ix_list (pv 2) (pe_un un_neg pe_int) (fun _ _ => rfl))))))))), ?_⟩
  try dsimp only [cxK]
  obtain ⟨s', sx, wd, pi, pr, po, pk, a, dx, ln, q, g, r, n, p, vks, kds, rfl, hs', ha, hn, hp, hks, h4, h32, mo, kq⟩ := h
  have hlen := hks.len
  walk_at "rd"
  refine r_forE rfl (SqL.of hp) (fun i σ' H' => (∃ a1 a2, σ' = (((L2.start ["self", "row", "some", "at", "kind"] [V.ref s', V.ref a, V.ref p]).set 3 a1).set 4 a2)) ∧ Same H H') ⟨⟨none, none, rfl⟩, Same.refl _⟩ (fun i σ' H' q => SqL.of (q.2 _ _ hp)) (fun i x Tp σ' H' hx q' hT => ?_) (fun σ' H' q' => ?_)
  · obtain ⟨⟨a1, a2, rfl⟩, s1⟩ := q'
    obtain ⟨k, kd, rfl, hkd, hk⟩ := hks.at' hx
    have hmem := List.mem_of_getElem? hkd
    have s2 := Same.new (o := .tup [.int (i : Int), .ref k]) hT
    have s12 := s1.trans s2
    generalize upd H' Tp (.tup [.int (i : Int), .ref k]) = H2 at *
    walk_at "rds"
    refine r_ifB false (fun B kB => ?_) (fun H3 s3 => ?_)
    · have a2 := s12 _ _ ha
      have mul : ∀ H3, Same H2 H3 → tAnd (tTest (tOp rEq (tFld K (tVar 1) "deed") (tC (.str "mul")))) (tTest (tOp rNe (tMethV (In_Kind K) "word" (sp_Kind_word K) E (tVar 4) tNil) (tC (.str "point")))) (((L2.start ["self", "row", "some", "at", "kind"] [V.ref s', V.ref a, V.ref p]).set 3 (some (.int (i : Int)))).set 4 (some (.ref k))) H3 B := fun H3 s3 => by
        walk_at "rd"
        refine r_fldO (s3 _ _ a2) (c_Row T) (na_Row_deed T) lkR_deed ?_
        walk_at "rd"
        refine r_iteD (fun hm => ?_) (fun hm => ?_)
        · have ht := mo.mu hm kd hmem
          walk_at "rd"
          refine r_methK ((hk.on s12).on s3) rfl ?_
          walk_at "rd"
          refine ⟨k, kd, rfl, (hk.on s12).on s3, rfl, ?_⟩
          rw [ht]
          walk_at "rd"
          rw [show (!decide (KTag.point.word = ("point" : Str))) = false from rfl]
          exact kB _ s3
        · exact kB _ s3
      walk_at "rd"
      refine r_fldO a2 (c_Row T) (na_Row_deed T) lkR_deed ?_
      walk_at "rd"
      refine r_inTp (l := PLAINS) (tp_PLAIN_DEEDS T _) ?_
      walk_at "rd"
      refine r_iteD (fun hpl => ?_) (fun hpl => ?_)
      · have ht := mo.pl hpl kd hmem
        walk_at "rd"
        refine r_methK (hk.on s12) rfl ?_
        walk_at "rd"
        refine ⟨k, kd, rfl, hk.on s12, rfl, ?_⟩
        rw [ht]
        walk_at "rd"
        refine r_NDT rfl ?_
        exact mul _ (Same.refl _)
      · walk_at "rds"
        exact mul _ (Same.refl _)
    · rw [if_neg (by decide)]
      walk_at "rd"
      exact ⟨⟨_, _, rfl⟩, s12.trans s3⟩
  · obtain ⟨⟨a1, a2, rfl⟩, s1⟩ := q'
    have e1 := s1 _ _ ha
    have p1 := s1 _ _ hp
    have k1 := hks.on s1
    walk_at "rds"
    refine r_ifB false (fun B kB => ?_) (fun H3 s3 => ?_)
    · walk_at "rd"
      refine r_fldO e1 (c_Row T) (na_Row_deed T) lkR_deed ?_
      walk_at "rd"
      refine r_iteD (fun hpk => ?_) (fun hpk => ?_)
      · obtain ⟨kd, rst, ek, et⟩ := mo.pk hpk
        obtain ⟨k, e0, hk⟩ := k1.item (i := 0) (k := kd) (by rw [ek]; rfl)
        walk_at "rd"
        refine r_ixL (SqL.of p1) (atNat (n := 0) e0) ?_
        refine r_methK hk rfl ?_
        walk_at "rd"
        refine ⟨k, kd, rfl, hk, rfl, ?_⟩
        rw [et]
        walk_at "rd"
        rw [show (!decide (KTag.plain.word = ("plain" : Str))) = false from rfl]
        exact kB _ (Same.refl _)
      · exact kB _ (Same.refl _)
    rw [if_neg (by decide)]
    have s13 := s1.trans s3
    have e3 := s13 _ _ ha
    have p3 := s13 _ _ hp
    have k3 := hks.on s13
    have like : (q.deed ∈ LIKES ∨ q.deed = "mul" ∨ q.deed = "pick") → ∀ H4, Same H3 H4 → ∀ (R : V → Hp → Prop), (∀ H5, Same H4 H5 → R (.bl true) H5) → tCall (sp_same_kind K) [] E (tCons (tOp (rIxL K) (tVar 2) (tUn (rU fun i => V.int (-i)) (tC (.int 2)))) (tCons (tOp (rIxL K) (tVar 2) (tUn (rU fun i => V.int (-i)) (tC (.int 1)))) tNil)) (((L2.start ["self", "row", "some", "at", "kind"] [V.ref s', V.ref a, V.ref p]).set 3 a1).set 4 a2) H4 R := by
      intro hlk H4 s4 R hR
      obtain ⟨ini, kd, ek⟩ := mo.lk hlk
      have hl : vks.length = ini.length + 2 := by rw [hlen, ek, List.length_append]; rfl
      obtain ⟨x1, g1, c1⟩ := (k3.on s4).item (i := ini.length) (k := kd) (by rw [ek]; simp)
      obtain ⟨x2, g2, c2⟩ := (k3.on s4).item (i := ini.length + 1) (k := kd) (by rw [ek]; simp)
      have hv : vks = vks.take ini.length ++ [.ref x1, .ref x2] := by
        have h1 : vks.drop ini.length = [.ref x1, .ref x2] := by
          rw [List.drop_eq_getElem_cons (by omega), List.drop_eq_getElem_cons (by omega), List.drop_eq_nil_of_le (by omega)]
          rw [List.getElem?_eq_getElem (by omega)] at g1 g2
          rw [Option.some.inj g1, Option.some.inj g2]
        rw [← h1, List.take_append_drop]
      have p4 := s4 _ _ p3
      rw [hv] at p4
      walk_at "rd"
      refine r_ixL (SqL.of p4) atLast2 ?_
      walk_at "rd"
      refine r_ixL (SqL.of p4) (by rw [show vks.take ini.length ++ [V.ref x1, V.ref x2] = (vks.take ini.length ++ [V.ref x1]) ++ [V.ref x2] by simp]; exact atLast) ?_
      walk_at "rd"
      exact ⟨x1, x2, kd, rfl, c1, c2, hR _ (Same.refl _)⟩
    walk_at "rds"
    refine r_ifB false (fun B kB => ?_) (fun H4 s4 => ?_)
    · walk_at "rd"
      refine r_fldO e3 (c_Row T) (na_Row_deed T) lkR_deed ?_
      walk_at "rd"
      refine r_inTp (l := LIKES) (tp_LIKE_DEEDS T _) ?_
      walk_at "rd"
      refine r_iteD (fun hl => ?_) (fun hl => ?_)
      · walk_at "rds"
        refine r_not ?_
        refine r_B ?_
        refine like (.inl hl) _ (Same.refl _) _ fun H5 s5 => ?_
        refine r_bl ?_
        exact kB _ s5
      · walk_at "rd"
        refine r_fldO e3 (c_Row T) (na_Row_deed T) lkR_deed ?_
        walk_at "rd"
        refine r_inNew ["mul", "pick"] (by decide) fun q' H5 _ s5 => ?_
        walk_at "rd"
        refine r_iteD (fun hm => ?_) (fun hm => ?_)
        · walk_at "rds"
          refine r_not ?_
          refine r_B ?_
          refine like (.inr (by simpa using hm)) _ s5 _ fun H6 s6 => ?_
          refine r_bl ?_
          exact kB _ (s5.trans s6)
        · exact kB _ s5
    rw [if_neg (by decide)]
    have s14 := s13.trans s4
    have e4 := s14 _ _ ha
    have p4 := s14 _ _ hp
    have k4 := hks.on s14
    have n4 := s14 _ _ hn
    have q4 := s14 _ _ hs'
    walk_at "rds"
    refine r_ifB false (fun B kB => ?_) (fun H5 s5 => ?_)
    · walk_at "rd"
      refine r_fldO e4 (c_Row T) (na_Row_deed T) lkR_deed ?_
      walk_at "rd"
      refine r_inNew ["div", "times"] (by decide) fun q' H5 _ s5 => ?_
      walk_at "rd"
      refine r_iteD (fun hd => ?_) (fun hd => ?_)
      · obtain ⟨kd, rst, ek, et⟩ := mo.dv (by simpa using hd)
        obtain ⟨k, e0, hk⟩ := (k4.on s5).item (i := 0) (k := kd) (by rw [ek]; rfl)
        walk_at "rd"
        refine r_ixL (SqL.of (s5 _ _ p4)) (atNat (n := 0) e0) ?_
        refine r_methK hk rfl ?_
        walk_at "rd"
        refine ⟨k, kd, rfl, hk, rfl, ?_⟩
        walk_at "rd"
        by_cases hpl : kd.tag = .plain
        · rw [hpl]
          refine r_NDT rfl ?_
          exact kB _ s5
        · have hw : kd.tag.word ≠ "plain" := by
            intro z
            cases ht : kd.tag with
            | plain => exact hpl ht
            | signed => rw [ht] at z; exact absurd z (by decide +kernel)
            | point => rw [ht] at z; exact absurd z (by decide +kernel)
          refine r_NDF hw ?_
          obtain ⟨ns, m, em, hm⟩ := et.resolve_left hpl
          have n5 := s5 _ _ n4
          rw [em, List.map_append] at n5
          walk_at "rd"
          refine r_fldO (s5 _ _ e4) (c_Row T) (na_Row_numbers T) lkR_numbers ?_
          walk_at "rd"
          refine r_ixL (SqL.of n5) atLast ?_
          walk_at "rd"
          refine r_fldO (s5 _ _ q4) (c_Program T) (na_Program_width T) lkQ_width ?_
          walk_at "rd"
          refine r_I ⟨by omega, by omega, by decide⟩ ?_
          rw [Int.one_mul]
          walk_at "rd"
          rw [decide_eq_false (by omega)]
          exact kB _ s5
      · exact kB _ s5
    rw [if_neg (by decide)]
    have s15 := s14.trans s5
    have e5 := s15 _ _ ha
    walk_at "rds"
    refine r_ifB (decide (q.deed ∈ CMPS)) (fun B kB => ?_) (fun H6 s6 => ?_)
    · walk_at "rd"
      refine r_fldO e5 (c_Row T) (na_Row_deed T) lkR_deed ?_
      walk_at "rd"
      exact r_inNew CMPS (by decide) fun q' H5 _ s5 => (by walk_at "rd"; exact kB _ s5)
    have s16 := s15.trans s6
    refine r_iteD (fun hc => ?_) (fun hc => ?_)
    · walk_at "rd"
      refine r_fldO (s16 _ _ hs') (c_Program T) (na_Program_width T) lkQ_width ?_
      walk_at "rd"
      intro x dxx hx hdx hne
      refine ⟨x, dxx, wd, rfl, upd_same, h4, h32, fun H' h' => ⟨rfl, ?_⟩⟩
      refine kq x H' (s16.trans (h'.new hx hdx)) ?_
      rw [show madeKind q wd kds = ⟨.plain, wd, 0⟩ from if_pos hc]
      exact KindAt.plain h4 h32 h'.1
    · walk_at "rd"
      have hl0 : 0 < kds.length := List.length_pos_iff.mpr mo.ne
      obtain ⟨k, e0, hk⟩ := (hks.on s16).item (i := kds.length - 1) (k := kds[kds.length - 1]) (by simp [hl0])
      have p6 := s16 _ _ hp
      have hv : vks = vks.take (kds.length - 1) ++ [.ref k] := by
        have h1 : vks.drop (kds.length - 1) = [.ref k] := by
          rw [List.drop_eq_getElem_cons (by omega), List.drop_eq_nil_of_le (by omega)]
          rw [List.getElem?_eq_getElem (by omega)] at e0
          rw [Option.some.inj e0]
        rw [← h1, List.take_append_drop]
      rw [hv] at p6
      refine r_ixL (SqL.of p6) atLast ?_
      refine kq k _ s16 ?_
      have e : madeKind q wd kds = kds[kds.length - 1] := by
        unfold madeKind
        rw [if_neg hc, List.getLastD_eq_getLast?, List.getLast?_eq_getElem?, List.getElem?_eq_getElem (by omega)]
        rfl
      rw [e]
      exact hk
theorem met_Program_made_kind (T : Tx K mg) : ∀ C, C = He.ga K "Program" → MetX P w K mg base 7 C "made_kind" (sp_Program_made_kind K) := by
  rintro C rfl
  obtain ⟨fd, F⟩ := fn_Program_made_kind T
  exact ⟨_, fd, _, c_Program T, m_Program_made_kind T, ok_Program_made_kind T F, F.bindsN fun _ _ _ _ _ _ us hl => match us, hl with | [_, _, _], _ => rfl⟩

end
section
variable {P : Program} {w : World} {K : PySem.W.Frag} {mg : Str → Option Value} {base : Heap}
def getKd (ks : List (Str × KindM)) (n : Str) : KindM := (ks.lookup n).getD ⟨.plain, 4, 0⟩
def putKd (kd : KindM) (ks : List (Str × KindM)) (g : Str) : List (Str × KindM) := if (ks.lookup g).isSome then ks else (g, kd) :: ks
theorem putKd_pos {kd : KindM} {ks : List (Str × KindM)} {g : Str} (h : (ks.lookup g).isSome = true) : putKd kd ks g = ks := if_pos h
theorem putKd_neg {kd : KindM} {ks : List (Str × KindM)} {g : Str} (h : ¬ (ks.lookup g).isSome = true) : putKd kd ks g = (g, kd) :: ks := if_neg h
/-- the kind of a row's word -/
def rowKd (wd : Int) (chs : List (Int × KindM)) (ln : Int) (q : RowM) (ks : List (Str × KindM)) : KindM := (chs.lookup ln).getD (madeKind q wd (q.reads.map (getKd ks)))
/-- the second walk over good rows -/
def lookM (wd : Int) (chs : List (Int × KindM)) : Rows → List (Str × KindM) → List (Str × KindM)
  | .nil, ks => ks
  | .row ln q t, ks => lookM wd chs t (q.goals.foldl (putKd (rowKd wd chs ln q ks)) ks)
  | .rep _ _ b t, ks => lookM wd chs t (lookM wd chs b ks)
def Rows.lookOk (wd : Int) (chs : List (Int × KindM)) : Rows → List (Str × KindM) → Prop
  | .nil, _ => True
  | .row ln q t, ks => q.goals.length ≤ 3 ∧ q.reads.length ≤ 1000 ∧ (∀ n ∈ q.reads, (ks.lookup n).isSome = true) ∧ (chs.lookup ln = none → MadeOk q wd (q.reads.map (getKd ks))) ∧
      (∀ g ∈ q.goals, ∀ k, ks.lookup g = some k → k = rowKd wd chs ln q ks) ∧ t.lookOk wd chs (q.goals.foldl (putKd (rowKd wd chs ln q ks)) ks)
  | .rep _ _ b t, ks => b.lookOk wd chs ks ∧ t.lookOk wd chs (lookM wd chs b ks)
theorem putKd_len (kd : KindM) (ks : List (Str × KindM)) (g : Str) : (putKd kd ks g).length ≤ ks.length + 1 := by
  unfold putKd
  split
  · omega
  · exact Nat.le_refl _
theorem foldKd_len (kd : KindM) : ∀ (gs : List Str) (ks : List (Str × KindM)), (gs.foldl (putKd kd) ks).length ≤ ks.length + gs.length
  | [], _ => Nat.le_refl _
  | g :: gs, ks => by
    have h1 := foldKd_len kd gs (putKd kd ks g)
    have h2 := putKd_len kd ks g
    simp only [List.foldl_cons, List.length_cons]
    omega
theorem lookM_len {wd : Int} {chs : List (Int × KindM)} : ∀ {r : Rows} {ks : List (Str × KindM)}, r.lookOk wd chs ks → (lookM wd chs r ks).length ≤ ks.length + 3 * r.total
  | .nil, ks, _ => Nat.le_refl _
  | .row ln q t, ks, h => by
    have h1 := lookM_len h.2.2.2.2.2
    have h2 := foldKd_len (rowKd wd chs ln q ks) q.goals ks
    have h3 := h.1
    show (lookM wd chs t _).length ≤ ks.length + 3 * (t.total + 1)
    omega
  | .rep ln tm b t, ks, h => by
    have h1 := lookM_len h.1
    have h2 := lookM_len h.2
    show (lookM wd chs t _).length ≤ ks.length + 3 * (b.total + t.total)
    omega
theorem Rows.dropN_depth {r : Rows} : ∀ i, (r.dropN i).depth ≤ r.depth
  | 0 => Nat.le_refl _
  | i + 1 => by
    have h1 := Rows.dropN_depth (r := r) i
    show (r.dropN i).tl.depth ≤ r.depth
    revert h1
    generalize r.dropN i = s
    cases s with
    | nil => exact fun h1 => h1
    | row l q t => exact fun h1 => h1
    | rep l m b t => exact fun h1 => Nat.le_trans (Nat.le_max_right _ _) h1
/-- among the goals so far -/
theorem fold_get {kd : KindM} {g : Str} {k : KindM} : ∀ {gs : List Str} {ks : List (Str × KindM)}, (gs.foldl (putKd kd) ks).lookup g = some k → ks.lookup g = some k ∨ k = kd
  | [], _, h => .inl h
  | x :: gs, ks, h => by
    rcases fold_get (gs := gs) (ks := putKd kd ks x) h with q | q
    · unfold putKd at q
      split at q
      · exact .inl q
      · rw [List.lookup_cons] at q
        by_cases e : g = x
        · subst e
          simp only [beq_self_eq_true] at q
          exact .inr (Option.some.inj q).symm
        · rw [show (g == x) = false from by simpa using e] at q
          exact .inl q
    · exact .inr q
theorem take_foldKd {kd : KindM} {M : List (Str × KindM)} {gs : List Str} {i : Nat} {x : Str} (h : gs[i]? = some x) : (gs.take (i + 1)).foldl (putKd kd) M = putKd kd ((gs.take i).foldl (putKd kd) M) x := by
  have : gs.take (i + 1) = gs.take i ++ [x] := by
    rw [List.take_add_one, h]
    rfl
  rw [this, List.foldl_append]
  rfl
theorem KindsAt.get {K : PySem.W.Frag} {F : Hp} {kvs : List (Key × V)} {ks : List (Str × KindM)} {n : Str} (h : KindsAt K F kvs ks) (hs : (ks.lookup n).isSome = true) : ∃ a, valV kvs (Sum.inr n) = some (.ref a) ∧ KindAt K F a (getKd ks n) := by
  have q := h.2 n
  unfold getKd
  cases e : ks.lookup n with
  | none => rw [e] at hs; cases hs
  | some kd => rw [e] at q; exact q
theorem KindsAt.non {K : PySem.W.Frag} {F : Hp} {kvs : List (Key × V)} {ks : List (Str × KindM)} {n : Str} (h : KindsAt K F kvs ks) (hs : ¬ (ks.lookup n).isSome = true) : valV kvs (Sum.inr n) = none := by
  have q := h.2 n
  cases e : ks.lookup n with
  | none => rw [e] at q; exact q
  | some kd => exact absurd (by rw [e]; rfl) hs
structure LookPre (K : PySem.W.Frag) (F H : Hp) (P p ch : Addr) (dx i rr o k : Addr) (wd : Int) (ws : List V) (r : Rows) (chs : List (Int × KindM)) (kvc kvs : List (Key × V)) (ks : List (Str × KindM)) : Prop where
  S : Same F H
  hP : F P = some (.ins (He.ga K "Program") dx (progFs wd i rr o k))
  hp : F p = some (.lst ws)
  hw : RowsAt K F r ws
  hl : r.lookOk wd chs ks
  hc : F ch = some (.dK kvc)
  hC : ChosenAt K F kvc chs
  fk : F k = none
  hk : H k = some (.dK kvs)
  hK : KindsAt K F kvs ks
  hb : ks.length + 3 * r.total ≤ 50000
  h4 : 4 ≤ wd
  h32 : wd ≤ 32
def sp_Program_look (K : PySem.W.Frag) (d : Nat) : Sp := fun vs H Q _ => ∃ P p ch dx i rr o k wd ws r chs kvc kvs ks F, vs = [.ref P, .ref p, .ref ch] ∧ LookPre K F H P p ch dx i rr o k wd ws r chs kvc kvs ks ∧ r.depth < d ∧
  ∀ F' H' kvs', Same F F' → Same F' H' → F' k = none → H' k = some (.dK kvs') → KindsAt K F' kvs' (lookM wd chs r ks) → Q .non H'
abbrev N_Program_look : List Str := ["self", "rows", "chosen", "row", "name", "kind"]
theorem sc_Program_look : FnScope ["self", "rows", "chosen", "row", "name", "kind"] ["self", "rows", "chosen"] (defScope s_Program_look) := ⟨rfl, rfl, rfl, by decide +kernel, rfl, by decide +kernel, by decide +kernel⟩
theorem ok_Program_look {f : Addr} {fd : FuncData} (T : Tx K mg) {d : Nat} (ih : ∀ C, C = He.ga K "Program" → MetX P w K mg base (d + 20) C "look" (sp_Program_look K d)) (F : FunP K "look" "Program.look" s_Program_look f fd) : FnOk P w K mg base (L2.CX P w) (d + 21) f fd ["self", "rows", "chosen"] (sp_Program_look K (d + 1)) := by
  refine F.ok sc_Program_look (fun vs H Q E h => ?_) (fun cdv A outer s H vs Q E hr h => ?_)
  · repeat first | (obtain ⟨e, _⟩ := h; subst e; rfl; done) | (obtain ⟨_, h⟩ := h)
  refine ⟨_, (pss_one (ps_for oU rfl (pi_list (pv 1)) (pg_name (i := 3) sc_Program_look.nd rfl (Or.inl rfl))
  (pss_one (ps_if (pt_val (pe_callB call_isi (by rfl) (fr_isinstance T) (by decide +kernel) (pa_cons (pv 3) (pa_cons (pe_gref rfl (g_Repeat T)) pa_nil)))) (pss_one (ps_expr (pe_mX ih hr (Nat.le_refl _) pU (pv 0) (pa_cons (pe_fld (pv 3) rfl) (pa_cons (pv 2) pa_nil))))) (pss_cons (ps_for oU rfl (pi_list (pe_fld (pv 3) rfl)) (pg_name (i := 4) sc_Program_look.nd rfl (Or.inl rfl))
  (pss_one (ps_if (pt_cmp (pc_dnotin (hu_of hr) (pv 4) (pe_fld (pv 0) rfl))) pss_dead pss_nil)))
  (pss_cons (ps_set (i := 5) sc_Program_look.nd rfl (Or.inl rfl) (pe_dget1 (hu_of hr) (pv 2) (pe_fld (pv 3) rfl) ⟨by rfl, by rfl, by rfl, by rfl⟩))
  (C8.pss_cut (ps_if (pt_cmp (pc_isN (pv 5))) (pss_one (ps_set (i := 5) sc_Program_look.nd rfl (Or.inl rfl) (pe_mX (met_Program_made_kind T) hr (by omega) pU (pv 0) (pa_cons (pv 3) (pa_cons (pe_lc (own := [("name", 4)]) (te := tDGet (tFld K (tVar 0) "kinds") (tVar 4)) (g := gName 4) (tt := tYes) rfl sc_Program_look.nd (pi_list (pe_fld (pv 3) rfl)) (blkOk_by (N := N_Program_look) (sc := defScope s_Program_look) (by decide +kernel)) (fun _ _ _ _ _ => (pg_name (i := 4) sc_Program_look.nd rfl (Or.inl rfl))) (fun _ _ _ _ _ => pts_nil) (fun _ _ _ _ _ => (pe_dget (hu_of hr) (pe_fld (pv 0) rfl) (pv 4) (fun _ _ => rfl)))) pa_nil))))) pss_nil)
  (pss_one (ps_for oU rfl (pi_list (pe_fld (pv 3) rfl)) (pg_name (i := 4) sc_Program_look.nd rfl (Or.inl rfl))
  (pss_cons (ps_if (PW.pt (pw_and (pt_cmp (pc_din (hu_of hr) (pv 4) (pe_fld (pv 0) rfl))) (pw_and1 (pt_not (pt_val (pe_cX (cal_same_kind T) hr (by omega) rfl pU (pa_cons (pe_dget (hu_of hr) (pe_fld (pv 0) rfl) (pv 4) (fun _ _ => rfl)) (pa_cons (pv 5) pa_nil)))))))) pss_dead pss_nil)
  (pss_one (ps_expr (pe_dsetd (pe_fld (pv 0) rfl) (pv 4) (pv 5) ⟨by rfl, by rfl, by rfl, by rfl⟩))))))))))))), ?_⟩
  try dsimp only [cxK]
  obtain ⟨P0, p, ch, dx, i0, rr, o, k, wd, ws, r, chs, kvc, kvs, ks, F0, rfl, L, hd, kq⟩ := h
  refine r_forLv rfl (SqL.of (L.S _ _ L.hp)) ⟨fun i σ' H' => (∃ a1 a2 a3, σ' = (((L2.start ["self", "rows", "chosen", "row", "name", "kind"] [V.ref P0, V.ref p, V.ref ch]).set 3 a1).set 4 a2).set 5 a3) ∧
    ∃ F' kvs' ks', lookM wd chs r ks = lookM wd chs (r.dropN i) ks' ∧ (r.dropN i).lookOk wd chs ks' ∧ Same F0 F' ∧ Same F' H' ∧ F' k = none ∧ H' k = some (.dK kvs') ∧ KindsAt K F' kvs' ks' ∧ ks'.length + 3 * (r.dropN i).total ≤ 50000,
    ⟨⟨none, none, none, rfl⟩, F0, kvs, ks, rfl, L.hl, Same.refl _, L.S, L.fk, L.hk, L.hK, L.hb⟩, fun i σ' H' q => ?_, fun i x σ' H' hx q => ?_, fun σ' H' q => ?_⟩
  · obtain ⟨-, F', kvs', ks', -, -, q2, q3, -⟩ := q
    exact SqL.of (q3 _ _ (q2 _ _ L.hp))
  · obtain ⟨⟨a1, a2, a3, rfl⟩, F', kvs', ks', q1, hll, q2, q3, q4, q5, q6, q7⟩ := q
    rcases L.hw.item hx with ⟨ln, rq, a, dx', g, rd, n, rfl, er, ea, eg, erd, en⟩ | ⟨ln, tm, body, a, dx', b, bs, rfl, er, ea, eb, hb⟩
    · rw [er] at hll q1 q7
      obtain ⟨hl1, hl2, hl3, hl4, hl5, hl6⟩ := hll
      have f0 : ∀ x o, F0 x = some o → H' x = some o := fun x o e => q3 _ _ (q2 _ _ e)
      have ea' := f0 _ _ ea
      have q7' : ks'.length + 3 * ((r.dropN (i + 1)).total + 1) ≤ 50000 := q7
      walk_at "rd"
      refine (c_is T).1 ea' ?_
      walk_at "rd"
      refine r_forLf rfl ea' (c_Row T) (na_Row_reads T) lkR_reads (SqL.of (f0 _ _ erd)) ⟨fun j σ' H'' => H'' = H' ∧ (∃ z, σ' = ((((L2.start ["self", "rows", "chosen", "row", "name", "kind"] [V.ref P0, V.ref p, V.ref ch]).set 3 (some (.ref a))).set 4 z).set 5 a3)),
        ⟨rfl, ⟨a2, rfl⟩⟩, fun j σ' H'' q => by rw [q.1]; exact SqL.of (f0 _ _ erd), fun j y σ' H'' hy q => ?_, fun σ' H'' q => ?_⟩
      · obtain ⟨rfl, ⟨z, rfl⟩⟩ := q
        obtain ⟨b, hb, rfl⟩ : ∃ b, rq.reads[j]? = some b ∧ y = V.str b := by
          rw [List.getElem?_map] at hy
          cases e : rq.reads[j]? with
          | none => rw [e] at hy; cases hy
          | some y => rw [e] at hy; exact ⟨y, rfl, (Option.some.inj hy).symm⟩
        obtain ⟨kb, eb, Kb⟩ := q6.get (hl3 b (List.mem_of_getElem? hb))
        walk_at "rd"
        refine r_dnin ?_
        walk_at "rd"
        refine r_fldO (f0 _ _ L.hP) (c_Program T) (na_Program_kinds T) lkQ_kinds ?_
        refine r_dinS q5 ?_
        rw [eb]
        walk_at "rd"
        exact ⟨rfl, some (.str b), rfl⟩
      obtain ⟨rfl, ⟨z4, rfl⟩⟩ := q
      walk_at "rd"
      refine r_dget1 ?_
      walk_at "rd"
      refine ⟨.inl ⟨kvc, .inl (f0 _ _ L.hc)⟩, ?_⟩
      walk_at "rd"
      refine r_fldO ea' (c_Row T) (na_Row_line T) lkR_line ?_
      refine ⟨_, DGet.k (k := Sum.inl ln) (f0 _ _ L.hc), ?_⟩
      walk_at "rd"
      refine ⟨fun σ' H2 => ∃ kk z F2, σ' = ((((L2.start ["self", "rows", "chosen", "row", "name", "kind"] [V.ref P0, V.ref p, V.ref ch]).set 3 (some (.ref a))).set 4 z).set 5 (some (.ref kk))) ∧ Same F' F2 ∧ Same F2 H2 ∧ F2 k = none ∧ H2 k = some (.dK kvs') ∧ KindAt K F2 kk (rowKd wd chs ln rq ks'), ?_, ?_⟩
      · have hC := L.hC ln
        cases hch : chs.lookup ln with
        | some kd =>
          rw [hch] at hC
          obtain ⟨kk, ek, Kk⟩ := hC
          rw [ek]
          walk_at "rd"
          refine r_DF (fun z => nomatch z) ?_
          walk_at "rd"
          refine ⟨kk, z4, F', rfl, Same.refl _, q3, q4, q5, ?_⟩
          rw [show rowKd wd chs ln rq ks' = kd by unfold rowKd; rw [hch]; rfl]
          exact Kk.on q2
        | none =>
          rw [hch] at hC
          have hC : valV kvc (Sum.inl ln) = none := hC
          have mo := hl4 hch
          rw [hC]
          walk_at "rd"
          refine r_DT rfl ?_
          walk_at "rd"
          refine r_methO (f0 _ _ L.hP) rfl (lkQ_none (by decide +kernel)) ?_
          walk_at "rd"
          refine r_lcLf rfl ea' (c_Row T) (na_Row_reads T) lkR_reads (SqL.of (f0 _ _ erd)) (fun E j H2 => H'' E = none ∧ Same H'' H2 ∧ ∃ vks, H2 E = some (.lst vks) ∧ KdsAt K H2 vks ((rq.reads.take j).map (getKd ks'))) (fun q => rfl)
            (fun E hE => ⟨hE, Same.new hE, [], upd_same, rfl⟩) (fun E j H2 q => SqL.of (q.2.1 _ _ (f0 _ _ erd))) (fun E j y H2 hy q => ?_) (fun E H2 q => ?_)
          · obtain ⟨hE, sE, vks, aE, KE⟩ := q
            obtain ⟨b, hb, rfl⟩ : ∃ b, rq.reads[j]? = some b ∧ y = V.str b := by
              rw [List.getElem?_map] at hy
              cases e : rq.reads[j]? with
              | none => rw [e] at hy; cases hy
              | some y => rw [e] at hy; exact ⟨y, rfl, (Option.some.inj hy).symm⟩
            obtain ⟨kb, eb, Kb⟩ := q6.get (hl3 b (List.mem_of_getElem? hb))
            refine r_dget ?_
            walk_at "rd"
            refine r_fldO (sE _ _ (f0 _ _ L.hP)) (c_Program T) (na_Program_kinds T) lkQ_kinds ?_
            walk_at "rd"
            refine r_dgetS (sE _ _ q5) eb ?_
            have lv := KE.len
            have hj := (List.getElem?_eq_some_iff.mp hb).1
            have nE : ∀ {x : Addr} {o : HO}, H'' x = some o → x ≠ E := fun e => ne_of_none e hE
            have mv : ∀ {x : Addr} {kd : KindM}, KindAt K F' x kd → KindAt K (upd H2 E (.lst (vks ++ [.ref kb]))) x kd := fun {x kd} h => by
              obtain ⟨gd, ddx, e⟩ := h
              refine ⟨gd, ddx, ?_⟩
              rw [upd_ne (nE (q3 _ _ e))]
              exact sE _ _ (q3 _ _ e)
            have kl : ∀ {vs : List V} {kds : List KindM}, KdsAt K H2 vs kds → KdsAt K (upd H2 E (.lst (vks ++ [.ref kb]))) vs kds := by
              intro vs
              induction vs with
              | nil => exact fun h => h
              | cons v vs ihv =>
                intro kds h
                obtain ⟨a', k', ks2, e1, e2, ⟨gd, ddx, e3⟩, h2⟩ := h
                refine ⟨a', k', ks2, e1, e2, ⟨gd, ddx, ?_⟩, ihv h2⟩
                have : a' ≠ E := fun z => by rw [z, aE] at e3; cases e3
                rw [upd_ne this]; exact e3
            refine ⟨vks, aE, line_lt (by rw [lv, List.length_map, List.length_take]; omega), hE, same_updN sE hE, _, upd_same, ?_⟩
            rw [List.take_add_one, hb, List.map_append]
            exact (kl KE).snoc (mv Kb)
          · obtain ⟨hE, sE, vks, aE, KE⟩ := q
            rw [List.length_map, List.take_length] at KE
            walk_at "rd"
            refine ⟨P0, dx, wd, i0, rr, o, k, a, dx', ln, rq, g, rd, n, E, vks, _, rfl, sE _ _ (f0 _ _ L.hP), sE _ _ ea', sE _ _ (f0 _ _ en), aE, KE, L.h4, L.h32, mo, fun kk H3 s3 Kk => ?_⟩
            walk_at "rd"
            have s03 : Same F' H3 := fun x o e => s3 _ _ (sE _ _ (q3 _ _ e))
            have k3 : H3 k = some (.dK kvs') := s3 _ _ (sE _ _ q5)
            obtain ⟨gd, ddx, e3⟩ := Kk
            have kne : kk ≠ k := fun z => by rw [z, k3] at e3; cases e3
            have e : rowKd wd chs ln rq ks' = madeKind rq wd (rq.reads.map (getKd ks')) := by unfold rowKd; rw [hch]; rfl
            refine ⟨kk, z4, fun x => if x = k then none else H3 x, rfl, fun x o e => ?_, fun x o e => ?_, ?_, k3, ?_⟩
            · have hx : x ≠ k := fun z => by rw [z, q4] at e; cases e
              show (if x = k then none else H3 x) = some o
              rw [if_neg hx]
              exact s03 _ _ e
            · have e' : (if x = k then none else H3 x) = some o := e
              by_cases hx : x = k
              · rw [if_pos hx] at e'; cases e'
              · rwa [if_neg hx] at e'
            · show (if k = k then none else H3 k) = none
              rw [if_pos rfl]
            · rw [e]
              refine ⟨gd, ddx, ?_⟩
              show (if kk = k then none else H3 kk) = _
              rw [if_neg kne]
              exact e3
      rintro σ' H2 ⟨kk, z, F2, rfl, z1, z2, z3, z4', Kk⟩
      have f2 : ∀ x o, F' x = some o → H2 x = some o := fun x o e => z2 _ _ (z1 _ _ e)
      have ea2 := f2 _ _ (q2 _ _ ea)
      generalize hkd : rowKd wd chs ln rq ks' = kd at *
      refine r_forLf rfl ea2 (c_Row T) (na_Row_goals T) lkR_goals (SqL.of (f2 _ _ (q2 _ _ eg))) ⟨fun j σ' H3 => (∃ z, σ' = ((((L2.start ["self", "rows", "chosen", "row", "name", "kind"] [V.ref P0, V.ref p, V.ref ch]).set 3 (some (.ref a))).set 4 z).set 5 (some (.ref kk)))) ∧
        Same F2 H3 ∧ ∃ kv3, H3 k = some (.dK kv3) ∧ KindsAt K F2 kv3 ((rq.goals.take j).foldl (putKd kd) ks'), ⟨⟨z, rfl⟩, z2, kvs', z4', q6.on z1⟩, fun j σ' H3 q => SqL.of (q.2.1 _ _ (z1 _ _ (q2 _ _ eg))), fun j y σ' H3 hy q => ?_, fun σ' H3 q => ?_⟩
      · obtain ⟨⟨z, rfl⟩, f3, kv3, e3, K3⟩ := q
        obtain ⟨b, hb, rfl⟩ : ∃ b, rq.goals[j]? = some b ∧ y = V.str b := by
          rw [List.getElem?_map] at hy
          cases e : rq.goals[j]? with
          | none => rw [e] at hy; cases hy
          | some y => rw [e] at hy; exact ⟨y, rfl, (Option.some.inj hy).symm⟩
        have hP3 := f3 _ _ (z1 _ _ (q2 _ _ L.hP))
        have kl : kv3.length ≤ 90000 := by
          have h1 := K3.1
          have h2 := foldKd_len kd (rq.goals.take j) ks'
          have h3 : (rq.goals.take j).length ≤ rq.goals.length := by rw [List.length_take]; exact Nat.min_le_right _ _
          omega
        by_cases hbk : (((rq.goals.take j).foldl (putKd kd) ks').lookup b).isSome = true
        · obtain ⟨kb, eb, Kb⟩ := K3.get hbk
          have ekd : getKd ((rq.goals.take j).foldl (putKd kd) ks') b = kd := by
            unfold getKd
            cases e : ((rq.goals.take j).foldl (putKd kd) ks').lookup b with
            | none => rw [e] at hbk; cases hbk
            | some k2 =>
              show k2 = kd
              rcases fold_get e with h | h
              · exact hl5 b (List.mem_of_getElem? hb) k2 h
              · exact h
          rw [ekd] at Kb
          walk_at "rd"
          refine r_din ?_
          walk_at "rd"
          refine r_fldO hP3 (c_Program T) (na_Program_kinds T) lkQ_kinds ?_
          refine r_dinS e3 ?_
          rw [eb]
          walk_at "rd"
          refine r_dget ?_
          walk_at "rd"
          refine r_fldO hP3 (c_Program T) (na_Program_kinds T) lkQ_kinds ?_
          walk_at "rd"
          refine r_dgetS e3 eb ?_
          walk_at "rd"
          refine ⟨kb, kk, _, rfl, Kb.on f3, Kk.on f3, ?_⟩
          walk_at "rd"
          refine r_dsetd ?_
          walk_at "rd"
          refine r_fldO hP3 (c_Program T) (na_Program_kinds T) lkQ_kinds ?_
          refine ⟨k, rfl, .inl ⟨kv3, .inl e3⟩, ?_⟩
          walk_at "rd"
          refine ⟨kv3, Sum.inr b, e3, rfl, line_lt (by omega), fun v _ => ?_, fun hn => by rw [eb] at hn; cases hn⟩
          exact ⟨⟨some (.str b), rfl⟩, f3, kv3, e3, by rw [take_foldKd hb, putKd_pos hbk]; exact K3⟩
        · have eb := K3.non hbk
          walk_at "rd"
          refine r_din ?_
          walk_at "rd"
          refine r_fldO hP3 (c_Program T) (na_Program_kinds T) lkQ_kinds ?_
          refine r_dinS e3 ?_
          rw [eb]
          walk_at "rd"
          refine r_dsetd ?_
          walk_at "rd"
          refine r_fldO hP3 (c_Program T) (na_Program_kinds T) lkQ_kinds ?_
          refine ⟨k, rfl, .inl ⟨kv3, .inl e3⟩, ?_⟩
          walk_at "rd"
          refine ⟨kv3, Sum.inr b, e3, rfl, line_lt (by omega), fun v hv => (by rw [eb] at hv; cases hv), fun _ => ?_⟩
          refine ⟨⟨some (.str b), rfl⟩, same_updN f3 z3, _, upd_same, ?_⟩
          rw [take_foldKd hb, putKd_neg hbk]
          exact K3.put Kk
      · obtain ⟨⟨z, rfl⟩, f3, kv3, e3, K3⟩ := q
        rw [List.length_map, List.take_length] at K3
        have h2 := foldKd_len kd rq.goals ks'
        have e : lookM wd chs r ks = lookM wd chs (r.dropN (i + 1)) (rq.goals.foldl (putKd kd) ks') := by rw [q1, ← hkd]; rfl
        exact ⟨⟨some (.ref a), _, _, rfl⟩, F2, kv3, _, e, hl6, q2.trans z1, f3, z3, e3, K3, by omega⟩
    · have hdd := Rows.dropN_depth (r := r) i
      rw [er] at hll hdd q1 q7
      have hdep : body.depth < d := by have h1 : body.depth + 1 ≤ r.depth := Nat.le_trans (Nat.le_max_left _ _) hdd; omega
      have ea' := q3 _ _ (q2 _ _ ea)
      walk_at "rd"
      refine (c_is T).2 ea' ?_
      walk_at "rd"
      refine r_methO (q3 _ _ (q2 _ _ L.hP)) rfl (lkQ_none (by decide +kernel)) ?_
      walk_at "rd"
      refine r_fldO ea' (c_Repeat T) (na_Repeat_rows T) lkP_rows ?_
      walk_at "rd"
      have q7' : ks'.length + 3 * (body.total + (r.dropN (i + 1)).total) ≤ 50000 := q7
      refine ⟨P0, b, ch, dx, i0, rr, o, k, wd, bs, body, chs, kvc, kvs', ks', F', rfl, ⟨q3, q2 _ _ L.hP, q2 _ _ eb, hb.on q2, hll.1, q2 _ _ L.hc, L.hC.on q2, q4, q5, q6, by omega, L.h4, L.h32⟩, hdep, ?_⟩
      intro F2 H2 kvs2 z1 z2 z3 z4 z5
      have hle := lookM_len hll.1
      walk_at "rd"
      exact ⟨⟨some (.ref a), _, _, rfl⟩, F2, kvs2, lookM wd chs body ks', q1, hll.2, fun x o e => z1 _ _ (q2 _ _ e), z2, z3, z4, z5, by omega⟩
  · obtain ⟨⟨a1, a2, a3, rfl⟩, F', kvs', ks', q1, -, q2, q3, q4, q5, q6, q7⟩ := q
    rw [L.hw.done] at q1
    rw [q1] at kq
    exact kq F' H' kvs' q2 q3 q4 q5 q6
theorem met_Program_look' (T : Tx K mg) : ∀ d, ∀ C, C = He.ga K "Program" → MetX P w K mg base (d + 20) C "look" (sp_Program_look K d)
  | 0 => by
    rintro C rfl
    obtain ⟨fd, F⟩ := fn_Program_look T
    refine ⟨_, fd, ["self", "rows", "chosen"], c_Program T, m_Program_look T, F.ok (k := 19) sc_Program_look (fun vs H Q E h => ?_) (fun cdv A outer s H vs Q E hr h => ?_), F.bindsN fun _ _ _ _ _ _ us hl => match us, hl with | [_, _, _], _ => rfl⟩
    · obtain ⟨P, p, ch, dx, i, rr, o, k, wd, ws, r, chs, kvc, kvs, ks, F, rfl, h1, h2, h3⟩ := h; exact absurd h2 (Nat.not_lt_zero _)
    · obtain ⟨P, p, ch, dx, i, rr, o, k, wd, ws, r, chs, kvc, kvs, ks, F, rfl, h1, h2, h3⟩ := h; exact absurd h2 (Nat.not_lt_zero _)
  | d + 1 => by
    rintro C rfl
    obtain ⟨fd, F⟩ := fn_Program_look T
    exact ⟨_, fd, _, c_Program T, m_Program_look T, ok_Program_look T (met_Program_look' T d) F, F.bindsN fun _ _ _ _ _ _ us hl => match us, hl with | [_, _, _], _ => rfl⟩
theorem met_Program_look (T : Tx K mg) : ∀ C, C = He.ga K "Program" → MetX P w K mg base 40 C "look" (sp_Program_look K 20) := met_Program_look' T 20
end
section
variable {P : Program} {w : World} {K : PySem.W.Frag} {mg : Str → Option Value} {base : Heap}
/-- the inputs of a program -/
def PinsAt (K : PySem.W.Frag) (H : Hp) : List (Str × KindM) → List V → Prop
  | [], vs => vs = []
  | (nm, kd) :: l, vs => ∃ t k vs', vs = .ref t :: vs' ∧ H t = some (.tup [.str nm, .ref k]) ∧ KindAt K H k kd ∧ PinsAt K H l vs'
theorem PinsAt.move {K : PySem.W.Frag} {F H : Hp} (hi : ∀ x C dx fs, F x = some (.ins C dx fs) → H x = some (.ins C dx fs)) (ht : ∀ x us, F x = some (.tup us) → H x = some (.tup us)) : ∀ {l : List (Str × KindM)} {vs : List V}, PinsAt K F l vs → PinsAt K H l vs
  | [], _, h => h
  | (_, _) :: _, _, ⟨t, k, vs', e, h1, ⟨g, dx, h2⟩, h3⟩ => ⟨t, k, vs', e, ht _ _ h1, ⟨g, dx, hi _ _ _ _ h2⟩, PinsAt.move hi ht h3⟩
theorem PinsAt.on {K : PySem.W.Frag} {F H : Hp} (s : Same F H) {l : List (Str × KindM)} {vs : List V} (h : PinsAt K F l vs) : PinsAt K H l vs := h.move (fun x C dx fs e => s _ _ e) (fun x us e => s _ _ e)
theorem PinsAt.snoc {K : PySem.W.Frag} {H : Hp} {nm : Str} {kd : KindM} {t k : Addr} (ht : H t = some (.tup [.str nm, .ref k])) (hk : KindAt K H k kd) : ∀ {l : List (Str × KindM)} {vs : List V}, PinsAt K H l vs → PinsAt K H (l ++ [(nm, kd)]) (vs ++ [.ref t])
  | [], _, h => by subst h; exact ⟨t, k, [], rfl, ht, hk, rfl⟩
  | (_, _) :: _, _, ⟨t', k', vs', e, h1, h2, h3⟩ => ⟨t', k', vs' ++ [.ref t], by rw [e]; rfl, h1, h2, PinsAt.snoc ht hk h3⟩
theorem PinsAt.len {K : PySem.W.Frag} {H : Hp} : ∀ {l : List (Str × KindM)} {vs : List V}, PinsAt K H l vs → vs.length = l.length
  | [], _, h => by rw [h]; rfl
  | (_, _) :: _, _, ⟨t', k', vs', e, h1, h2, h3⟩ => by rw [e, List.length_cons, PinsAt.len h3]; rfl
theorem PinsAt.item {K : PySem.W.Frag} {H : Hp} : ∀ {l : List (Str × KindM)} {vs : List V} {i : Nat} {x : V}, PinsAt K H l vs → vs[i]? = some x → ∃ nm kd t k, l[i]? = some (nm, kd) ∧ x = .ref t ∧ H t = some (.tup [.str nm, .ref k]) ∧ KindAt K H k kd
  | [], _, i, x, h, e => by rw [h] at e; exact absurd e (by simp)
  | (nm, kd) :: l, _, 0, x, ⟨t, k, vs', e1, h1, h2, h3⟩, e => by
    rw [e1] at e
    exact ⟨nm, kd, t, k, rfl, (Option.some.inj e).symm, h1, h2⟩
  | (nm, kd) :: l, _, i + 1, x, ⟨t, k, vs', e1, h1, h2, h3⟩, e => by
    rw [e1] at e
    have := PinsAt.item (l := l) (i := i) h3 e
    exact this
theorem KindsAt.move {K : PySem.W.Frag} {F H : Hp} {kvs : List (Key × V)} {ks : List (Str × KindM)} (hi : ∀ x C dx fs, F x = some (.ins C dx fs) → H x = some (.ins C dx fs)) (h : KindsAt K F kvs ks) : KindsAt K H kvs ks := ⟨h.1, fun n => by
  have q := h.2 n
  cases e : ks.lookup n with
  | none => rw [e] at q; exact q
  | some kd =>
    rw [e] at q
    obtain ⟨k, e1, g, dx, e2⟩ := q
    exact ⟨k, e1, g, dx, hi _ _ _ _ e2⟩⟩
/-- a program read -/
structure ProgM where
  wd : Int
  ins : List (Str × KindM)
  rows : Rows
  outs : List Str
  ks : List (Str × KindM)
def ProgAt (K : PySem.W.Frag) (H : Hp) (a : Addr) (M : ProgM) : Prop := ∃ dx i rr o k vi vr kvs, H a = some (.ins (He.ga K "Program") dx (progFs M.wd i rr o k)) ∧ H i = some (.lst vi) ∧ PinsAt K H M.ins vi ∧ H rr = some (.lst vr) ∧ RowsAt K H M.rows vr ∧
  H o = some (.lst (M.outs.map V.str)) ∧ H k = some (.dK kvs) ∧ KindsAt K H kvs M.ks
theorem ProgAt.on {K : PySem.W.Frag} {H H' : Hp} {a : Addr} {M : ProgM} (s : Same H H') (h : ProgAt K H a M) : ProgAt K H' a M := by
  obtain ⟨dx, i, rr, o, k, vi, vr, kvs, h1, h2, h3, h4, h5, h6, h7, h8⟩ := h
  exact ⟨dx, i, rr, o, k, vi, vr, kvs, s _ _ h1, s _ _ h2, h3.on s, s _ _ h4, h5.on s, s _ _ h6, s _ _ h7, h8.on s⟩
def DM.ks0 (M : DM) : List (Str × KindM) := (M.ins.map Prod.snd).reverse
def DM.prog (M : DM) : ProgM := ⟨M.wd, M.ins.map Prod.snd, M.rows, M.outs.map Prod.snd, lookM M.wd M.chosen M.rows M.ks0⟩
/-- what the model must fulfil for the second walk -/
structure DM.Fin (M : DM) : Prop where
  w4 : 4 ≤ M.wd
  w32 : M.wd ≤ 32
  insN : (M.ins.map fun x => x.2.1).Nodup
  insL : M.ins.length ≤ 1000
  outL : M.outs.length ≤ 1000
  dep : M.rows.depth < 9
  sm : M.rows.small
  cnt : M.rows.count ≤ 600
  look : M.rows.lookOk M.wd M.chosen M.ks0
  tot : M.ins.length + 3 * M.rows.total ≤ 50000
  outN : (M.outs.map Prod.snd).Nodup
  outI : ∀ n ∈ M.outs.map Prod.snd, (M.prog.ks.lookup n).isSome = true
def sp_read_program (K : PySem.W.Frag) : Sp := fun vs H Q _ => ∃ text ls, vs = [.str text] ∧ TextOk text ls ∧ SoundAll 0 DM0 ls ∧ (readM 0 DM0 ls).Fin ∧ ∀ a H', Same H H' → H a = none → ProgAt K H' a (readM 0 DM0 ls).prog → Q (.ref a) H'
theorem ks0_none {l : List (Int × Str × KindM)} {j : Nat} {ln : Int} {nm : Str} {kd : KindM} (n : (l.map fun x => x.2.1).Nodup) (h : l[j]? = some (ln, nm, kd)) : (((l.take j).map Prod.snd).reverse).lookup nm = none := by
  have hj := (List.getElem?_eq_some_iff.mp h).1
  have e2 : l.drop j = (ln, nm, kd) :: l.drop (j + 1) := by
    rw [List.drop_eq_getElem_cons hj]
    congr 1
    rw [List.getElem?_eq_getElem hj] at h
    exact Option.some.inj h
  have e : l.map (fun x => x.2.1) = (l.take j).map (fun x => x.2.1) ++ (nm :: (l.drop (j + 1)).map (fun x => x.2.1)) := by
    calc l.map (fun x => x.2.1) = (l.take j ++ l.drop j).map (fun x => x.2.1) := by rw [List.take_append_drop]
      _ = _ := by rw [List.map_append, e2]; rfl
  rw [e] at n
  have hn := (List.nodup_append.mp n).2.2
  rw [List.lookup_eq_none_iff]
  intro p hp
  rw [List.mem_reverse, List.mem_map] at hp
  obtain ⟨x, hx, rfl⟩ := hp
  have := hn x.2.1 (List.mem_map.mpr ⟨x, hx, rfl⟩) nm List.mem_cons_self
  simpa using fun z => this z.symm
theorem take_ks0 {l : List (Int × Str × KindM)} {j : Nat} {ln : Int} {nm : Str} {kd : KindM} (h : l[j]? = some (ln, nm, kd)) : ((l.take (j + 1)).map Prod.snd).reverse = (nm, kd) :: ((l.take j).map Prod.snd).reverse := by
  rw [List.take_add_one, h, List.map_append, List.reverse_append]
  rfl
abbrev N_read_program : List Str := ["text", "draft", "program", "line", "name", "kind"]
theorem sc_read_program : FnScope ["text", "draft", "program", "line", "name", "kind"] ["text"] (defScope s_read_program) := ⟨rfl, rfl, rfl, by decide +kernel, rfl, by decide +kernel, by decide +kernel⟩
theorem ok_read_program {f : Addr} {fd : FuncData} (T : Tx K mg)  (F : FunP K "read_program" "read_program" s_read_program f fd) : FnOk P w K mg base (L2.CX P w) 41 f fd ["text"] (sp_read_program K) := by
  refine F.ok sc_read_program (fun vs H Q E h => ?_) (fun cdv A outer s H vs Q E hr h => ?_)
  · repeat first | (obtain ⟨e, _⟩ := h; subst e; rfl; done) | (obtain ⟨_, h⟩ := h)
  refine ⟨_, (pss_cons (ps_set (i := 1) sc_read_program.nd rfl (Or.inl rfl) (pe_cX (cal_read_lines T) hr (by decide) rfl pU (pa_cons (pv 0) pa_nil)))
  (pss_cons (ps_set (i := 2) sc_read_program.nd rfl (Or.inl rfl) (pe_kX (mak_Program T) hr (by decide) rfl pU (pa_cons (pe_fld (pv 1) rfl) (pa_cons (pe_fld (pv 1) rfl) pa_nil))))
  (pss_cons (ps_for oU rfl (pi_list (pe_fld (pv 1) rfl)) (pg_tup rfl (pgs_cons (pg_name (i := 3) sc_read_program.nd rfl (Or.inl rfl)) (pgs_cons (pg_name (i := 4) sc_read_program.nd rfl (Or.inl rfl)) (pgs_cons (pg_name (i := 5) sc_read_program.nd rfl (Or.inl rfl)) pgs_nil))))
  (pss_cons (ps_if (pt_cmp (pc_din (hu_of hr) (pv 4) (pe_fld (pv 2) rfl))) pss_dead pss_nil)
  (pss_cons (ps_dput (hu_of hr) (pe_fld (pv 2) rfl) (pv 4) (pv 5) rfl)
  (pss_one (ps_expr (pe_bm PySem.F.plainAttrs_list PySem.F.slot_list_append PySem.F.type_list_append mt_append (pe_fld (pv 2) rfl) (pa_cons (pe_tup (pa_cons (pv 4) (pa_cons (pv 5) pa_nil))) pa_nil)))))))
  (pss_cons (ps_expr (pe_mX (met_Program_look T) hr (by decide) pU (pv 2) (pa_cons (pe_fld (pv 1) rfl) (pa_cons (pe_fld (pv 1) rfl) pa_nil))))
  (pss_cons (ps_for oU rfl (pi_list (pe_fld (pv 1) rfl)) (pg_tup rfl (pgs_cons (pg_name (i := 3) sc_read_program.nd rfl (Or.inl rfl)) (pgs_cons (pg_name (i := 4) sc_read_program.nd rfl (Or.inl rfl)) pgs_nil)))
  (pss_cons (ps_if (pt_cmp (pc_dnotin (hu_of hr) (pv 4) (pe_fld (pv 2) rfl))) pss_dead pss_nil)
  (pss_cons (ps_if (pt_cmpR op_in_seq (pv 4) (pe_fld (pv 2) rfl) (by with_unfolding_all rfl)) pss_dead pss_nil)
  (pss_one (ps_expr (pe_bm PySem.F.plainAttrs_list PySem.F.slot_list_append PySem.F.type_list_append mt_append (pe_fld (pv 2) rfl) (pa_cons (pv 4) pa_nil)))))))
  (pss_cons (ps_if (pt_cmpR op_gt (pe_mX0 (met_Program_rows_run T) hr (by decide) pU (pv 2)) (pe_gint rfl (i_MOST_RUN T)) (nomark _)) pss_dead pss_nil)
  (pss_one (ps_ret (pv 2))))))))), ?_⟩
  try dsimp only [cxK]
  obtain ⟨text, ls, rfl, TO, SA, Fn, kq⟩ := h
  walk_at "rd"
  refine ⟨text, ls, rfl, TO, SA, ?_⟩
  generalize readM 0 DM0 ls = M at *
  intro d F A H1 sF S1 D
  have s01 : Same H H1 := fun x o e => S1 _ _ (sF _ _ e)
  obtain ⟨vi, i1, i2⟩ := D.i; obtain ⟨vr, r1, r2⟩ := D.r; obtain ⟨vo, o1, o2⟩ := D.u; obtain ⟨kvc, c1, c2, c3⟩ := D.c
  have i2 := i2.on S1
  have r2 := r2.on S1
  have o2 := o2.on S1
  have c3 := c3.on S1
  have dO := D.o
  walk_at "rd"
  refine r_fldO dO (c_Draft T) (na_Draft_width T) lkD_width ?_
  walk_at "rd"
  refine r_fldO dO (c_Draft T) (na_Draft_rows T) lkD_rows ?_
  walk_at "rd"
  intro a dx ha hdx hne
  refine ⟨a, dx, M.wd, A.r, rfl, upd_same, fun i o k H2 hi ho hk io ik ok i3 o3 k3 a3 f3 => ⟨rfl, ?_⟩⟩
  have fresh : ∀ x, x ≠ a → upd (upd H1 dx (.own a)) a (.ins (He.ga K "Program") dx []) x = none → H1 x = none := fun x x1 e => by
    rw [upd_ne x1] at e
    by_cases x2 : x = dx
    · rw [x2]; exact hdx
    · rwa [upd_ne x2] at e
  have ia : i ≠ a := fun z => by rw [z, upd_same] at hi; cases hi
  have oa : o ≠ a := fun z => by rw [z, upd_same] at ho; cases ho
  have ka : k ≠ a := fun z => by rw [z, upd_same] at hk; cases hk
  have hi1 := fresh i ia hi
  have ho1 := fresh o oa ho
  have hk1 := fresh k ka hk
  have s12 : Same H1 H2 := fun x u e => by
    rw [f3 x (ne_of_none e ha) (ne_of_none e hi1) (ne_of_none e ho1) (ne_of_none e hk1), upd_ne (ne_of_none e ha), upd_ne (ne_of_none e hdx)]; exact e
  clear f3 fresh
  walk_at "rd"
  refine r_forGf rfl (s12 _ _ dO) (c_Draft T) (na_Draft_inputs T) lkD_inputs (SqL.of (s12 _ _ i1)) (fun j σ' H' => (∃ z1 z2 z3, σ' = ((((((L2.start ["text", "draft", "program", "line", "name", "kind"] [V.str text]).set 1 (some (.ref d))).set 2 (some (.ref a))).set 3 z1).set 4 z2).set 5 z3)) ∧
    Same H1 H' ∧ H' a = some (.ins (He.ga K "Program") dx (progFs M.wd i A.r o k)) ∧ H' o = some (.lst []) ∧ (∃ us, H' i = some (.lst us) ∧ PinsAt K H' ((M.ins.take j).map Prod.snd) us) ∧ ∃ kvs, H' k = some (.dK kvs) ∧ KindsAt K H1 kvs ((M.ins.take j).map Prod.snd).reverse)
    ⟨⟨none, none, none, rfl⟩, s12, a3, o3, ⟨[], i3, rfl⟩, [], k3, by show (0 : Nat) ≤ 0; exact Nat.le_refl _, fun n => rfl⟩ (fun j σ' H' q => SqL.of (q.2.1 _ _ i1)) (fun j x σ' H' hx q => ?_) (fun σ' H' q => ?_)
  · obtain ⟨⟨z1, z2, z3, rfl⟩, s1, a4, o4, ⟨us, u1, u2⟩, kvs, k4, K4⟩ := q
    obtain ⟨ln, nm, kd, t, kk, el, rfl, et, Kk⟩ := i2.item hx
    have hj : j < M.ins.length := (List.getElem?_eq_some_iff.mp el).1
    have nin := ks0_none Fn.insN el
    refine r_gT3 (SqT.of (s1 _ _ et)) ?_
    walk_at "rd"
    refine r_din ?_
    walk_at "rd"
    refine r_fldO a4 (c_Program T) (na_Program_kinds T) lkQ_kinds ?_
    refine r_dinS k4 ?_
    rw [K4.non (n := nm) (by rw [nin]; decide)]
    walk_at "rd"
    refine r_fldO a4 (c_Program T) (na_Program_kinds T) lkQ_kinds ?_
    walk_at "rd"
    have kl : kvs.length ≤ 1000 := by
      have h1 := K4.1
      have h2 : ((M.ins.take j).map Prod.snd).reverse.length ≤ j := by rw [List.length_reverse, List.length_map, List.length_take]; exact Nat.min_le_left _ _
      have := Fn.insL
      omega
    have ul : us.length ≤ 1000 := by
      have h1 := u2.len
      rw [List.length_map, List.length_take] at h1
      have := Fn.insL
      omega
    refine r_dputS k4 (by omega) ?_
    have K5 := K4.put (n := nm) Kk
    have ak : a ≠ k := fun w => ka w.symm
    have a5 : upd H' k (.dK (putK kvs (Sum.inr nm) (.ref kk))) a = some (.ins (He.ga K "Program") dx (progFs M.wd i A.r o k)) := by rw [upd_ne ak]; exact a4
    have o5 : upd H' k (.dK (putK kvs (Sum.inr nm) (.ref kk))) o = some (.lst []) := by rw [upd_ne ok]; exact o4
    have u5 : upd H' k (.dK (putK kvs (Sum.inr nm) (.ref kk))) i = some (.lst us) := by rw [upd_ne ik]; exact u1
    have k5 : upd H' k (.dK (putK kvs (Sum.inr nm) (.ref kk))) k = some (.dK (putK kvs (Sum.inr nm) (.ref kk))) := upd_same
    have s5 : Same H1 (upd H' k (.dK (putK kvs (Sum.inr nm) (.ref kk)))) := same_updN s1 hk1
    have u2' : PinsAt K (upd H' k (.dK (putK kvs (Sum.inr nm) (.ref kk)))) ((M.ins.take j).map Prod.snd) us := u2.move
      (fun x C dx fs e => by rw [upd_ne (fun z => by rw [z, k4] at e; cases e)]; exact e) (fun x us e => by rw [upd_ne (fun z => by rw [z, k4] at e; cases e)]; exact e)
    generalize upd H' k (.dK (putK kvs (Sum.inr nm) (.ref kk))) = H5 at *
    walk_at "rd"
    refine r_fldO a5 (c_Program T) (na_Program_inputs T) lkQ_inputs ?_
    refine r_tyL (SqL.of u5) ?_
    walk_at "rd"
    refine r_newL fun tq htq => ?_
    have s6 := Same.new (o := .tup [.str nm, .ref kk]) htq
    have t6 : upd H5 tq (.tup [.str nm, .ref kk]) tq = some (.tup [.str nm, .ref kk]) := upd_same
    have u6 := u2'.on s6
    generalize upd H5 tq (.tup [.str nm, .ref kk]) = H6 at *
    walk_at "rd"
    have i6 := s6 _ _ u5
    refine r_app i6 (by omega) ?_
    have ki : k ≠ i := fun w => ik w.symm
    have oi : o ≠ i := fun w => io w.symm
    have ai : a ≠ i := fun w => ia w.symm
    have mi : ∀ x C dx fs, H6 x = some (.ins C dx fs) → upd H6 i (.lst (us ++ [.ref tq])) x = some (.ins C dx fs) := fun x C dx fs e => by rw [upd_ne (fun z => by rw [z, i6] at e; cases e)]; exact e
    have mt : ∀ x us', H6 x = some (.tup us') → upd H6 i (.lst (us ++ [.ref tq])) x = some (.tup us') := fun x us' e => by rw [upd_ne (fun z => by rw [z, i6] at e; cases e)]; exact e
    have Kq : KindAt K (upd H6 i (.lst (us ++ [.ref tq]))) kk kd := by
      obtain ⟨g, ddx, e⟩ := Kk
      exact ⟨g, ddx, mi _ _ _ _ (s6 _ _ (s5 _ _ e))⟩
    refine ⟨⟨_, _, _, rfl⟩, same_updN (fun x o e => s6 _ _ (s5 _ _ e)) hi1, by rw [upd_ne ai]; exact s6 _ _ a5, by rw [upd_ne oi]; exact s6 _ _ o5, ⟨_, upd_same, ?_⟩, _, by rw [upd_ne ki]; exact s6 _ _ k5, ?_⟩
    · rw [List.take_add_one, el, List.map_append]
      exact (u6.move mi mt).snoc (mt _ _ t6) Kq
    · rw [take_ks0 el]
      exact K5
  obtain ⟨⟨z1, z2, z3, rfl⟩, s1, a4, o4, ⟨us, u1, u2⟩, kvs, k4, K4⟩ := q
  have et : M.ins.take vi.length = M.ins := by rw [i2.len]; exact List.take_length
  rw [et] at K4 u2
  -- the second walk: all but the kinds is frozen
  have q1 : Same H1 (del H' k) := fun x u e => by
    rw [del_ne (ne_of_none e hk1)]; exact s1 _ _ e
  have q2 : Same (del H' k) H' := fun x u e => by
    by_cases z : x = k
    · subst z; rw [del_same] at e; cases e
    · rwa [del_ne z] at e
  have ak : a ≠ k := fun w => ka w.symm
  have a5 : del H' k a = some (.ins (He.ga K "Program") dx (progFs M.wd i A.r o k)) := by rw [del_ne ak]; exact a4
  have o5 : del H' k o = some (.lst []) := by rw [del_ne ok]; exact o4
  have u5 : del H' k i = some (.lst us) := by rw [del_ne ik]; exact u1
  have u6 : PinsAt K (del H' k) (M.ins.map Prod.snd) us := u2.move
    (fun x C dx fs e => by rw [del_ne (fun z => by rw [z, k4] at e; cases e)]; exact e) (fun x us e => by rw [del_ne (fun z => by rw [z, k4] at e; cases e)]; exact e)
  walk_at "rd"
  refine r_methO a4 rfl (lkQ_none (by decide +kernel)) ?_
  walk_at "rd"
  refine r_fldO (s1 _ _ dO) (c_Draft T) (na_Draft_rows T) lkD_rows ?_
  walk_at "rd"
  refine r_fldO (s1 _ _ dO) (c_Draft T) (na_Draft_chosen T) lkD_chosen ?_
  walk_at "rd"
  refine ⟨a, A.r, A.c, dx, i, A.r, o, k, M.wd, vr, M.rows, M.chosen, kvc, kvs, M.ks0, del H' k, rfl, ⟨q2, a5, q1 _ _ r1, r2.on q1, Fn.look, q1 _ _ c1, c3.on q1, del_same, k4, K4.on q1, by unfold DM.ks0; rw [List.length_reverse, List.length_map]; exact Fn.tot, Fn.w4, Fn.w32⟩, by have := Fn.dep; omega, ?_⟩
  intro F4 H4 kvs4 y1 y2 y3 y4 y5
  have b1 : ∀ x u, del H' k x = some u → H4 x = some u := fun x u e => y2 _ _ (y1 _ _ e)
  have s4 : Same H1 H4 := fun x u e => b1 _ _ (q1 _ _ e)
  have a6 := b1 _ _ a5
  have o6 := b1 _ _ o5
  walk_at "rd"
  refine r_forGf rfl (s4 _ _ dO) (c_Draft T) (na_Draft_outs T) lkD_outs (SqL.of (s4 _ _ o1)) (fun j σ' H' => (∃ z1 z2 z3, σ' = ((((((L2.start ["text", "draft", "program", "line", "name", "kind"] [V.str text]).set 1 (some (.ref d))).set 2 (some (.ref a))).set 3 z1).set 4 z2).set 5 z3)) ∧
    SameBut o H4 H' ∧ H' o = some (.lst (((M.outs.take j).map Prod.snd).map V.str)))
    ⟨⟨_, _, _, rfl⟩, fun _ _ _ e => e, o6⟩ (fun j σ' H' q => SqL.of (q.2.1 _ _ (ne_of_none o1 ho1) (s4 _ _ o1))) (fun j x σ' H' hx q => ?_) (fun σ' H' q => ?_)
  · obtain ⟨⟨z1, z2, z3, rfl⟩, s7, o7⟩ := q
    have ao : a ≠ o := fun w => oa w.symm
    have ko : k ≠ o := fun w => ok w.symm
    have a7 := s7 _ _ ao a6
    have k7 := s7 _ _ ko y4
    obtain ⟨ln, nm, t, el, rfl, et⟩ := o2.item hx
    have hj : j < M.outs.length := (List.getElem?_eq_some_iff.mp el).1
    have nin := nodup_take Fn.outN el
    have hin := Fn.outI nm (List.mem_map.mpr ⟨(ln, nm), List.mem_of_getElem? el, rfl⟩)
    obtain ⟨kk, ek, -⟩ := y5.get hin
    refine r_gT2 (SqT.of (s7 _ _ (ne_of_none et ho1) (s4 _ _ et))) ?_
    walk_at "rd"
    refine r_dnin ?_
    walk_at "rd"
    refine r_fldO a7 (c_Program T) (na_Program_kinds T) lkQ_kinds ?_
    refine r_dinS k7 ?_
    rw [ek]
    walk_at "rd"
    refine r_fldO a7 (c_Program T) (na_Program_outs T) lkQ_outs ?_
    walk_at "rd"
    refine r_inLs (SqL.of o7) ?_
    walk_at "rd"
    refine r_DF nin ?_
    walk_at "rd"
    refine r_fldO a7 (c_Program T) (na_Program_outs T) lkQ_outs ?_
    refine r_tyL (SqL.of o7) ?_
    walk_at "rd"
    refine r_app o7 (by rw [List.length_map, List.length_map, List.length_take]; have := Fn.outL; have := Nat.min_le_right j M.outs.length; omega) ?_
    refine ⟨⟨_, _, _, rfl⟩, s7.updL, ?_⟩
    rw [upd_same, take_snd el, List.map_append]
    rfl
  · obtain ⟨⟨z1, z2, z3, rfl⟩, s7, o7⟩ := q
    have eo : M.outs.take vo.length = M.outs := by rw [o2.len]; exact List.take_length
    rw [eo] at o7
    have ao : a ≠ o := fun w => oa w.symm
    have ko : k ≠ o := fun w => ok w.symm
    have a7 := s7 _ _ ao a6
    have k7 := s7 _ _ ko y4
    have s8 : Same H1 H' := fun x u e => s7 _ _ (ne_of_none e ho1) (s4 _ _ e)
    walk_at "rd"
    refine r_methO a7 rfl (lkQ_none (by decide +kernel)) ?_
    walk_at "rd"
    refine ⟨a, dx, M.wd, i, A.r, o, k, vr, M.rows, rfl, a7, s8 _ _ r1, r2.on s8, Fn.dep, Fn.sm, by have := Fn.cnt; omega, ?_⟩
    walk_at "rd"
    refine r_DF (by have := Fn.cnt; omega) ?_
    walk_at "rd"
    have mi : ∀ x C dx fs, H4 x = some (.ins C dx fs) → H' x = some (.ins C dx fs) := fun x C dx fs e => s7 _ _ (fun z => by rw [z, o6] at e; cases e) e
    have mt : ∀ x us, H4 x = some (.tup us) → H' x = some (.tup us) := fun x us e => s7 _ _ (fun z => by rw [z, o6] at e; cases e) e
    refine kq a H' (fun x u e => s8 _ _ (s01 _ _ e)) (s01.free ha) ⟨dx, i, A.r, o, k, us, vr, kvs4, a7, s7 _ _ io (b1 _ _ u5), ?_, s8 _ _ r1, r2.on s8, o7, k7, ?_⟩
    · exact u6.move (fun x C dx fs e => mi _ _ _ _ (b1 _ _ e)) (fun x us e => mt _ _ (b1 _ _ e))
    · exact y5.move (fun x C dx fs e => mi _ _ _ _ (y2 _ _ e))
theorem cal_read_program (T : Tx K mg) : CalX P w K mg base 41 "read_program" (sp_read_program K) [] := by
  obtain ⟨fd, F⟩ := fn_read_program T
  exact ⟨_, fd, _, [], ok_read_program T F, g_read_program T, F.kp, F.bindsN fun _ _ _ _ _ _ us hl => match us, hl with | [_], _ => rfl, .nil⟩

end
section
variable {P : Program} {w : World} {K : PySem.W.Frag} {mg : Str → Option Value} {base : Heap}
inductive WTag where
  | down | up | cut | near
  deriving DecidableEq
def WTag.word : WTag → Str
  | .down => "down"
  | .up => "up"
  | .cut => "cut"
  | .near => "near"
def clsW (K : PySem.W.Frag) : WTag → Addr
  | .down => He.ga K "Down"
  | .up => He.ga K "Up"
  | .cut => He.ga K "Cut"
  | .near => He.ga K "Near"
def In_Way (K : PySem.W.Frag) (C : Addr) : Prop := C = He.ga K "Down" ∨ C = He.ga K "Up" ∨ C = He.ga K "Cut" ∨ C = He.ga K "Near"
theorem in_way (K : PySem.W.Frag) (t : WTag) : In_Way K (clsW K t) := by
  cases t
  · exact .inl rfl
  · exact .inr (.inl rfl)
  · exact .inr (.inr (.inl rfl))
  · exact .inr (.inr (.inr rfl))
def WayAt (K : PySem.W.Frag) (H : Hp) (a : Addr) (t : WTag) : Prop := ∃ dx, H a = some (.ins (clsW K t) dx [])
theorem WayAt.on {K : PySem.W.Frag} {H H' : Hp} {a : Addr} {t : WTag} (h : WayAt K H a t) (s : Same H H') : WayAt K H' a t := by
  obtain ⟨dx, e⟩ := h
  exact ⟨dx, s _ _ e⟩
/-- whether the way goes one further -/
def WTag.adj (q r d : Int) (neg : Bool) : WTag → Bool
  | .down => neg && decide (0 < r)
  | .up => decide (0 < r) && !neg
  | .cut => false
  | .near => if r = d - r then decide (q % 2 = 1) else decide (d - r < r)
/-- a fraction rounded by a way -/
def WTag.round (w : WTag) (top bot : Int) : Int :=
  let q := (if top < 0 then -top else top) / bot
  let r := (if top < 0 then -top else top) % bot
  let q' := if w.adj q r bot (decide (top < 0)) = true then q + 1 else q
  if top < 0 then 0 - q' else q'
def sp_Way_adjust (K : PySem.W.Frag) (C : Addr) : Sp := fun vs H Q _ => ∃ a t q r d neg, C = clsW K t ∧ vs = [.ref a, .int q, .int r, .int d, .bl neg] ∧ Q (.bl (t.adj q r d neg)) H
theorem tag_down (T : Tx K mg) {t : WTag} (h : He.ga K "Down" = clsW K t) : t = .down := by
  cases t
  · rfl
  · exact absurd h (ne_Down_Up T)
  · exact absurd h (ne_Down_Cut T)
  · exact absurd h (ne_Down_Near T)
theorem tag_up (T : Tx K mg) {t : WTag} (h : He.ga K "Up" = clsW K t) : t = .up := by
  cases t
  · exact absurd h.symm (ne_Down_Up T)
  · rfl
  · exact absurd h (ne_Up_Cut T)
  · exact absurd h (ne_Up_Near T)
theorem tag_cut (T : Tx K mg) {t : WTag} (h : He.ga K "Cut" = clsW K t) : t = .cut := by
  cases t
  · exact absurd h.symm (ne_Down_Cut T)
  · exact absurd h.symm (ne_Up_Cut T)
  · rfl
  · exact absurd h (ne_Cut_Near T)
theorem tag_near (T : Tx K mg) {t : WTag} (h : He.ga K "Near" = clsW K t) : t = .near := by
  cases t
  · exact absurd h.symm (ne_Down_Near T)
  · exact absurd h.symm (ne_Up_Near T)
  · exact absurd h.symm (ne_Cut_Near T)
  · rfl

end
section
variable {P : Program} {w : World} {K : PySem.W.Frag} {mg : Str → Option Value} {base : Heap}

abbrev N_Down_adjust : List Str := ["self", "quotient", "rest", "divisor", "negative"]
theorem sc_Down_adjust : FnScope ["self", "quotient", "rest", "divisor", "negative"] ["self", "quotient", "rest", "divisor", "negative"] (defScope s_Down_adjust) := ⟨rfl, rfl, rfl, by decide +kernel, rfl, by decide +kernel, by decide +kernel⟩
theorem ok_Down_adjust {f : Addr} {fd : FuncData} (T : Tx K mg) {q0 : Bool} (F : FunP K "adjust" "Down.adjust" s_Down_adjust f fd) : FnOk P w K mg base (L2.CX P w) 1 f fd ["self", "quotient", "rest", "divisor", "negative"] (sp_Way_adjust K (He.ga K "Down")) := by
  refine F.ok sc_Down_adjust (fun vs H Q E h => ?_) (fun cdv A outer s H vs Q E hr h => ?_)
  · obtain ⟨a, t, q, r, d, neg, _, rfl, _⟩ := h
    rfl
  refine ⟨_, (pss_one (ps_ret (pe_and (pv 4) (pe_one (pe_cmpR op_gt (pv 2) pe_int (nomark _)))))), ?_⟩
  try dsimp only [cxK]
  obtain ⟨a, t, q, r, d, neg, hc, rfl, kq⟩ := h
  rw [tag_down T hc] at kq
  walk_at "rd"
  cases neg
  · walk_at "rd"
    exact kq
  · walk_at "rd"
    exact kq

end
section
variable {P : Program} {w : World} {K : PySem.W.Frag} {mg : Str → Option Value} {base : Heap}

abbrev N_Up_adjust : List Str := ["self", "quotient", "rest", "divisor", "negative"]
theorem sc_Up_adjust : FnScope ["self", "quotient", "rest", "divisor", "negative"] ["self", "quotient", "rest", "divisor", "negative"] (defScope s_Up_adjust) := ⟨rfl, rfl, rfl, by decide +kernel, rfl, by decide +kernel, by decide +kernel⟩
theorem ok_Up_adjust {f : Addr} {fd : FuncData} (T : Tx K mg) {q0 : Bool} (F : FunP K "adjust" "Up.adjust" s_Up_adjust f fd) : FnOk P w K mg base (L2.CX P w) 1 f fd ["self", "quotient", "rest", "divisor", "negative"] (sp_Way_adjust K (He.ga K "Up")) := by
  refine F.ok sc_Up_adjust (fun vs H Q E h => ?_) (fun cdv A outer s H vs Q E hr h => ?_)
  · obtain ⟨a, t, q, r, d, neg, _, rfl, _⟩ := h
    rfl
  refine ⟨_, (pss_one (ps_ret (pe_and (pe_cmpR op_gt (pv 2) pe_int (nomark _)) (pe_one (pe_not (pv 4)))))), ?_⟩
  try dsimp only [cxK]
  obtain ⟨a, t, q, r, d, neg, hc, rfl, kq⟩ := h
  rw [tag_up T hc] at kq
  walk_at "rd"
  have e : WTag.adj q r d neg .up = (decide (0 < r) && !neg) := rfl
  rw [e] at kq
  refine r_iteD (fun h => ?_) (fun h => ?_)
  · rw [decide_eq_true h, Bool.true_and] at kq
    walk_at "rd"
    exact kq
  · rw [decide_eq_false h, Bool.false_and] at kq
    walk_at "rd"
    exact kq

end
section
variable {P : Program} {w : World} {K : PySem.W.Frag} {mg : Str → Option Value} {base : Heap}

abbrev N_Way_adjust : List Str := ["self", "quotient", "rest", "divisor", "negative"]
theorem sc_Way_adjust : FnScope ["self", "quotient", "rest", "divisor", "negative"] ["self", "quotient", "rest", "divisor", "negative"] (defScope s_Way_adjust) := ⟨rfl, rfl, rfl, by decide +kernel, rfl, by decide +kernel, by decide +kernel⟩
theorem ok_Way_adjust {f : Addr} {fd : FuncData} (T : Tx K mg) {q0 : Bool} (F : FunP K "adjust" "Way.adjust" s_Way_adjust f fd) : FnOk P w K mg base (L2.CX P w) 1 f fd ["self", "quotient", "rest", "divisor", "negative"] (sp_Way_adjust K (He.ga K "Cut")) := by
  refine F.ok sc_Way_adjust (fun vs H Q E h => ?_) (fun cdv A outer s H vs Q E hr h => ?_)
  · obtain ⟨a, t, q, r, d, neg, _, rfl, _⟩ := h
    rfl
  refine ⟨_, (pss_one (ps_ret pe_bl)), ?_⟩
  try dsimp only [cxK]
  obtain ⟨a, t, q, r, d, neg, hc, rfl, kq⟩ := h
  rw [tag_cut T hc] at kq
  walk_at "rd"
  exact kq

end
section
variable {P : Program} {w : World} {K : PySem.W.Frag} {mg : Str → Option Value} {base : Heap}

abbrev N_Near_adjust : List Str := ["self", "quotient", "rest", "divisor", "negative"]
theorem sc_Near_adjust : FnScope ["self", "quotient", "rest", "divisor", "negative"] ["self", "quotient", "rest", "divisor", "negative"] (defScope s_Near_adjust) := ⟨rfl, rfl, rfl, by decide +kernel, rfl, by decide +kernel, by decide +kernel⟩
theorem ok_Near_adjust {f : Addr} {fd : FuncData} (T : Tx K mg) {q0 : Bool} (F : FunP K "adjust" "Near.adjust" s_Near_adjust f fd) : FnOk P w K mg base (L2.CX P w) 1 f fd ["self", "quotient", "rest", "divisor", "negative"] (sp_Way_adjust K (He.ga K "Near")) := by
  refine F.ok sc_Near_adjust (fun vs H Q E h => ?_) (fun cdv A outer s H vs Q E hr h => ?_)
  · obtain ⟨a, t, q, r, d, neg, _, rfl, _⟩ := h
    rfl
  refine ⟨_, (pss_cons (ps_if (pt_cmpR op_eq (pv 2) (pe_op op_sub (pv 3) (pv 2)) (nomark _)) (pss_one (ps_ret (pe_cmpR op_eq (pe_op op_mod (pv 1) pe_int) pe_int (nomark _)))) pss_nil)
  (pss_one (ps_ret (pe_cmpR op_gt (pv 2) (pe_op op_sub (pv 3) (pv 2)) (nomark _))))), ?_⟩
  try dsimp only [cxK]
  obtain ⟨a, t, q, r, d, neg, hc, rfl, kq⟩ := h
  rw [tag_near T hc] at kq
  have e : WTag.adj q r d neg .near = (if r = d - r then decide (q % 2 = 1) else decide (d - r < r)) := rfl
  rw [e] at kq
  walk_at "rd"
  refine r_iteD (fun h => ?_) (fun h => ?_)
  · rw [if_pos h] at kq
    walk_at "rd"
    refine r_I (by decide) ?_
    walk_at "rd"
    exact kq
  · rw [if_neg h] at kq
    walk_at "rd"
    exact kq
theorem met_Way_adjust (T : Tx K mg) : ∀ C, In_Way K C → MetX P w K mg base 1 C "adjust" (sp_Way_adjust K C) := by
  rintro C (rfl | rfl | rfl | rfl)
  · obtain ⟨fd, F⟩ := fn_Down_adjust T
    exact ⟨_, fd, _, c_Down T, m_Down_adjust T, ok_Down_adjust (q0 := true) T F, F.bindsN fun _ _ _ _ _ _ us hl => match us, hl with | [_, _, _, _, _], _ => rfl⟩
  · obtain ⟨fd, F⟩ := fn_Up_adjust T
    exact ⟨_, fd, _, c_Up T, m_Up_adjust T, ok_Up_adjust (q0 := true) T F, F.bindsN fun _ _ _ _ _ _ us hl => match us, hl with | [_, _, _, _, _], _ => rfl⟩
  · obtain ⟨fd, F⟩ := fn_Cut__adjust T
    exact ⟨_, fd, _, c_Cut T, m_Cut_adjust T, ok_Way_adjust (q0 := true) T F, F.bindsN fun _ _ _ _ _ _ us hl => match us, hl with | [_, _, _, _, _], _ => rfl⟩
  · obtain ⟨fd, F⟩ := fn_Near_adjust T
    exact ⟨_, fd, _, c_Near T, m_Near_adjust T, ok_Near_adjust (q0 := true) T F, F.bindsN fun _ _ _ _ _ _ us hl => match us, hl with | [_, _, _, _, _], _ => rfl⟩
end
section
variable {P : Program} {w : World} {K : PySem.W.Frag} {mg : Str → Option Value} {base : Heap}
def sp_Way_rounded (K : PySem.W.Frag) : Sp := fun vs H Q _ => ∃ a t top bot, vs = [.ref a, .int top, .int bot] ∧ WayAt K H a t ∧ 0 < bot ∧ bot ≤ 10000000000 ∧ Rt H Q (.int (t.round top bot))
theorem div_small {i j : Int} (h0 : 0 < j) (h1 : j ≤ 10000000000) : CDivP i j := ⟨h0, PyProof.noPylong_of_log2 (by
  have h : j.natAbs.log2 < 34 := (Nat.log2_lt (by omega)).mpr (by omega)
  omega)⟩
abbrev N_Way_rounded : List Str := ["self", "top", "bottom", "quotient", "rest"]
theorem sc_Way_rounded : FnScope ["self", "top", "bottom", "quotient", "rest"] ["self", "top", "bottom"] (defScope s_Way_rounded) := ⟨rfl, rfl, rfl, by decide +kernel, rfl, by decide +kernel, by decide +kernel⟩
theorem ok_Way_rounded {f : Addr} {fd : FuncData} (T : Tx K mg) {q0 : Bool} (F : FunP K "rounded" "Way.rounded" s_Way_rounded f fd) : FnOk P w K mg base (L2.CX P w) 2 f fd ["self", "top", "bottom"] (sp_Way_rounded K) := by
  refine F.ok sc_Way_rounded (fun vs H Q E h => ?_) (fun cdv A outer s H vs Q E hr h => ?_)
  · repeat first | (obtain ⟨e, _⟩ := h; subst e; rfl; done) | (obtain ⟨_, h⟩ := h)
  refine ⟨_, (pss_cons (ps_asg (pe_callB call_divmodW (by rfl) (fr_divmod T) (by decide +kernel) (pa_cons (pe_callB call_abs (by rfl) (fr_abs T) (by decide +kernel) (pa_cons (pv 1) pa_nil)) (pa_cons (pv 2) pa_nil))) (pg_tup rfl (pgs_cons (pg_name (i := 3) sc_Way_rounded.nd rfl (Or.inl rfl)) (pgs_cons (pg_name (i := 4) sc_Way_rounded.nd rfl (Or.inl rfl)) pgs_nil))))
  (pss_cons (ps_if (pt_val (pe_mX (met_Way_adjust T) hr (by decide) pU (pv 0) (pa_cons (pv 3) (pa_cons (pv 4) (pa_cons (pv 2) (pa_cons (pe_cmpR op_lt (pv 1) pe_int (nomark _)) pa_nil)))))) (pss_one (ps_set (i := 3) sc_Way_rounded.nd rfl (Or.inl rfl) (pe_op op_add (pv 3) pe_int))) pss_nil)
  (pss_cons (ps_if (pt_cmpR op_lt (pv 1) pe_int (nomark _)) (pss_one (ps_ret (pe_op op_sub pe_int (pv 3)))) pss_nil)
  (pss_one (ps_ret (pv 3)))))), ?_⟩
  try dsimp only [cxK]
  obtain ⟨a, t, top, bot, rfl, ha, h0, h1, kq⟩ := h
  obtain ⟨dx, ea⟩ := ha
  walk_at "rd"
  refine ⟨_, rfl, ?_⟩
  walk_at "rd"
  refine ⟨_, _, rfl, div_small h0 h1, fun p hp => ?_⟩
  have s1 := Same.new (o := .tup [V.int ((if top < 0 then -top else top) / bot), V.int ((if top < 0 then -top else top) % bot)]) hp
  refine r_gT2 (SqT.of upd_same) ?_
  have e1 := s1 _ _ ea
  generalize upd H p (.tup [V.int ((if top < 0 then -top else top) / bot), V.int ((if top < 0 then -top else top) % bot)]) = H1 at *
  have hr : WTag.round t top bot = (if top < 0 then 0 - (if t.adj ((if top < 0 then -top else top) / bot) ((if top < 0 then -top else top) % bot) bot (decide (top < 0)) = true then (if top < 0 then -top else top) / bot + 1 else (if top < 0 then -top else top) / bot) else
    (if t.adj ((if top < 0 then -top else top) / bot) ((if top < 0 then -top else top) % bot) bot (decide (top < 0)) = true then (if top < 0 then -top else top) / bot + 1 else (if top < 0 then -top else top) / bot)) := rfl
  rw [hr] at kq
  generalize (if top < 0 then -top else top) / bot = q at *
  generalize (if top < 0 then -top else top) % bot = r at *
  walk_at "rd"
  refine r_methO e1 (in_way K t) rfl ?_
  walk_at "rd"
  refine ⟨a, t, q, r, bot, decide (top < 0), rfl, rfl, ?_⟩
  walk_at "rd"
  refine r_iteB (fun hb => ?_) (fun hb => ?_)
  · rw [show (if t.adj q r bot (decide (top < 0)) = true then q + 1 else q) = q + 1 from if_pos hb] at kq
    walk_at "rd"
    refine r_iteD (fun hn => ?_) (fun hn => ?_)
    · rw [if_pos hn] at kq
      walk_at "rd"
      exact kq.go s1
    · rw [if_neg hn] at kq
      walk_at "rd"
      exact kq.go s1
  · rw [show (if t.adj q r bot (decide (top < 0)) = true then q + 1 else q) = q from if_neg (by rw [hb]; decide)] at kq
    walk_at "rd"
    refine r_iteD (fun hn => ?_) (fun hn => ?_)
    · rw [if_pos hn] at kq
      walk_at "rd"
      exact kq.go s1
    · rw [if_neg hn] at kq
      walk_at "rd"
      exact kq.go s1
theorem met_Way_rounded (T : Tx K mg) : ∀ C, In_Way K C → MetX P w K mg base 2 C "rounded" (sp_Way_rounded K) := by
  rintro C (rfl | rfl | rfl | rfl)
  · obtain ⟨fd, F⟩ := fn_Down__rounded T
    exact ⟨_, fd, _, c_Down T, m_Down_rounded T, ok_Way_rounded (q0 := true) T F, F.bindsN fun _ _ _ _ _ _ us hl => match us, hl with | [_, _, _], _ => rfl⟩
  · obtain ⟨fd, F⟩ := fn_Up__rounded T
    exact ⟨_, fd, _, c_Up T, m_Up_rounded T, ok_Way_rounded (q0 := true) T F, F.bindsN fun _ _ _ _ _ _ us hl => match us, hl with | [_, _, _], _ => rfl⟩
  · obtain ⟨fd, F⟩ := fn_Cut__rounded T
    exact ⟨_, fd, _, c_Cut T, m_Cut_rounded T, ok_Way_rounded (q0 := true) T F, F.bindsN fun _ _ _ _ _ _ us hl => match us, hl with | [_, _, _], _ => rfl⟩
  · obtain ⟨fd, F⟩ := fn_Near__rounded T
    exact ⟨_, fd, _, c_Near T, m_Near_rounded T, ok_Way_rounded (q0 := true) T F, F.bindsN fun _ _ _ _ _ _ us hl => match us, hl with | [_, _, _], _ => rfl⟩
end
section
variable {P : Program} {w : World} {K : PySem.W.Frag} {mg : Str → Option Value} {base : Heap}
def sp_all_ways (K : PySem.W.Frag) : Sp := fun vs H Q _ => vs = [] ∧ ∀ p H', H p = none → Same H H' → H' p = some (.lst ((["down", "up", "cut", "near"] : List Str).map V.str)) → Q (.ref p) H'
abbrev N_all_ways : List Str := []
theorem sc_all_ways : FnScope [] [] (defScope s_all_ways) := ⟨rfl, rfl, rfl, by decide +kernel, rfl, by decide +kernel, by decide +kernel⟩
theorem ok_all_ways {f : Addr} {fd : FuncData} (T : Tx K mg)  (F : FunP K "all_ways" "all_ways" s_all_ways f fd) : FnOk P w K mg base (L2.CX P w) 1 f fd [] (sp_all_ways K) := by
  refine F.ok sc_all_ways (fun vs H Q E h => ?_) (fun cdv A outer s H vs Q E hr h => ?_)
  · obtain ⟨rfl, _⟩ := h
    rfl
  refine ⟨_, (pss_one (ps_ret (pe_lst (pa_cons pe_str (pa_cons pe_str (pa_cons pe_str (pa_cons pe_str pa_nil))))))), ?_⟩
  try dsimp only [cxK]
  obtain ⟨rfl, kq⟩ := h
  walk_at "rd"
  refine r_newL fun q hq => ?_
  walk_at "rd"
  exact kq q _ hq (Same.new hq) upd_same
theorem cal_all_ways (T : Tx K mg) : CalX P w K mg base 1 "all_ways" (sp_all_ways K) [] := by
  obtain ⟨fd, F⟩ := fn_all_ways T
  exact ⟨_, fd, _, [], ok_all_ways T F, g_all_ways T, F.kp, F.bindsN fun _ _ _ _ _ _ us hl => match us, hl with | [], _ => rfl, .nil⟩

end
section
variable {P : Program} {w : World} {K : PySem.W.Frag} {mg : Str → Option Value} {base : Heap}
def sp_way_of (K : PySem.W.Frag) : Sp := fun vs H Q _ => ∃ t : WTag, vs = [.str t.word] ∧ ∀ a H', Same H H' → WayAt K H' a t → Q (.ref a) H'
abbrev N_way_of : List Str := ["word"]
theorem sc_way_of : FnScope ["word"] ["word"] (defScope s_way_of) := ⟨rfl, rfl, rfl, by decide +kernel, rfl, by decide +kernel, by decide +kernel⟩
theorem ok_way_of {f : Addr} {fd : FuncData} (T : Tx K mg)  (F : FunP K "way_of" "way_of" s_way_of f fd) : FnOk P w K mg base (L2.CX P w) 3 f fd ["word"] (sp_way_of K) := by
  refine F.ok sc_way_of (fun vs H Q E h => ?_) (fun cdv A outer s H vs Q E hr h => ?_)
  · repeat first | (obtain ⟨e, _⟩ := h; subst e; rfl; done) | (obtain ⟨_, h⟩ := h)
  refine ⟨_, (pss_cons (ps_if (PW.pt (pw_or (pt_not (pt_val (pe_callB call_isi (by rfl) (fr_isinstance T) (by decide +kernel) (pa_cons (pv 0) (pa_cons (pe_ty (n := "str") rfl (fr_str T) (by decide +kernel)) pa_nil))))) (pw_or1 (pt_cmpR op_notIn_seq (pv 0) (pe_cX0 (cal_all_ways T) hr (by decide) rfl pU) (by with_unfolding_all rfl))))) pss_dead pss_nil)
  (pss_cons (ps_if (pt_cmpR op_eq (pv 0) pe_str (nomark _)) (pss_one (ps_ret (pe_mk0 (mk0_Down T) rfl (g_Down T)))) pss_nil)
  (pss_cons (ps_if (pt_cmpR op_eq (pv 0) pe_str (nomark _)) (pss_one (ps_ret (pe_mk0 (mk0_Up T) rfl (g_Up T)))) pss_nil)
  (pss_cons (ps_if (pt_cmpR op_eq (pv 0) pe_str (nomark _)) (pss_one (ps_ret (pe_mk0 (mk0_Cut T) rfl (g_Cut T)))) pss_nil)
  (pss_one (ps_ret (pe_mk0 (mk0_Near T) rfl (g_Near T)))))))), ?_⟩
  try dsimp only [cxK]
  obtain ⟨t, rfl, kq⟩ := h
  have hin : t.word ∈ (["down", "up", "cut", "near"] : List Str) := by cases t <;> simp [WTag.word]
  walk_at "rd"
  refine r_isiStr ?_
  walk_at "rd"
  refine ⟨rfl, fun p H1 hp s1 e1 => ?_⟩
  walk_at "rd"
  refine r_ninLs (SqL.of e1) ?_
  walk_at "rd"
  refine r_NDT hin ?_
  have mk : ∀ (C : Addr) (x dx : Addr), C = clsW K t → H1 x = none → H1 dx = none → dx ≠ x → Q (.ref x) (upd (upd H1 dx (.own x)) x (.ins C dx [])) := fun C x dx hC hx hdx hne => by
    refine kq x _ ?_ ⟨dx, by rw [upd_same, hC]⟩
    have s2 : Same H1 (upd H1 dx (.own x)) := Same.new hdx
    exact s1.trans (s2.new' (by rw [upd_ne hne.symm]; exact hx))
  walk_at "rd"
  cases t with
  | down =>
    refine r_DT rfl ?_
    walk_at "rd"
    exact fun x dx hx hdx hne => mk _ x dx rfl hx hdx hne
  | up =>
    refine r_DF (by decide +kernel) ?_
    walk_at "rd"
    refine r_DT rfl ?_
    walk_at "rd"
    exact fun x dx hx hdx hne => mk _ x dx rfl hx hdx hne
  | cut =>
    refine r_DF (by decide +kernel) ?_
    walk_at "rd"
    refine r_DF (by decide +kernel) ?_
    walk_at "rd"
    refine r_DT rfl ?_
    walk_at "rd"
    exact fun x dx hx hdx hne => mk _ x dx rfl hx hdx hne
  | near =>
    refine r_DF (by decide +kernel) ?_
    walk_at "rd"
    refine r_DF (by decide +kernel) ?_
    walk_at "rd"
    refine r_DF (by decide +kernel) ?_
    walk_at "rd"
    exact fun x dx hx hdx hne => mk _ x dx rfl hx hdx hne
theorem cal_way_of (T : Tx K mg) : CalX P w K mg base 3 "way_of" (sp_way_of K) [] := by
  obtain ⟨fd, F⟩ := fn_way_of T
  exact ⟨_, fd, _, [], ok_way_of T F, g_way_of T, F.kp, F.bindsN fun _ _ _ _ _ _ us hl => match us, hl with | [_], _ => rfl, .nil⟩

end
section
variable {P : Program} {w : World} {K : PySem.W.Frag} {mg : Str → Option Value} {base : Heap}
def summedM (deed : Str) (wd x y : Int) : Int :=
  if deed ∈ (["add", "addstop"] : List Str) then x + y else if deed ∈ (["sub", "substop"] : List Str) then x - y else if deed = "low" then x * y else if deed = "high" then x * y / 2 ^ wd.toNat
  else if deed = "less" then (if x < y then 1 else 0) else if deed = "same" then (if x = y then 1 else 0) else if y = 0 then 2 ^ wd.toNat - 1 else x / y
def sp_summed (K : PySem.W.Frag) : Sp := fun vs H Q _ => ∃ a dx ln deed g r n way wd p x y, vs = [.ref a, .int wd, .ref p] ∧ H a = some (.ins (He.ga K "Row") dx (rowFs ln deed g r n way)) ∧ H p = some (.lst [.int x, .int y]) ∧ 4 ≤ wd ∧ wd ≤ 32 ∧
  (-10000000000 ≤ x ∧ x ≤ 10000000000) ∧ (-10000000000 ≤ y ∧ y ≤ 10000000000) ∧ (deed ∈ (["add", "addstop", "sub", "substop", "low", "high", "less", "same"] : List Str) ∨ 0 ≤ y) ∧ Rt H Q (.int (summedM deed wd x y))
theorem r_gL2 {σ : L2.St} {H : Hp} {K : PySem.W.Frag} {p : Addr} {x y : V} {n m : Nat} {N : L2.St → Hp → Prop} (hs : SqL K H p [x, y]) (h : N ((σ.set n (some x)).set m (some y)) H) : gLst K 2 (gCons (gName n) (gCons (gName m) gNil)) (.ref p) σ H N :=
  ⟨p, _, rfl, hs, rfl, x, _, rfl, y, _, rfl, rfl, h⟩
abbrev N_summed : List Str := ["row", "width", "counts", "one", "other"]
theorem sc_summed : FnScope ["row", "width", "counts", "one", "other"] ["row", "width", "counts"] (defScope s_summed) := ⟨rfl, rfl, rfl, by decide +kernel, rfl, by decide +kernel, by decide +kernel⟩
theorem ok_summed {f : Addr} {fd : FuncData} (T : Tx K mg)  (F : FunP K "summed" "summed" s_summed f fd) : FnOk P w K mg base (L2.CX P w) 1 f fd ["row", "width", "counts"] (sp_summed K) := by
  refine F.ok sc_summed (fun vs H Q E h => ?_) (fun cdv A outer s H vs Q E hr h => ?_)
  · repeat first | (obtain ⟨e, _⟩ := h; subst e; rfl; done) | (obtain ⟨_, h⟩ := h)
  refine ⟨_, (pss_cons (ps_asg (pv 2) (pg_lst rfl (pgs_cons (pg_name (i := 3) sc_summed.nd rfl (Or.inl rfl)) (pgs_cons (pg_name (i := 4) sc_summed.nd rfl (Or.inl rfl)) pgs_nil))))
  (pss_cons (ps_if (pt_cmpR op_in_seq (pe_fld (pv 0) rfl) (pe_tup (pa_cons pe_str (pa_cons pe_str pa_nil))) (by with_unfolding_all rfl)) (pss_one (ps_ret (pe_op op_add (pv 3) (pv 4)))) pss_nil)
  (pss_cons (ps_if (pt_cmpR op_in_seq (pe_fld (pv 0) rfl) (pe_tup (pa_cons pe_str (pa_cons pe_str pa_nil))) (by with_unfolding_all rfl)) (pss_one (ps_ret (pe_op op_sub (pv 3) (pv 4)))) pss_nil)
  (pss_cons (ps_if (pt_cmpR op_eq (pe_fld (pv 0) rfl) pe_str (nomark _)) (pss_one (ps_ret (pe_op op_mul (pv 3) (pv 4)))) pss_nil)
  (pss_cons (ps_if (pt_cmpR op_eq (pe_fld (pv 0) rfl) pe_str (nomark _)) (pss_one (ps_ret (pe_op op_shr (pe_op op_mul (pv 3) (pv 4)) (pv 1)))) pss_nil)
  (pss_cons (ps_if (pt_cmpR op_eq (pe_fld (pv 0) rfl) pe_str (nomark _)) (pss_one (ps_ret (pe_callTy call_int1 (by rfl) (fr_int T) (by decide +kernel) (pa_cons (pe_cmpR op_lt (pv 3) (pv 4) (nomark _)) pa_nil)))) pss_nil)
  (pss_cons (ps_if (pt_cmpR op_eq (pe_fld (pv 0) rfl) pe_str (nomark _)) (pss_one (ps_ret (pe_callTy call_int1 (by rfl) (fr_int T) (by decide +kernel) (pa_cons (pe_cmpR op_eq (pv 3) (pv 4) (nomark _)) pa_nil)))) pss_nil)
  (pss_cons (ps_if (pt_cmpR op_eq (pv 4) pe_int (nomark _)) (pss_one (ps_ret (pe_op op_sub (pe_op op_shl pe_int (pv 1)) pe_int))) pss_nil)
  (pss_one (ps_ret (pe_op op_fdivW (pv 3) (pv 4)))))))))))), ?_⟩
  try dsimp only [cxK]
  obtain ⟨a, dx, ln, deed, g, r, n, way, wd, p, x, y, rfl, ha, hp, h4, h32, hx, hy, hd, kq⟩ := h
  unfold summedM at kq
  walk_at "rd"
  refine r_gL2 (SqL.of hp) ?_
  walk_at "rd"
  refine r_fldO ha (c_Row T) (na_Row_deed T) lkR_deed ?_
  walk_at "rd"
  refine r_inNew ["add", "addstop"] (by decide) fun q1 H1 _ s1 => ?_
  have a1 := s1 _ _ ha
  walk_at "rd"
  refine r_iteD (fun c => ?_) (fun c1 => ?_)
  · rw [if_pos c] at kq
    walk_at "rd"
    exact kq.go s1
  rw [if_neg c1] at kq
  walk_at "rd"
  refine r_fldO a1 (c_Row T) (na_Row_deed T) lkR_deed ?_
  walk_at "rd"
  refine r_inNew ["sub", "substop"] (by decide) fun q2 H2 _ s2 => ?_
  have a2 := s2 _ _ a1
  have s12 := s1.trans s2
  walk_at "rd"
  refine r_iteD (fun c => ?_) (fun c2 => ?_)
  · rw [if_pos c] at kq
    walk_at "rd"
    exact kq.go s12
  rw [if_neg c2] at kq
  walk_at "rd"
  refine r_fldO a2 (c_Row T) (na_Row_deed T) lkR_deed ?_
  walk_at "rd"
  refine r_iteD (fun c => ?_) (fun c3 => ?_)
  · rw [if_pos c] at kq
    walk_at "rd"
    refine r_I (.inl ⟨by omega, by omega⟩) ?_
    walk_at "rd"
    exact kq.go s12
  rw [if_neg c3] at kq
  walk_at "rd"
  refine r_fldO a2 (c_Row T) (na_Row_deed T) lkR_deed ?_
  walk_at "rd"
  refine r_iteD (fun c => ?_) (fun c4 => ?_)
  · rw [if_pos c] at kq
    walk_at "rd"
    refine r_I (.inl ⟨by omega, by omega⟩) ?_
    walk_at "rd"
    refine r_I (show 0 ≤ wd by omega) ?_
    walk_at "rd"
    exact kq.go s12
  rw [if_neg c4] at kq
  walk_at "rd"
  refine r_fldO a2 (c_Row T) (na_Row_deed T) lkR_deed ?_
  walk_at "rd"
  refine r_iteD (fun c => ?_) (fun c5 => ?_)
  · rw [if_pos c] at kq
    walk_at "rd"
    refine r_intB ?_
    walk_at "rd"
    have e : (if decide (x < y) = true then (1 : Int) else 0) = (if x < y then 1 else 0) := by by_cases h : x < y <;> simp [h]
    rw [e]
    exact kq.go s12
  rw [if_neg c5] at kq
  walk_at "rd"
  refine r_fldO a2 (c_Row T) (na_Row_deed T) lkR_deed ?_
  walk_at "rd"
  refine r_iteD (fun c => ?_) (fun c6 => ?_)
  · rw [if_pos c] at kq
    walk_at "rd"
    refine r_intB ?_
    walk_at "rd"
    have e : (if decide (x = y) = true then (1 : Int) else 0) = (if x = y then 1 else 0) := by by_cases h : x = y <;> simp [h]
    rw [e]
    exact kq.go s12
  rw [if_neg c6] at kq
  have hy0 : 0 ≤ y := hd.resolve_left (by
    intro z
    simp only [List.mem_cons, List.not_mem_nil, or_false] at z c1 c2
    rcases z with h | h | h | h | h | h | h | h
    · exact c1 (.inl h)
    · exact c1 (.inr h)
    · exact c2 (.inl h)
    · exact c2 (.inr h)
    · exact c3 h
    · exact c4 h
    · exact c5 h
    · exact c6 h)
  walk_at "rd"
  refine r_iteD (fun c => ?_) (fun c7 => ?_)
  · rw [if_pos c] at kq
    walk_at "rd"
    refine r_I ⟨by omega, by omega, by decide⟩ ?_
    rw [Int.one_mul]
    walk_at "rd"
    exact kq.go s12
  · rw [if_neg c7] at kq
    walk_at "rd"
    refine r_I ⟨by omega, ?_⟩ ?_
    · have h : y.natAbs.log2 < 34 := (Nat.log2_lt (by omega)).mpr (by omega)
      omega
    walk_at "rd"
    exact kq.go s12
theorem cal_summed (T : Tx K mg) : CalX P w K mg base 1 "summed" (sp_summed K) [] := by
  obtain ⟨fd, F⟩ := fn_summed T
  exact ⟨_, fd, _, [], ok_summed T F, g_summed T, F.kp, F.bindsN fun _ _ _ _ _ _ us hl => match us, hl with | [_, _, _], _ => rfl, .nil⟩

end
section
variable {P : Program} {w : World} {K : PySem.W.Frag} {mg : Str → Option Value} {base : Heap}
def wayT (x : Str) : WTag := if x = "down" then .down else if x = "up" then .up else if x = "cut" then .cut else .near
theorem wayT_word {x : Str} (h : x ∈ (["down", "up", "cut", "near"] : List Str)) : (wayT x).word = x := by
  simp only [List.mem_cons, List.not_mem_nil, or_false] at h
  rcases h with rfl | rfl | rfl | rfl <;> decide +kernel
def num0 (ns : List Int) : Int := ns.getD 0 0
def num1 (ns : List Int) : Int := ns.getD 1 0
def movedM (q : RowM) (c : Int) : Int :=
  if q.deed = "left" then c * 2 ^ (num0 q.numbers).toNat else if q.deed = "right" then c / 2 ^ (num0 q.numbers).toNat else if q.deed = "div" then (wayT q.way).round c (num0 q.numbers)
  else if q.deed = "times" then (wayT q.way).round (c * num0 q.numbers) (num1 q.numbers) else if q.deed = "rest" then c % num0 q.numbers else if q.deed = "part" then c / num0 q.numbers else c
/-- what a row with one word read asks of its numbers -/
structure MoveOk (q : RowM) (c : Int) : Prop where
  lo : -10000000000 ≤ c
  hi : c ≤ 10000000000
  sh : (q.deed = "left" ∨ q.deed = "right") → ∃ n, q.numbers = [n] ∧ 0 ≤ n ∧ n ≤ 32
  dv : q.deed = "div" → q.way ∈ (["down", "up", "cut", "near"] : List Str) ∧ ∃ n, q.numbers = [n] ∧ 1 ≤ n ∧ n ≤ 10000000000
  tm : q.deed = "times" → q.way ∈ (["down", "up", "cut", "near"] : List Str) ∧ ∃ n m, q.numbers = [n, m] ∧ 0 ≤ n ∧ n ≤ 10000000000 ∧ 1 ≤ m ∧ m ≤ 10000000000
  rp : (q.deed = "rest" ∨ q.deed = "part") → ∃ n, q.numbers = [n] ∧ 1 ≤ n ∧ n ≤ 10000000000
def sp_moved (K : PySem.W.Frag) : Sp := fun vs H Q _ => ∃ a dx ln g r n q c, vs = [.ref a, .int c] ∧ H a = some (.ins (He.ga K "Row") dx (rowFs ln q.deed g r n q.way)) ∧ H n = some (.lst (q.numbers.map V.int)) ∧ MoveOk q c ∧ Rt H Q (.int (movedM q c))
abbrev N_moved : List Str := ["row", "count"]
theorem sc_moved : FnScope ["row", "count"] ["row", "count"] (defScope s_moved) := ⟨rfl, rfl, rfl, by decide +kernel, rfl, by decide +kernel, by decide +kernel⟩
theorem ok_moved {f : Addr} {fd : FuncData} (T : Tx K mg)  (F : FunP K "moved" "moved" s_moved f fd) : FnOk P w K mg base (L2.CX P w) 4 f fd ["row", "count"] (sp_moved K) := by
  refine F.ok sc_moved (fun vs H Q E h => ?_) (fun cdv A outer s H vs Q E hr h => ?_)
  · repeat first | (obtain ⟨e, _⟩ := h; subst e; rfl; done) | (obtain ⟨_, h⟩ := h)
  refine ⟨_, (pss_cons (ps_if (pt_cmpR op_eq (pe_fld (pv 0) rfl) pe_str (nomark _)) (pss_one (ps_ret (pe_op op_shl (pv 1) (pe_ix ix_list (pe_fld (pv 0) rfl) pe_int (fun _ _ => rfl))))) pss_nil)
  (pss_cons (ps_if (pt_cmpR op_eq (pe_fld (pv 0) rfl) pe_str (nomark _)) (pss_one (ps_ret (pe_op op_shr (pv 1) (pe_ix ix_list (pe_fld (pv 0) rfl) pe_int (fun _ _ => rfl))))) pss_nil)
  (pss_cons (ps_if (pt_cmpR op_eq (pe_fld (pv 0) rfl) pe_str (nomark _)) (pss_one (ps_ret (pe_mX (met_Way_rounded T) hr (by decide) pU (pe_cX (cal_way_of T) hr (by decide) rfl pU (pa_cons (pe_fld (pv 0) rfl) pa_nil)) (pa_cons (pv 1) (pa_cons (pe_ix ix_list (pe_fld (pv 0) rfl) pe_int (fun _ _ => rfl)) pa_nil))))) pss_nil)
  (pss_cons (ps_if (pt_cmpR op_eq (pe_fld (pv 0) rfl) pe_str (nomark _)) (pss_one (ps_ret (pe_mX (met_Way_rounded T) hr (by decide) pU (pe_cX (cal_way_of T) hr (by decide) rfl pU (pa_cons (pe_fld (pv 0) rfl) pa_nil)) (pa_cons (pe_op op_mul (pv 1) (pe_ix ix_list (pe_fld (pv 0) rfl) pe_int (fun _ _ => rfl))) (pa_cons (pe_ix ix_list (pe_fld (pv 0) rfl) pe_int (fun _ _ => rfl)) pa_nil))))) pss_nil)
  (pss_cons (ps_if (pt_cmpR op_eq (pe_fld (pv 0) rfl) pe_str (nomark _)) (pss_one (ps_ret (pe_op op_mod (pv 1) (pe_ix ix_list (pe_fld (pv 0) rfl) pe_int (fun _ _ => rfl))))) pss_nil)
  (pss_cons (ps_if (pt_cmpR op_eq (pe_fld (pv 0) rfl) pe_str (nomark _)) (pss_one (ps_ret (pe_op op_fdivW (pv 1) (pe_ix ix_list (pe_fld (pv 0) rfl) pe_int (fun _ _ => rfl))))) pss_nil)
  (pss_one (ps_ret (pv 1))))))))), ?_⟩
  try dsimp only [cxK]
  obtain ⟨a, dx, ln, g, r, n, q, c, rfl, ha, hn, M, kq⟩ := h
  have hlo := M.lo
  have hhi := M.hi
  unfold movedM at kq
  walk_at "rd"
  refine r_fldO ha (c_Row T) (na_Row_deed T) lkR_deed ?_
  walk_at "rd"
  refine r_iteD (fun c1 => ?_) (fun c1 => ?_)
  · rw [if_pos c1] at kq
    obtain ⟨m, em, m0, m1⟩ := M.sh (.inl c1)
    rw [em] at kq hn
    walk_at "rd"
    refine r_fldO ha (c_Row T) (na_Row_numbers T) lkR_numbers ?_
    walk_at "rd"
    refine r_ixL (SqL.of hn) at0 ?_
    refine r_I ⟨by omega, by omega, by omega⟩ ?_
    walk_at "rd"
    exact kq.go (Same.refl _)
  rw [if_neg c1] at kq
  walk_at "rd"
  refine r_fldO ha (c_Row T) (na_Row_deed T) lkR_deed ?_
  walk_at "rd"
  refine r_iteD (fun c2 => ?_) (fun c2 => ?_)
  · rw [if_pos c2] at kq
    obtain ⟨m, em, m0, m1⟩ := M.sh (.inr c2)
    rw [em] at kq hn
    walk_at "rd"
    refine r_fldO ha (c_Row T) (na_Row_numbers T) lkR_numbers ?_
    walk_at "rd"
    refine r_ixL (SqL.of hn) at0 ?_
    refine r_I (show 0 ≤ m by omega) ?_
    walk_at "rd"
    exact kq.go (Same.refl _)
  rw [if_neg c2] at kq
  walk_at "rd"
  refine r_fldO ha (c_Row T) (na_Row_deed T) lkR_deed ?_
  walk_at "rd"
  refine r_iteD (fun c3 => ?_) (fun c3 => ?_)
  · rw [if_pos c3] at kq
    obtain ⟨hw, m, em, m0, m1⟩ := M.dv c3
    rw [em] at kq hn
    walk_at "rd"
    refine r_fldO ha (c_Row T) (na_Row_way T) lkR_way ?_
    walk_at "rd"
    refine ⟨wayT q.way, by rw [wayT_word hw]; rfl, fun wa H1 s1 W => ?_⟩
    obtain ⟨wdx, ew⟩ := id W
    refine r_methO ew (in_way K _) rfl ?_
    walk_at "rd"
    refine r_fldO (s1 _ _ ha) (c_Row T) (na_Row_numbers T) lkR_numbers ?_
    walk_at "rd"
    refine r_ixL (SqL.of (s1 _ _ hn)) at0 ?_
    walk_at "rd"
    exact ⟨wa, _, c, m, rfl, W, by omega, by omega, fun H2 s2 => kq.go (s1.trans s2)⟩
  rw [if_neg c3] at kq
  walk_at "rd"
  refine r_fldO ha (c_Row T) (na_Row_deed T) lkR_deed ?_
  walk_at "rd"
  refine r_iteD (fun c4 => ?_) (fun c4 => ?_)
  · rw [if_pos c4] at kq
    obtain ⟨hw, m, m', em, m0, m1, m2, m3⟩ := M.tm c4
    rw [em] at kq hn
    walk_at "rd"
    refine r_fldO ha (c_Row T) (na_Row_way T) lkR_way ?_
    walk_at "rd"
    refine ⟨wayT q.way, by rw [wayT_word hw]; rfl, fun wa H1 s1 W => ?_⟩
    obtain ⟨wdx, ew⟩ := id W
    refine r_methO ew (in_way K _) rfl ?_
    walk_at "rd"
    refine r_fldO (s1 _ _ ha) (c_Row T) (na_Row_numbers T) lkR_numbers ?_
    walk_at "rd"
    refine r_ixL (SqL.of (s1 _ _ hn)) at0 ?_
    refine r_I (.inl ⟨by omega, by omega⟩) ?_
    walk_at "rd"
    refine r_fldO (s1 _ _ ha) (c_Row T) (na_Row_numbers T) lkR_numbers ?_
    walk_at "rd"
    refine r_ixL (SqL.of (s1 _ _ hn)) at1 ?_
    walk_at "rd"
    exact ⟨wa, _, c * m, m', rfl, W, by omega, by omega, fun H2 s2 => kq.go (s1.trans s2)⟩
  rw [if_neg c4] at kq
  walk_at "rd"
  refine r_fldO ha (c_Row T) (na_Row_deed T) lkR_deed ?_
  walk_at "rd"
  refine r_iteD (fun c5 => ?_) (fun c5 => ?_)
  · rw [if_pos c5] at kq
    obtain ⟨m, em, m0, m1⟩ := M.rp (.inl c5)
    rw [em] at kq hn
    walk_at "rd"
    refine r_fldO ha (c_Row T) (na_Row_numbers T) lkR_numbers ?_
    walk_at "rd"
    refine r_ixL (SqL.of hn) at0 ?_
    refine r_I (show 0 < m by omega) ?_
    walk_at "rd"
    exact kq.go (Same.refl _)
  rw [if_neg c5] at kq
  walk_at "rd"
  refine r_fldO ha (c_Row T) (na_Row_deed T) lkR_deed ?_
  walk_at "rd"
  refine r_iteD (fun c6 => ?_) (fun c6 => ?_)
  · rw [if_pos c6] at kq
    obtain ⟨m, em, m0, m1⟩ := M.rp (.inr c6)
    rw [em] at kq hn
    walk_at "rd"
    refine r_fldO ha (c_Row T) (na_Row_numbers T) lkR_numbers ?_
    walk_at "rd"
    refine r_ixL (SqL.of hn) at0 ?_
    refine r_I ⟨by omega, ?_⟩ ?_
    · have h : m.natAbs.log2 < 34 := (Nat.log2_lt (by omega)).mpr (by omega)
      omega
    walk_at "rd"
    exact kq.go (Same.refl _)
  rw [if_neg c6] at kq
  walk_at "rd"
  exact kq.go (Same.refl _)
theorem cal_moved (T : Tx K mg) : CalX P w K mg base 4 "moved" (sp_moved K) [] := by
  obtain ⟨fd, F⟩ := fn_moved T
  exact ⟨_, fd, _, [], ok_moved T F, g_moved T, F.kp, F.bindsN fun _ _ _ _ _ _ us hl => match us, hl with | [_, _], _ => rfl, .nil⟩

end
section
variable {P : Program} {w : World} {K : PySem.W.Frag} {mg : Str → Option Value} {base : Heap}
def sp_Kind_go_round (K : PySem.W.Frag) (_ : Addr) : Sp := fun vs H Q _ => ∃ a k n, vs = [.ref a, .int n] ∧ KindAt K H a k ∧ ∀ p H', Same H H' → H' p = some (.tup [.int (k.bitsOf n), .bl (!k.isCount n)]) → Q (.ref p) H'
abbrev N_Kind_go_round : List Str := ["self", "number"]
theorem sc_Kind_go_round : FnScope ["self", "number"] ["self", "number"] (defScope s_Kind_go_round) := ⟨rfl, rfl, rfl, by decide +kernel, rfl, by decide +kernel, by decide +kernel⟩
theorem ok_Kind_go_round {f : Addr} {fd : FuncData} (T : Tx K mg) {C : Addr} (F : FunP K "go_round" "Kind.go_round" s_Kind_go_round f fd) : FnOk P w K mg base (L2.CX P w) 3 f fd ["self", "number"] (sp_Kind_go_round K C) := by
  refine F.ok sc_Kind_go_round (fun vs H Q E h => ?_) (fun cdv A outer s H vs Q E hr h => ?_)
  · repeat first | (obtain ⟨e, _⟩ := h; subst e; rfl; done) | (obtain ⟨_, h⟩ := h)
  refine ⟨_, (pss_one (ps_ret (pe_tup (pa_cons (pe_op op_and (pv 1) (pe_op op_sub (pe_op op_shl pe_int (pe_fld (pv 0) rfl)) pe_int)) (pa_cons (pe_not (pe_mX (met_Kind_is_count T) hr (by decide) pU (pv 0) (pa_cons (pv 1) pa_nil))) pa_nil))))), ?_⟩
  try dsimp only [cxK]
  obtain ⟨a, k, n, rfl, ha, kq⟩ := h
  have h4 := ha.1.w4
  have h32 := ha.1.w32
  walk_at "rd"
  refine r_fldK ha (clsK T _) (naK_width T _) rfl ?_
  walk_at "rd"
  refine r_I ⟨by omega, by omega, by decide⟩ ?_
  rw [Int.one_mul]
  walk_at "rd"
  rw [PySem.W.kbt_mask]
  walk_at "rd"
  refine r_methK ha rfl ?_
  walk_at "rd"
  refine ⟨a, k, n, rfl, ha, ?_⟩
  walk_at "rd"
  refine r_newL fun q hq => ?_
  exact kq q _ (Same.new hq) upd_same
theorem met_Kind_go_round (T : Tx K mg) : ∀ C, In_Kind K C → MetX P w K mg base 3 C "go_round" (sp_Kind_go_round K C) := by
  rintro C (rfl | rfl | rfl)
  · obtain ⟨fd, F⟩ := fn_Plain__go_round T
    exact ⟨_, fd, _, c_Plain T, m_Plain_go_round T, ok_Kind_go_round T F, F.bindsN fun _ _ _ _ _ _ us hl => match us, hl with | [_, _], _ => rfl⟩
  · obtain ⟨fd, F⟩ := fn_Signed__go_round T
    exact ⟨_, fd, _, c_Signed T, m_Signed_go_round T, ok_Kind_go_round T F, F.bindsN fun _ _ _ _ _ _ us hl => match us, hl with | [_, _], _ => rfl⟩
  · obtain ⟨fd, F⟩ := fn_Pointed__go_round T
    exact ⟨_, fd, _, c_Pointed T, m_Pointed_go_round T, ok_Kind_go_round T F, F.bindsN fun _ _ _ _ _ _ us hl => match us, hl with | [_, _], _ => rfl⟩
end
section
variable {P : Program} {w : World} {K : PySem.W.Frag} {mg : Str → Option Value} {base : Heap}
/-- the nearest count -/
def KindM.nearest (k : KindM) (n : Int) : Int := if n < k.least then k.least else if k.greatest < n then k.greatest else n
def sp_Kind_stop_at (K : PySem.W.Frag) (_ : Addr) : Sp := fun vs H Q _ => ∃ a k n, vs = [.ref a, .int n] ∧ KindAt K H a k ∧ ∀ p H', Same H H' → H' p = some (.tup [.int (k.bitsOf (k.nearest n)), .bl (!decide (k.nearest n = n))]) → Q (.ref p) H'
theorem KindM.Good.ends {k : KindM} (g : k.Good) : k.least ≤ k.greatest := by
  have h8 := g.H8
  have b16 := g.B16
  unfold KindM.least KindM.greatest
  split <;> omega
theorem KindM.Good.near {k : KindM} (g : k.Good) (n : Int) : k.isCount (k.nearest n) = true := by
  have e := g.ends
  unfold KindM.isCount KindM.nearest
  rw [Bool.and_eq_true, decide_eq_true_eq, decide_eq_true_eq]
  split
  · exact ⟨Int.le_refl _, e⟩
  · split <;> omega
abbrev N_Kind_stop_at : List Str := ["self", "number", "nearest"]
theorem sc_Kind_stop_at : FnScope ["self", "number", "nearest"] ["self", "number"] (defScope s_Kind_stop_at) := ⟨rfl, rfl, rfl, by decide +kernel, rfl, by decide +kernel, by decide +kernel⟩
theorem ok_Kind_stop_at {f : Addr} {fd : FuncData} (T : Tx K mg) {C : Addr} (F : FunP K "stop_at" "Kind.stop_at" s_Kind_stop_at f fd) : FnOk P w K mg base (L2.CX P w) 4 f fd ["self", "number"] (sp_Kind_stop_at K C) := by
  refine F.ok sc_Kind_stop_at (fun vs H Q E h => ?_) (fun cdv A outer s H vs Q E hr h => ?_)
  · repeat first | (obtain ⟨e, _⟩ := h; subst e; rfl; done) | (obtain ⟨_, h⟩ := h)
  refine ⟨_, (pss_cons (ps_set (i := 2) sc_Kind_stop_at.nd rfl (Or.inl rfl) (pe_callB (call_max2 rfl) (by rfl) (fr_max T) (by decide +kernel) (pa_cons (pe_mX0 (met_Kind_least T) hr (by decide) pU (pv 0)) (pa_cons (pe_callB (call_min2 rfl) (by rfl) (fr_min T) (by decide +kernel) (pa_cons (pv 1) (pa_cons (pe_mX0 (met_Kind_greatest T) hr (by decide) pU (pv 0)) pa_nil))) pa_nil))))
  (pss_one (ps_ret (pe_tup (pa_cons (pe_mX (met_Kind_bits_of T) hr (by decide) pU (pv 0) (pa_cons (pv 2) pa_nil)) (pa_cons (pe_cmpR op_ne (pv 2) (pv 1) (nomark _)) pa_nil)))))), ?_⟩
  try dsimp only [cxK]
  obtain ⟨a, k, n, rfl, ha, kq⟩ := h
  have ee := ha.1.ends
  walk_at "rd"
  refine r_methK ha rfl ?_
  walk_at "rd"
  refine ⟨a, k, rfl, ha, rfl, ?_⟩
  walk_at "rd"
  refine r_methK ha rfl ?_
  walk_at "rd"
  refine ⟨a, k, rfl, ha, rfl, ?_⟩
  walk_at "rd"
  refine ⟨_, _, rfl, ?_⟩
  walk_at "rd"
  refine ⟨_, _, rfl, ?_⟩
  have e : (if (if k.greatest < n then k.greatest else n) > k.least then (if k.greatest < n then k.greatest else n) else k.least) = k.nearest n := by
    unfold KindM.nearest
    by_cases h1 : n < k.least
    · rw [if_pos h1, if_neg (show ¬ k.greatest < n by omega), if_neg (by omega)]
    · rw [if_neg h1]
      by_cases h2 : k.greatest < n
      · rw [if_pos h2]; split <;> omega
      · rw [if_neg h2]; split <;> omega
  rw [e]
  walk_at "rd"
  refine r_methK ha rfl ?_
  walk_at "rd"
  refine ⟨a, k, _, rfl, ha, ha.1.near n, ?_⟩
  walk_at "rd"
  refine r_newL fun q hq => ?_
  exact kq q _ (Same.new hq) upd_same
theorem met_Kind_stop_at (T : Tx K mg) : ∀ C, In_Kind K C → MetX P w K mg base 4 C "stop_at" (sp_Kind_stop_at K C) := by
  rintro C (rfl | rfl | rfl)
  · obtain ⟨fd, F⟩ := fn_Plain__stop_at T
    exact ⟨_, fd, _, c_Plain T, m_Plain_stop_at T, ok_Kind_stop_at T F, F.bindsN fun _ _ _ _ _ _ us hl => match us, hl with | [_, _], _ => rfl⟩
  · obtain ⟨fd, F⟩ := fn_Signed__stop_at T
    exact ⟨_, fd, _, c_Signed T, m_Signed_stop_at T, ok_Kind_stop_at T F, F.bindsN fun _ _ _ _ _ _ us hl => match us, hl with | [_, _], _ => rfl⟩
  · obtain ⟨fd, F⟩ := fn_Pointed__stop_at T
    exact ⟨_, fd, _, c_Pointed T, m_Pointed_stop_at T, ok_Kind_stop_at T F, F.bindsN fun _ _ _ _ _ _ us hl => match us, hl with | [_, _], _ => rfl⟩
end
section
variable {P : Program} {w : World} {K : PySem.W.Frag} {mg : Str → Option Value} {base : Heap}
/-- what a row's words ask: of one, two, three words read -/
structure ReckOk (q : RowM) (kd : KindM) (cs : List Int) : Prop where
  ar : cs.length = 1 ∨ cs.length = 2 ∨ cs.length = 3
  bd : ∀ c ∈ cs, -10000000000 ≤ c ∧ c ≤ 10000000000
  mu : q.deed = "mul" → cs.length = 2 ∧ q.way ∈ (["down", "up", "cut", "near"] : List Str)
  one : ∀ c, cs = [c] → MoveOk q c
  two : ∀ x y, cs = [x, y] → q.deed ≠ "mul" → q.deed ∈ (["add", "addstop", "sub", "substop", "low", "high", "less", "same"] : List Str) ∨ 0 ≤ y
def reckonedM (q : RowM) (kd : KindM) (cs : List Int) : Int :=
  if q.deed = "mul" then (wayT q.way).round (num0 cs * num1 cs) (2 ^ kd.p.toNat)
  else if cs.length = 3 then (if num0 cs = 0 then cs.getD 2 0 else num1 cs)
  else if cs.length = 2 then summedM q.deed kd.w (num0 cs) (num1 cs)
  else movedM q (num0 cs)
def sp_reckoned (K : PySem.W.Frag) : Sp := fun vs H Q _ => ∃ a dx ln g r n q k kd p cs, vs = [.ref a, .ref k, .ref p] ∧ H a = some (.ins (He.ga K "Row") dx (rowFs ln q.deed g r n q.way)) ∧ H n = some (.lst (q.numbers.map V.int)) ∧ KindAt K H k kd ∧
  H p = some (.lst (cs.map V.int)) ∧ ReckOk q kd cs ∧ Rt H Q (.int (reckonedM q kd cs))
abbrev N_reckoned : List Str := ["row", "kind", "counts"]
theorem sc_reckoned : FnScope ["row", "kind", "counts"] ["row", "kind", "counts"] (defScope s_reckoned) := ⟨rfl, rfl, rfl, by decide +kernel, rfl, by decide +kernel, by decide +kernel⟩
theorem ok_reckoned {f : Addr} {fd : FuncData} (T : Tx K mg)  (F : FunP K "reckoned" "reckoned" s_reckoned f fd) : FnOk P w K mg base (L2.CX P w) 5 f fd ["row", "kind", "counts"] (sp_reckoned K) := by
  refine F.ok sc_reckoned (fun vs H Q E h => ?_) (fun cdv A outer s H vs Q E hr h => ?_)
  · repeat first | (obtain ⟨e, _⟩ := h; subst e; rfl; done) | (obtain ⟨_, h⟩ := h)
  refine ⟨_, (pss_cons (ps_if (pt_cmpR op_eq (pe_fld (pv 0) rfl) pe_str (nomark _)) (pss_one (ps_ret (pe_mX (met_Way_rounded T) hr (by decide) pU (pe_cX (cal_way_of T) hr (by decide) rfl pU (pa_cons (pe_fld (pv 0) rfl) pa_nil)) (pa_cons (pe_op op_mul (pe_ix ix_list (pv 2) pe_int (fun _ _ => rfl)) (pe_ix ix_list (pv 2) pe_int (fun _ _ => rfl))) (pa_cons (pe_op op_shl pe_int (pe_fld (pv 1) rfl)) pa_nil))))) pss_nil)
  (pss_cons (ps_if (pt_cmpR op_eq (pe_callB call_len_seq (by rfl) (fr_len T) (by decide +kernel) (pa_cons (pv 2) pa_nil)) pe_int (nomark _)) (pss_one (ps_ret (pe_ix ix_list (pv 2) (pe_op op_add pe_int (pe_callTy call_int1 (by rfl) (fr_int T) (by decide +kernel) (pa_cons (pe_cmpR op_eq (pe_ix ix_list (pv 2) pe_int (fun _ _ => rfl)) pe_int (nomark _)) pa_nil))) (fun _ _ => rfl)))) pss_nil)
  (pss_cons (ps_if (pt_cmpR op_eq (pe_callB call_len_seq (by rfl) (fr_len T) (by decide +kernel) (pa_cons (pv 2) pa_nil)) pe_int (nomark _)) (pss_one (ps_ret (pe_cX (cal_summed T) hr (by decide) rfl pU (pa_cons (pv 0) (pa_cons (pe_fld (pv 1) rfl) (pa_cons (pv 2) pa_nil)))))) pss_nil)
  (pss_one (ps_ret (pe_cX (cal_moved T) hr (by decide) rfl pU (pa_cons (pv 0) (pa_cons (pe_ix ix_list (pv 2) pe_int (fun _ _ => rfl)) pa_nil)))))))), ?_⟩
  try dsimp only [cxK]
  obtain ⟨a, dx, ln, g, r, n, q, k, kd, p, cs, rfl, ha, hn, hk, hp, R, kq⟩ := h
  have h4 := hk.1.w4
  have h32 := hk.1.w32
  have hpp := hk.1.pp
  unfold reckonedM at kq
  walk_at "rd"
  refine r_fldO ha (c_Row T) (na_Row_deed T) lkR_deed ?_
  walk_at "rd"
  refine r_iteD (fun c1 => ?_) (fun c1 => ?_)
  · rw [if_pos c1] at kq
    obtain ⟨l2, hw⟩ := R.mu c1
    match cs, l2, hp, R, kq with
    | [x, y], _, hp, R, kq =>
      have bx := R.bd x (by simp)
      have bY := R.bd y (by simp)
      walk_at "rd"
      refine r_fldO ha (c_Row T) (na_Row_way T) lkR_way ?_
      walk_at "rd"
      refine ⟨wayT q.way, by rw [wayT_word hw]; rfl, fun wa H1 s1 W => ?_⟩
      obtain ⟨wdx, ew⟩ := id W
      refine r_methO ew (in_way K _) rfl ?_
      walk_at "rd"
      refine r_ixL (SqL.of (s1 _ _ hp)) at0 ?_
      walk_at "rd"
      refine r_ixL (SqL.of (s1 _ _ hp)) at1 ?_
      refine r_I (.inl ⟨by omega, by omega⟩) ?_
      walk_at "rd"
      refine r_fldK (hk.on s1) (clsK T _) (naK_point T _) rfl ?_
      walk_at "rd"
      refine r_I ⟨by omega, by omega, by decide⟩ ?_
      rw [Int.one_mul]
      walk_at "rd"
      refine ⟨wa, _, x * y, _, rfl, W, pow_pos' _, ?_, fun H2 s2 => kq.go (s1.trans s2)⟩
      have := pow_le32 (n := kd.p.toNat) (by omega)
      omega
  rw [if_neg c1] at kq
  walk_at "rd"
  refine r_lenL (SqL.of hp) ?_
  rw [List.length_map]
  walk_at "rd"
  refine r_iteD (fun c2 => ?_) (fun c2 => ?_)
  · have c2 : cs.length = 3 := by omega
    rw [if_pos c2] at kq
    match cs, c2, hp, R, kq with
    | [x, y, z], _, hp, R, kq =>
      walk_at "rd"
      refine r_ixL (SqL.of hp) at0 ?_
      walk_at "rd"
      refine r_intB ?_
      walk_at "rd"
      by_cases hx : x = 0
      · rw [decide_eq_true hx]
        refine r_ixL (SqL.of hp) at2 ?_
        rw [show (if num0 [x, y, z] = 0 then List.getD [x, y, z] 2 0 else num1 [x, y, z]) = z from if_pos hx] at kq
        exact kq.go (Same.refl _)
      · rw [decide_eq_false hx]
        refine r_ixL (SqL.of hp) at1 ?_
        rw [show (if num0 [x, y, z] = 0 then List.getD [x, y, z] 2 0 else num1 [x, y, z]) = y from if_neg hx] at kq
        exact kq.go (Same.refl _)
  rw [if_neg (show ¬ cs.length = 3 by omega)] at kq
  walk_at "rd"
  refine r_lenL (SqL.of hp) ?_
  rw [List.length_map]
  walk_at "rd"
  refine r_iteD (fun c3 => ?_) (fun c3 => ?_)
  · have c3 : cs.length = 2 := by omega
    rw [if_pos c3] at kq
    match cs, c3, hp, R, kq with
    | [x, y], _, hp, R, kq =>
      walk_at "rd"
      refine r_fldK hk (clsK T _) (naK_width T _) rfl ?_
      walk_at "rd"
      exact ⟨a, dx, ln, q.deed, g, r, n, q.way, kd.w, p, x, y, rfl, ha, hp, h4, h32, R.bd x (by simp), R.bd y (by simp), R.two x y rfl c1, kq⟩
  rw [if_neg (show ¬ cs.length = 2 by omega)] at kq
  have c4 : cs.length = 1 := by have := R.ar; omega
  match cs, c4, hp, R, kq with
  | [x], _, hp, R, kq =>
    walk_at "rd"
    refine r_ixL (SqL.of hp) at0 ?_
    walk_at "rd"
    exact ⟨a, dx, ln, g, r, n, q, x, rfl, ha, hn, R.one x rfl, kq⟩
theorem cal_reckoned (T : Tx K mg) : CalX P w K mg base 5 "reckoned" (sp_reckoned K) [] := by
  obtain ⟨fd, F⟩ := fn_reckoned T
  exact ⟨_, fd, _, [], ok_reckoned T F, g_reckoned T, F.kp, F.bindsN fun _ _ _ _ _ _ us hl => match us, hl with | [_, _, _], _ => rfl, .nil⟩

end
section
variable {P : Program} {w : World} {K : PySem.W.Frag} {mg : Str → Option Value} {base : Heap}
def ROUNDS : List Str := ["add", "sub", "low", "left"]
def STOPS : List Str := ["addstop", "substop", "mul"]
/-- a row's bits and mark -/
def workedM (q : RowM) (kd : KindM) (cs : List Int) : Int × Str :=
  if q.deed = "set" then (num0 q.numbers, "")
  else if q.deed ∈ ROUNDS then (kd.bitsOf (reckonedM q kd cs), if kd.isCount (reckonedM q kd cs) = true then "" else "round")
  else if q.deed ∈ STOPS then (kd.bitsOf (kd.nearest (reckonedM q kd cs)), if kd.nearest (reckonedM q kd cs) = reckonedM q kd cs then "" else "stop")
  else if q.deed = "over" ∧ num1 cs = 0 then (reckonedM q kd cs, "nothing")
  else (kd.bitsOf (reckonedM q kd cs), "")
structure WorkOk (q : RowM) (kd : KindM) (cs : List Int) : Prop where
  st : q.deed = "set" → ∃ n, q.numbers = [n]
  rk : q.deed ≠ "set" → ReckOk q kd cs
  ov : q.deed = "over" → cs.length = 2
  ct : q.deed ≠ "set" → q.deed ∉ ROUNDS → q.deed ∉ STOPS → ¬ (q.deed = "over" ∧ num1 cs = 0) → kd.isCount (reckonedM q kd cs) = true
def sp_worked (K : PySem.W.Frag) : Sp := fun vs H Q _ => ∃ a dx ln g r n q k kd p cs, vs = [.ref a, .ref k, .ref p] ∧ H a = some (.ins (He.ga K "Row") dx (rowFs ln q.deed g r n q.way)) ∧ H n = some (.lst (q.numbers.map V.int)) ∧ KindAt K H k kd ∧
  H p = some (.lst (cs.map V.int)) ∧ WorkOk q kd cs ∧ ∀ t H', Same H H' → H' t = some (.tup [.int (workedM q kd cs).1, .str (workedM q kd cs).2]) → Q (.ref t) H'
abbrev N_worked : List Str := ["row", "kind", "counts", "number", "bits", "beyond"]
theorem sc_worked : FnScope ["row", "kind", "counts", "number", "bits", "beyond"] ["row", "kind", "counts"] (defScope s_worked) := ⟨rfl, rfl, rfl, by decide +kernel, rfl, by decide +kernel, by decide +kernel⟩
theorem ok_worked {f : Addr} {fd : FuncData} (T : Tx K mg)  (F : FunP K "worked" "worked" s_worked f fd) : FnOk P w K mg base (L2.CX P w) 6 f fd ["row", "kind", "counts"] (sp_worked K) := by
  refine F.ok sc_worked (fun vs H Q E h => ?_) (fun cdv A outer s H vs Q E hr h => ?_)
  · repeat first | (obtain ⟨e, _⟩ := h; subst e; rfl; done) | (obtain ⟨_, h⟩ := h)
  refine ⟨_, (pss_cons (ps_if (pt_cmpR op_eq (pe_fld (pv 0) rfl) pe_str (nomark _)) (pss_one (ps_ret (pe_tup (pa_cons (pe_ix ix_list (pe_fld (pv 0) rfl) pe_int (fun _ _ => rfl)) (pa_cons pe_str pa_nil))))) pss_nil)
  (pss_cons (ps_set (i := 3) sc_worked.nd rfl (Or.inl rfl) (pe_cX (cal_reckoned T) hr (by decide) rfl pU (pa_cons (pv 0) (pa_cons (pv 1) (pa_cons (pv 2) pa_nil)))))
  (pss_cons (ps_if (pt_cmpR op_in_seq (pe_fld (pv 0) rfl) (pe_gref rfl (g_ROUND_DEEDS T)) (by with_unfolding_all rfl)) (pss_cons (ps_asg (pe_mX (met_Kind_go_round T) hr (by decide) pU (pv 1) (pa_cons (pv 3) pa_nil)) (pg_tup rfl (pgs_cons (pg_name (i := 4) sc_worked.nd rfl (Or.inl rfl)) (pgs_cons (pg_name (i := 5) sc_worked.nd rfl (Or.inl rfl)) pgs_nil))))
  (pss_one (ps_ret (pe_tup (pa_cons (pv 4) (pa_cons (pe_ix ix_list (pe_lst (pa_cons pe_str (pa_cons pe_str pa_nil))) (pe_callTy call_int1 (by rfl) (fr_int T) (by decide +kernel) (pa_cons (pv 5) pa_nil)) (fun _ _ => rfl)) pa_nil)))))) pss_nil)
  (pss_cons (ps_if (pt_cmpR op_in_seq (pe_fld (pv 0) rfl) (pe_gref rfl (g_STOP_DEEDS T)) (by with_unfolding_all rfl)) (pss_cons (ps_asg (pe_mX (met_Kind_stop_at T) hr (by decide) pU (pv 1) (pa_cons (pv 3) pa_nil)) (pg_tup rfl (pgs_cons (pg_name (i := 4) sc_worked.nd rfl (Or.inl rfl)) (pgs_cons (pg_name (i := 5) sc_worked.nd rfl (Or.inl rfl)) pgs_nil))))
  (pss_one (ps_ret (pe_tup (pa_cons (pv 4) (pa_cons (pe_ix ix_list (pe_lst (pa_cons pe_str (pa_cons pe_str pa_nil))) (pe_callTy call_int1 (by rfl) (fr_int T) (by decide +kernel) (pa_cons (pv 5) pa_nil)) (fun _ _ => rfl)) pa_nil)))))) pss_nil)
  (pss_cons (ps_if (PW.pt (pw_and (pt_cmpR op_eq (pe_fld (pv 0) rfl) pe_str (nomark _)) (pw_and1 (pt_cmpR op_eq (pe_ix ix_list (pv 2) pe_int (fun _ _ => rfl)) pe_int (nomark _))))) (pss_one (ps_ret (pe_tup (pa_cons (pv 3) (pa_cons pe_str pa_nil))))) pss_nil)
  (pss_one (ps_ret (pe_tup (pa_cons (pe_mX (met_Kind_bits_of T) hr (by decide) pU (pv 1) (pa_cons (pv 3) pa_nil)) (pa_cons pe_str pa_nil)))))))))), ?_⟩
  try dsimp only [cxK]
  obtain ⟨a, dx, ln, g, r, n, q, k, kd, p, cs, rfl, ha, hn, hk, hp, W, kq⟩ := h
  unfold workedM at kq
  walk_at "rd"
  refine r_fldO ha (c_Row T) (na_Row_deed T) lkR_deed ?_
  walk_at "rd"
  refine r_iteD (fun c1 => ?_) (fun c1 => ?_)
  · rw [if_pos c1] at kq
    obtain ⟨m, em⟩ := W.st c1
    rw [em] at kq hn
    walk_at "rd"
    refine r_fldO ha (c_Row T) (na_Row_numbers T) lkR_numbers ?_
    walk_at "rd"
    refine r_ixL (SqL.of hn) at0 ?_
    walk_at "rd"
    refine r_newL fun t ht => ?_
    exact kq t _ (Same.new ht) upd_same
  rw [if_neg c1] at kq
  have R := W.rk c1
  have hct := W.ct c1
  generalize hv : reckonedM q kd cs = v at *
  walk_at "rd"
  refine ⟨a, dx, ln, g, r, n, q, k, kd, p, cs, rfl, ha, hn, hk, hp, R, fun H1 s1 => ?_⟩
  rw [hv]
  have a1 := s1 _ _ ha
  have k1 := hk.on s1
  walk_at "rd"
  refine r_fldO a1 (c_Row T) (na_Row_deed T) lkR_deed ?_
  walk_at "rd"
  refine r_inTp (l := ROUNDS) (tp_ROUND_DEEDS T _) ?_
  walk_at "rd"
  refine r_iteD (fun c2 => ?_) (fun c2 => ?_)
  · rw [if_pos c2] at kq
    walk_at "rd"
    refine r_methK k1 rfl ?_
    walk_at "rd"
    refine ⟨k, kd, v, rfl, k1, fun t H2 s2 e2 => ?_⟩
    refine r_gT2 (SqT.of e2) ?_
    walk_at "rd"
    refine r_newL fun q3 hq3 => ?_
    have s3 := Same.new (o := .lst [V.str "", V.str "round"]) hq3
    have e3 : upd H2 q3 (.lst [V.str "", V.str "round"]) q3 = some (.lst [V.str "", V.str "round"]) := upd_same
    generalize upd H2 q3 (.lst [V.str "", V.str "round"]) = H3 at *
    walk_at "rd"
    refine r_intB ?_
    cases hc : kd.isCount v with
    | true =>
      rw [hc, if_pos rfl] at kq
      refine r_ixL (SqL.of e3) at0 ?_
      walk_at "rd"
      refine r_newL fun t4 ht4 => ?_
      exact kq t4 _ (s1.trans (s2.trans (s3.new' ht4))) upd_same
    | false =>
      rw [hc, if_neg (by decide)] at kq
      refine r_ixL (SqL.of e3) at1 ?_
      walk_at "rd"
      refine r_newL fun t4 ht4 => ?_
      exact kq t4 _ (s1.trans (s2.trans (s3.new' ht4))) upd_same
  rw [if_neg c2] at kq
  walk_at "rd"
  refine r_fldO a1 (c_Row T) (na_Row_deed T) lkR_deed ?_
  walk_at "rd"
  refine r_inTp (l := STOPS) (tp_STOP_DEEDS T _) ?_
  walk_at "rd"
  refine r_iteD (fun c3 => ?_) (fun c3 => ?_)
  · rw [if_pos c3] at kq
    walk_at "rd"
    refine r_methK k1 rfl ?_
    walk_at "rd"
    refine ⟨k, kd, v, rfl, k1, fun t H2 s2 e2 => ?_⟩
    refine r_gT2 (SqT.of e2) ?_
    walk_at "rd"
    refine r_newL fun q3 hq3 => ?_
    have s3 := Same.new (o := .lst [V.str "", V.str "stop"]) hq3
    have e3 : upd H2 q3 (.lst [V.str "", V.str "stop"]) q3 = some (.lst [V.str "", V.str "stop"]) := upd_same
    generalize upd H2 q3 (.lst [V.str "", V.str "stop"]) = H3 at *
    walk_at "rd"
    refine r_intB ?_
    by_cases hc : kd.nearest v = v
    · rw [if_pos hc] at kq
      rw [decide_eq_true hc]
      refine r_ixL (SqL.of e3) at0 ?_
      walk_at "rd"
      refine r_newL fun t4 ht4 => ?_
      exact kq t4 _ (s1.trans (s2.trans (s3.new' ht4))) upd_same
    · rw [if_neg hc] at kq
      rw [decide_eq_false hc]
      refine r_ixL (SqL.of e3) at1 ?_
      walk_at "rd"
      refine r_newL fun t4 ht4 => ?_
      exact kq t4 _ (s1.trans (s2.trans (s3.new' ht4))) upd_same
  rw [if_neg c3] at kq
  walk_at "rds"
  refine r_ifB (decide (q.deed = "over" ∧ num1 cs = 0)) (fun B kB => ?_) (fun H2 s2 => ?_)
  · walk_at "rd"
    refine r_fldO a1 (c_Row T) (na_Row_deed T) lkR_deed ?_
    walk_at "rd"
    refine r_iteD (fun c4 => ?_) (fun c4 => ?_)
    · have h2 := W.ov c4
      have p1 := s1 _ _ hp
      match cs, h2, p1, kB with
      | [x, y], _, p1, kB =>
        walk_at "rd"
        refine r_ixL (SqL.of p1) at1 ?_
        walk_at "rd"
        have e : decide (y = 0) = decide (q.deed = "over" ∧ num1 [x, y] = 0) := decide_eq_decide.mpr ⟨fun h => ⟨c4, h⟩, fun h => h.2⟩
        rw [e]
        exact kB _ (Same.refl _)
    · have e : decide (q.deed = "over" ∧ num1 cs = 0) = false := decide_eq_false fun h => c4 h.1
      rw [← e]
      exact kB _ (Same.refl _)
  have s12 := s1.trans s2
  refine r_iteD (fun c4 => ?_) (fun c4 => ?_)
  · rw [if_pos c4] at kq
    walk_at "rd"
    refine r_newL fun t4 ht4 => ?_
    exact kq t4 _ (s12.new' ht4) upd_same
  · rw [if_neg c4] at kq
    walk_at "rd"
    refine r_methK (hk.on s12) rfl ?_
    walk_at "rd"
    refine ⟨k, kd, v, rfl, hk.on s12, hct c2 c3 c4, ?_⟩
    walk_at "rd"
    refine r_newL fun t4 ht4 => ?_
    exact kq t4 _ (s12.new' ht4) upd_same
theorem cal_worked (T : Tx K mg) : CalX P w K mg base 6 "worked" (sp_worked K) [] := by
  obtain ⟨fd, F⟩ := fn_worked T
  exact ⟨_, fd, _, [], ok_worked T F, g_worked T, F.kp, F.bindsN fun _ _ _ _ _ _ us hl => match us, hl with | [_, _, _], _ => rfl, .nil⟩

end
section
variable {P : Program} {w : World} {K : PySem.W.Frag} {mg : Str → Option Value} {base : Heap}
/-! ### a run's state -/
structure RS where
  env : List (Str × Int)
  marks : List (Int × Str)
  puts : List (Int × Str × Int)
def getB (e : List (Str × Int)) (n : Str) : Int := (e.lookup n).getD 0
def countsM (ks : List (Str × KindM)) (e : List (Str × Int)) (rs : List Str) : List Int := rs.map fun n => (getKd ks n).countOf (getB e n)
def goal0 (q : RowM) : Str := q.goals.getD 0 ""
def goal1 (q : RowM) : Str := q.goals.getD 1 ""
/-- one row done -/
def doM (ks : List (Str × KindM)) (ln : Int) (q : RowM) (s : RS) : RS :=
  let cs := countsM ks s.env q.reads
  let b := workedM q (getKd ks (goal0 q)) cs
  let s1 : RS := ⟨(goal0 q, b.1) :: s.env, if b.2 = "" then s.marks else s.marks ++ [(ln, b.2)], s.puts ++ [(ln, goal0 q, b.1)]⟩
  if q.deed = "part" then ⟨(goal1 q, num0 cs % num0 q.numbers) :: s1.env, s1.marks, s1.puts ++ [(ln, goal1 q, num0 cs % num0 q.numbers)]⟩ else s1
structure DoOk (ks : List (Str × KindM)) (q : RowM) (s : RS) : Prop where
  g0 : ∃ g r, q.goals = g :: r
  k0 : (ks.lookup (goal0 q)).isSome = true
  rl : q.reads.length ≤ 1000
  rd : ∀ n ∈ q.reads, (ks.lookup n).isSome = true ∧ ∃ b, s.env.lookup n = some b ∧ 0 ≤ b ∧ b < (getKd ks n).B
  wk : WorkOk q (getKd ks (goal0 q)) (countsM ks s.env q.reads)
  pt : q.deed = "part" → (∃ g h, q.goals = [g, h]) ∧ (∃ c r, q.reads = c :: r) ∧ ∃ n r, q.numbers = n :: r ∧ 0 < n
def iterN (f : RS → RS) : Nat → RS → RS
  | 0, s => s
  | n + 1, s => iterN f n (f s)
def goM (ks : List (Str × KindM)) : Rows → RS → RS
  | .nil, s => s
  | .row ln q t, s => goM ks t (doM ks ln q s)
  | .rep _ tm b t, s => goM ks t (iterN (goM ks b) tm.toNat s)
def GoOk (ks : List (Str × KindM)) : Rows → RS → Prop
  | .nil, _ => True
  | .row ln q t, s => DoOk ks q s ∧ GoOk ks t (doM ks ln q s)
  | .rep _ tm b t, s => (0 ≤ tm ∧ tm ≤ 1000 ∧ ∀ i, i < tm.toNat → GoOk ks b (iterN (goM ks b) i s)) ∧ GoOk ks t (iterN (goM ks b) tm.toNat s)
theorem iterN_succ (f : RS → RS) : ∀ (n : Nat) (s : RS), iterN f (n + 1) s = f (iterN f n s)
  | 0, _ => rfl
  | n + 1, s => by
    show iterN f (n + 1) (f s) = _
    rw [iterN_succ f n (f s)]
    rfl
/-! ### where it stands -/
def BitsAt (kvs : List (Key × V)) (e : List (Str × Int)) : Prop := kvs.length ≤ e.length ∧ ∀ n, valV kvs (Sum.inr n) = (e.lookup n).map V.int
theorem BitsAt.put {kvs : List (Key × V)} {e : List (Str × Int)} (h : BitsAt kvs e) (n : Str) (b : Int) : BitsAt (putK kvs (Sum.inr n) (.int b)) ((n, b) :: e) := by
  refine ⟨?_, fun i => ?_⟩
  · have := length_putK kvs (Sum.inr n) (V.int b)
    have := h.1
    show _ ≤ e.length + 1; omega
  rw [valV_put, List.lookup_cons]
  by_cases c : i = n
  · subst c
    rw [if_pos rfl]
    simp only [beq_self_eq_true]
    rfl
  · rw [if_neg (fun z => c (Sum.inr.inj z)), show (i == n) = false from by simpa using c]
    exact h.2 i
def MarksAt (H : Hp) : List (Int × Str) → List V → Prop
  | [], vs => vs = []
  | (ln, m) :: l, vs => ∃ t vs', vs = .ref t :: vs' ∧ H t = some (.tup [.int ln, .str m]) ∧ MarksAt H l vs'
def PutsAt (H : Hp) : List (Int × Str × Int) → List V → Prop
  | [], vs => vs = []
  | (ln, n, b) :: l, vs => ∃ t vs', vs = .ref t :: vs' ∧ H t = some (.tup [.int ln, .str n, .int b]) ∧ PutsAt H l vs'
theorem MarksAt.move {F H : Hp} (ht : ∀ x us, F x = some (.tup us) → H x = some (.tup us)) : ∀ {l : List (Int × Str)} {vs : List V}, MarksAt F l vs → MarksAt H l vs
  | [], _, h => h
  | (_, _) :: _, _, ⟨t, vs', e, h1, h3⟩ => ⟨t, vs', e, ht _ _ h1, MarksAt.move ht h3⟩
theorem PutsAt.move {F H : Hp} (ht : ∀ x us, F x = some (.tup us) → H x = some (.tup us)) : ∀ {l : List (Int × Str × Int)} {vs : List V}, PutsAt F l vs → PutsAt H l vs
  | [], _, h => h
  | (_, _, _) :: _, _, ⟨t, vs', e, h1, h3⟩ => ⟨t, vs', e, ht _ _ h1, PutsAt.move ht h3⟩
theorem MarksAt.snoc {H : Hp} {ln : Int} {m : Str} {t : Addr} (ht : H t = some (.tup [.int ln, .str m])) : ∀ {l : List (Int × Str)} {vs : List V}, MarksAt H l vs → MarksAt H (l ++ [(ln, m)]) (vs ++ [.ref t])
  | [], _, h => by subst h; exact ⟨t, [], rfl, ht, rfl⟩
  | (_, _) :: _, _, ⟨t', vs', e, h1, h3⟩ => ⟨t', vs' ++ [.ref t], by rw [e]; rfl, h1, MarksAt.snoc ht h3⟩
theorem PutsAt.snoc {H : Hp} {ln b : Int} {m : Str} {t : Addr} (ht : H t = some (.tup [.int ln, .str m, .int b])) : ∀ {l : List (Int × Str × Int)} {vs : List V}, PutsAt H l vs → PutsAt H (l ++ [(ln, m, b)]) (vs ++ [.ref t])
  | [], _, h => by subst h; exact ⟨t, [], rfl, ht, rfl⟩
  | (_, _, _) :: _, _, ⟨t', vs', e, h1, h3⟩ => ⟨t', vs' ++ [.ref t], by rw [e]; rfl, h1, PutsAt.snoc ht h3⟩
theorem MarksAt.len {H : Hp} : ∀ {l : List (Int × Str)} {vs : List V}, MarksAt H l vs → vs.length = l.length
  | [], _, h => by rw [h]; rfl
  | (_, _) :: _, _, ⟨t', vs', e, h1, h3⟩ => by rw [e, List.length_cons, MarksAt.len h3]; rfl
theorem PutsAt.len {H : Hp} : ∀ {l : List (Int × Str × Int)} {vs : List V}, PutsAt H l vs → vs.length = l.length
  | [], _, h => by rw [h]; rfl
  | (_, _, _) :: _, _, ⟨t', vs', e, h1, h3⟩ => by rw [e, List.length_cons, PutsAt.len h3]; rfl
def runFs (p b m u : Addr) : List (Str × V) := [("program", .ref p), ("bits", .ref b), ("marks", .ref m), ("puts", .ref u)]
theorem lkU_program {p b m u : Addr} : List.lookup ("program" : Str) (runFs p b m u) = some (V.ref p) := rfl
theorem lkU_bits {p b m u : Addr} : List.lookup ("bits" : Str) (runFs p b m u) = some (V.ref b) := rfl
theorem lkU_marks {p b m u : Addr} : List.lookup ("marks" : Str) (runFs p b m u) = some (V.ref m) := rfl
theorem lkU_puts {p b m u : Addr} : List.lookup ("puts" : Str) (runFs p b m u) = some (V.ref u) := rfl
theorem lkU_none {p b mm u : Addr} {m : Str} (h : m ∉ (["program", "bits", "marks", "puts"] : List Str)) : List.lookup m (runFs p b mm u) = none := by
  unfold runFs
  simp only [List.mem_cons, List.not_mem_nil, or_false, not_or] at h
  obtain ⟨h1, h2, h3, h4⟩ := h
  simp only [List.lookup, beq_eq_false_iff_ne.mpr h1, beq_eq_false_iff_ne.mpr h2, beq_eq_false_iff_ne.mpr h3, beq_eq_false_iff_ne.mpr h4]
structure RunAt (K : PySem.W.Frag) (F H : Hp) (a p b m u : Addr) (s : RS) : Prop where
  S : Same F H
  o : ∃ dx, F a = some (.ins (He.ga K "Running") dx (runFs p b m u))
  fb : F b = none
  fm : F m = none
  fu : F u = none
  mu : m ≠ u
  hb : ∃ kvs, H b = some (.dK kvs) ∧ BitsAt kvs s.env
  hm : ∃ vs, H m = some (.lst vs) ∧ MarksAt H s.marks vs
  hu : ∃ vs, H u = some (.lst vs) ∧ PutsAt H s.puts vs
/-- all but a run's three places stay -/
theorem RunAt.to {K : PySem.W.Frag} {F H H' : Hp} {a p b m u : Addr} {s : RS} (R : RunAt K F H a p b m u s) (s' : Same H H') : RunAt K F H' a p b m u s := by
  obtain ⟨kv, b1, b2⟩ := R.hb; obtain ⟨vm, m1, m2⟩ := R.hm; obtain ⟨vu, u1, u2⟩ := R.hu
  exact ⟨R.S.trans s', R.o, R.fb, R.fm, R.fu, R.mu, ⟨kv, s' _ _ b1, b2⟩, ⟨vm, s' _ _ m1, m2.move fun x us e => s' _ _ e⟩, ⟨vu, s' _ _ u1, u2.move fun x us e => s' _ _ e⟩⟩
theorem RunAt.ins {K : PySem.W.Frag} {F H : Hp} {a p b m u : Addr} {s : RS} (R : RunAt K F H a p b m u s) : ∃ dx, H a = some (.ins (He.ga K "Running") dx (runFs p b m u)) := by
  obtain ⟨dx, e⟩ := R.o
  exact ⟨dx, R.S _ _ e⟩
/-- a word put -/
theorem RunAt.setB {K : PySem.W.Frag} {F H : Hp} {a p b m u : Addr} {s : RS} {kvs : List (Key × V)} (R : RunAt K F H a p b m u s) (e : H b = some (.dK kvs)) (n : Str) (x : Int) : RunAt K F (upd H b (.dK (putK kvs (Sum.inr n) (.int x)))) a p b m u { s with env := (n, x) :: s.env } := by
  obtain ⟨kv, b1, b2⟩ := R.hb; obtain ⟨vm, m1, m2⟩ := R.hm; obtain ⟨vu, u1, u2⟩ := R.hu
  rw [e] at b1; cases b1
  have mb : m ≠ b := fun z => by rw [z, e] at m1; cases m1
  have ub : u ≠ b := fun z => by rw [z, e] at u1; cases u1
  have ht : ∀ x us, H x = some (.tup us) → upd H b (.dK (putK kvs (Sum.inr n) (.int x))) x = some (.tup us) := fun x us h => by rw [upd_ne (fun z => by rw [z, e] at h; cases h)]; exact h
  have ht' : ∀ y us, H y = some (.tup us) → upd H b (.dK (putK kvs (Sum.inr n) (.int x))) y = some (.tup us) := fun y us h => by rw [upd_ne (fun z => by rw [z, e] at h; cases h)]; exact h
  exact ⟨same_updN R.S R.fb, R.o, R.fb, R.fm, R.fu, R.mu, ⟨_, upd_same, b2.put n x⟩, ⟨vm, by rw [upd_ne mb]; exact m1, m2.move ht'⟩, ⟨vu, by rw [upd_ne ub]; exact u1, u2.move ht'⟩⟩
theorem RunAt.addM {K : PySem.W.Frag} {F H : Hp} {a p b m u t : Addr} {s : RS} {vs : List V} {ln : Int} {x : Str} (R : RunAt K F H a p b m u s) (e : H m = some (.lst vs)) (et : H t = some (.tup [.int ln, .str x])) : RunAt K F (upd H m (.lst (vs ++ [.ref t]))) a p b m u { s with marks := s.marks ++ [(ln, x)] } := by
  obtain ⟨kv, b1, b2⟩ := R.hb; obtain ⟨vm, m1, m2⟩ := R.hm; obtain ⟨vu, u1, u2⟩ := R.hu
  rw [e] at m1; cases m1
  have bm : b ≠ m := fun z => by rw [z, e] at b1; cases b1
  have ht : ∀ y us, H y = some (.tup us) → upd H m (.lst (vs ++ [.ref t])) y = some (.tup us) := fun y us h => by rw [upd_ne (fun z => by rw [z, e] at h; cases h)]; exact h
  exact ⟨same_updN R.S R.fm, R.o, R.fb, R.fm, R.fu, R.mu, ⟨kv, by rw [upd_ne bm]; exact b1, b2⟩, ⟨_, upd_same, (m2.move ht).snoc (ht _ _ et)⟩, ⟨vu, by rw [upd_ne R.mu.symm]; exact u1, u2.move ht⟩⟩
theorem RunAt.addU {K : PySem.W.Frag} {F H : Hp} {a p b m u t : Addr} {s : RS} {vs : List V} {ln y : Int} {x : Str} (R : RunAt K F H a p b m u s) (e : H u = some (.lst vs)) (et : H t = some (.tup [.int ln, .str x, .int y])) : RunAt K F (upd H u (.lst (vs ++ [.ref t]))) a p b m u { s with puts := s.puts ++ [(ln, x, y)] } := by
  obtain ⟨kv, b1, b2⟩ := R.hb; obtain ⟨vm, m1, m2⟩ := R.hm; obtain ⟨vu, u1, u2⟩ := R.hu
  rw [e] at u1; cases u1
  have bu : b ≠ u := fun z => by rw [z, e] at b1; cases b1
  have ht : ∀ y us, H y = some (.tup us) → upd H u (.lst (vs ++ [.ref t])) y = some (.tup us) := fun y us h => by rw [upd_ne (fun z => by rw [z, e] at h; cases h)]; exact h
  exact ⟨same_updN R.S R.fu, R.o, R.fb, R.fm, R.fu, R.mu, ⟨kv, by rw [upd_ne bu]; exact b1, b2⟩, ⟨vm, by rw [upd_ne R.mu]; exact m1, m2.move ht⟩, ⟨_, upd_same, (u2.move ht).snoc (ht _ _ et)⟩⟩

end
section
variable {P : Program} {w : World} {K : PySem.W.Frag} {mg : Str → Option Value} {base : Heap}

abbrev N_NoInput_init : List Str := ["self", "name"]
theorem sc_NoInput_init : FnScope ["self", "name"] ["self", "name"] (defScope s_NoInput_init) := ⟨rfl, rfl, rfl, by decide +kernel, rfl, by decide +kernel, by decide +kernel⟩
theorem ok_NoInput_init {f : Addr} {fd : FuncData} (T : Tx K mg)  (F : FunP K "__init__" "NoInput.__init__" s_NoInput_init f fd) : FnOk P w K mg base (L2.CX P w) 1 f fd ["self", "name"] (sp_exc1 K (He.ga K "NoInput") "name") := by
  refine F.ok sc_NoInput_init (fun vs H Q E h => ?_) (fun cdv A outer s H vs Q E hr h => ?_)
  · repeat first | (obtain ⟨e, _⟩ := h; subst e; rfl; done) | (obtain ⟨_, h⟩ := h)
  refine ⟨_, (pss_cons (ps_expr (He2.pe_weinit rfl (g_WiseError T) (ct_WiseError_init T) (pa_cons (pv 0) (pa_cons pe_str pa_nil))))
  (pss_one (ps_ost (pv 0) (pv 1)))), ?_⟩
  try dsimp only [cxK]
  obtain ⟨a, v, rfl, ha, k⟩ := h
  walk_at "rd"
  refine ⟨a, He.ga K "NoInput", _, rfl, (by show 1 ≤ 1000; decide), (xc_NoInput T).oex, ha, ?_⟩
  walk_at "rd"
  refine ⟨a, He.ga K "NoInput", rfl, (xc_NoInput T).oex, na_NoInput_name T, .inl ⟨ha, fun dx hd hne => ?_⟩⟩
  exact k dx hd hne
theorem exc_NoInput (T : Tx K mg) : ExcX P w K mg base 1 "NoInput" (He.ga K "NoInput") (sp_exc1 K (He.ga K "NoInput") "name") := by
  obtain ⟨fd, F⟩ := fn_NoInput_init T
  exact ⟨_, fd, _, (xc_NoInput T).oex, (xi_NoInput T).1, (xi_NoInput T).2, ok_NoInput_init T F, g_NoInput T, F.bindsN fun _ _ _ _ _ _ us hl => match us, hl with | [_, _], _ => rfl⟩

end
section
variable {P : Program} {w : World} {K : PySem.W.Frag} {mg : Str → Option Value} {base : Heap}
def sp_Program_kind_of (K : PySem.W.Frag) : Sp := fun vs H Q _ => ∃ a dx wd i r o k n kvs kk, vs = [.ref a, .str n] ∧ H a = some (.ins (He.ga K "Program") dx (progFs wd i r o k)) ∧ H k = some (.dK kvs) ∧ valV kvs (Sum.inr n) = some (.ref kk) ∧ Q (.ref kk) H
abbrev N_Program_kind_of : List Str := ["self", "name"]
theorem sc_Program_kind_of : FnScope ["self", "name"] ["self", "name"] (defScope s_Program_kind_of) := ⟨rfl, rfl, rfl, by decide +kernel, rfl, by decide +kernel, by decide +kernel⟩
theorem ok_Program_kind_of {f : Addr} {fd : FuncData} (T : Tx K mg)  (F : FunP K "kind_of" "Program.kind_of" s_Program_kind_of f fd) : FnOk P w K mg base (L2.CX P w) 1 f fd ["self", "name"] (sp_Program_kind_of K) := by
  refine F.ok sc_Program_kind_of (fun vs H Q E h => ?_) (fun cdv A outer s H vs Q E hr h => ?_)
  · repeat first | (obtain ⟨e, _⟩ := h; subst e; rfl; done) | (obtain ⟨_, h⟩ := h)
  refine ⟨_, (pss_one (ps_ret (pe_dget (hu_of hr) (pe_fld (pv 0) rfl) (pv 1) (fun _ _ => rfl)))), ?_⟩
  try dsimp only [cxK]
  obtain ⟨a, dx, wd, i, r, o, k, n, kvs, kk, rfl, ha, hk, hv, kq⟩ := h
  walk_at "rd"
  refine r_dget ?_
  walk_at "rd"
  refine r_fldO ha (c_Program T) (na_Program_kinds T) lkQ_kinds ?_
  walk_at "rd"
  exact r_dgetS hk hv kq
theorem met_Program_kind_of (T : Tx K mg) : ∀ C, C = He.ga K "Program" → MetX P w K mg base 1 C "kind_of" (sp_Program_kind_of K) := by
  rintro C rfl
  obtain ⟨fd, F⟩ := fn_Program_kind_of T
  exact ⟨_, fd, _, c_Program T, m_Program_kind_of T, ok_Program_kind_of T F, F.bindsN fun _ _ _ _ _ _ us hl => match us, hl with | [_, _], _ => rfl⟩

end
section
variable {P : Program} {w : World} {K : PySem.W.Frag} {mg : Str → Option Value} {base : Heap}
def sp_Running_put (K : PySem.W.Frag) : Sp := fun vs H Q _ => ∃ a p b m u F s r dx ln deed g rr n way nm x, vs = [.ref a, .ref r, .str nm, .int x] ∧ RunAt K F H a p b m u s ∧ F r = some (.ins (He.ga K "Row") dx (rowFs ln deed g rr n way)) ∧ s.env.length ≤ 90000 ∧ s.puts.length ≤ 90000 ∧
  ∀ H', RunAt K F H' a p b m u ⟨(nm, x) :: s.env, s.marks, s.puts ++ [(ln, nm, x)]⟩ → Q .non H'
abbrev N_Running_put : List Str := ["self", "row", "name", "bits"]
theorem sc_Running_put : FnScope ["self", "row", "name", "bits"] ["self", "row", "name", "bits"] (defScope s_Running_put) := ⟨rfl, rfl, rfl, by decide +kernel, rfl, by decide +kernel, by decide +kernel⟩
theorem ok_Running_put {f : Addr} {fd : FuncData} (T : Tx K mg)  (F : FunP K "put" "Running.put" s_Running_put f fd) : FnOk P w K mg base (L2.CX P w) 1 f fd ["self", "row", "name", "bits"] (sp_Running_put K) := by
  refine F.ok sc_Running_put (fun vs H Q E h => ?_) (fun cdv A outer s H vs Q E hr h => ?_)
  · repeat first | (obtain ⟨e, _⟩ := h; subst e; rfl; done) | (obtain ⟨_, h⟩ := h)
  refine ⟨_, (pss_cons (ps_dput (hu_of hr) (pe_fld (pv 0) rfl) (pv 2) (pv 3) rfl)
  (pss_one (ps_expr (pe_bm PySem.F.plainAttrs_list PySem.F.slot_list_append PySem.F.type_list_append mt_append (pe_fld (pv 0) rfl) (pa_cons (pe_tup (pa_cons (pe_fld (pv 1) rfl) (pa_cons (pv 2) (pa_cons (pv 3) pa_nil)))) pa_nil))))), ?_⟩
  try dsimp only [cxK]
  obtain ⟨a, p, b, m, u, F0, s0, r, dx, ln, deed, g, rr, n, way, nm, x, rfl, R, hr', le, lu, kq⟩ := h
  obtain ⟨adx, ea⟩ := R.ins
  obtain ⟨kv, b1, b2⟩ := R.hb
  walk_at "rd"
  refine r_fldO ea (c_Running T) (na_Running_bits T) lkU_bits ?_
  walk_at "rd"
  refine r_dputS b1 (by have := b2.1; omega) ?_
  have R1 := R.setB b1 nm x
  generalize upd H b (.dK (putK kv (Sum.inr nm) (.int x))) = H1 at *
  obtain ⟨adx1, ea1⟩ := R1.ins
  obtain ⟨vu, u1, u2⟩ := R1.hu
  have ul := u2.len
  walk_at "rd"
  refine r_fldO ea1 (c_Running T) (na_Running_puts T) lkU_puts ?_
  refine r_tyL (SqL.of u1) ?_
  walk_at "rd"
  refine r_fldO (R1.S _ _ hr') (c_Row T) (na_Row_line T) lkR_line ?_
  walk_at "rd"
  refine r_newL fun t ht => ?_
  have s2 := Same.new (o := .tup [V.int ln, V.str nm, V.int x]) ht
  have e2 : upd H1 t (.tup [V.int ln, V.str nm, V.int x]) t = some (.tup [V.int ln, V.str nm, V.int x]) := upd_same
  have R2 := R1.to s2
  have u3 := s2 _ _ u1
  generalize upd H1 t (.tup [V.int ln, V.str nm, V.int x]) = H2 at *
  walk_at "rd"
  refine r_app u3 (by rw [ul]; show s0.puts.length ≤ _; omega) ?_
  walk_at "rd"
  exact kq _ (R2.addU u3 e2)
theorem met_Running_put (T : Tx K mg) : ∀ C, C = He.ga K "Running" → MetX P w K mg base 1 C "put" (sp_Running_put K) := by
  rintro C rfl
  obtain ⟨fd, F⟩ := fn_Running_put T
  exact ⟨_, fd, _, c_Running T, m_Running_put T, ok_Running_put T F, F.bindsN fun _ _ _ _ _ _ us hl => match us, hl with | [_, _, _, _], _ => rfl⟩

end
section
variable {P : Program} {w : World} {K : PySem.W.Frag} {mg : Str → Option Value} {base : Heap}
structure DoPre (K : PySem.W.Frag) (F H : Hp) (a p b m u r rdx g rr n : Addr) (PM : ProgM) (ln : Int) (q : RowM) (s : RS) : Prop where
  R : RunAt K F H a p b m u s
  P : ProgAt K F p PM
  hr : F r = some (.ins (He.ga K "Row") rdx (rowFs ln q.deed g rr n q.way))
  hg : F g = some (.lst (q.goals.map V.str))
  hrr : F rr = some (.lst (q.reads.map V.str))
  hn : F n = some (.lst (q.numbers.map V.int))
  hd : DoOk PM.ks q s
  z1 : s.env.length ≤ 80000
  z2 : s.marks.length ≤ 80000
  z3 : s.puts.length ≤ 80000
/-- all but the three places, frozen -/
theorem RunAt.wide {K : PySem.W.Frag} {F H : Hp} {a p b m u : Addr} {s : RS} (R : RunAt K F H a p b m u s) : RunAt K (del (del (del H b) m) u) H a p b m u s ∧ Same F (del (del (del H b) m) u) ∧ ∀ x o, H x = some o → x ≠ b → x ≠ m → x ≠ u → del (del (del H b) m) u x = some o := by
  obtain ⟨kv, b1, b2⟩ := R.hb; obtain ⟨vm, m1, m2⟩ := R.hm; obtain ⟨vu, u1, u2⟩ := R.hu
  obtain ⟨adx, ea⟩ := R.ins
  have bm : b ≠ m := fun z => by rw [z, m1] at b1; cases b1
  have bu : b ≠ u := fun z => by rw [z, u1] at b1; cases b1
  have ab : a ≠ b := fun z => by rw [z, b1] at ea; cases ea
  have am : a ≠ m := fun z => by rw [z, m1] at ea; cases ea
  have au : a ≠ u := fun z => by rw [z, u1] at ea; cases ea
  have all : ∀ x o, H x = some o → x ≠ b → x ≠ m → x ≠ u → del (del (del H b) m) u x = some o := fun x o e h1 h2 h3 => by rw [del_ne h3, del_ne h2, del_ne h1]; exact e
  refine ⟨⟨fun x o e => ?_, ⟨adx, all _ _ ea ab am au⟩, ?_, ?_, del_same, R.mu, ⟨kv, b1, b2⟩, ⟨vm, m1, m2⟩, ⟨vu, u1, u2⟩⟩, fun x o e => all x o (R.S _ _ e) (ne_of_none e R.fb) (ne_of_none e R.fm) (ne_of_none e R.fu), all⟩
  · by_cases xu : x = u
    · rw [xu, del_same] at e; cases e
    · rw [del_ne xu] at e
      by_cases xm : x = m
      · rw [xm, del_same] at e; cases e
      · rw [del_ne xm] at e
        by_cases xb : x = b
        · rw [xb, del_same] at e; cases e
        · rwa [del_ne xb] at e
  · rw [del_ne bu, del_ne bm, del_same]
  · rw [del_ne R.mu, del_same]
theorem RunAt.narrow {K : PySem.W.Frag} {F F' H H' : Hp} {a p b m u : Addr} {s s' : RS} (R : RunAt K F H a p b m u s) (R' : RunAt K F' H' a p b m u s') (S : Same F F') : RunAt K F H' a p b m u s' :=
  ⟨fun x o e => R'.S _ _ (S _ _ e), R.o, R.fb, R.fm, R.fu, R.mu, R'.hb, R'.hm, R'.hu⟩
def sp_Running_do (K : PySem.W.Frag) : Sp := fun vs H Q _ => ∃ F a p b m u r rdx g rr n PM ln q s, vs = [.ref a, .ref r] ∧ DoPre K F H a p b m u r rdx g rr n PM ln q s ∧
  ∀ H', RunAt K F H' a p b m u (doM PM.ks ln q s) → Q .non H'
abbrev N_Running_do : List Str := ["self", "row", "kind", "counts", "name", "bits", "mark"]
theorem sc_Running_do : FnScope ["self", "row", "kind", "counts", "name", "bits", "mark"] ["self", "row"] (defScope s_Running_do) := ⟨rfl, rfl, rfl, by decide +kernel, rfl, by decide +kernel, by decide +kernel⟩
theorem ok_Running_do {f : Addr} {fd : FuncData} (T : Tx K mg)  (F : FunP K "do" "Running.do" s_Running_do f fd) : FnOk P w K mg base (L2.CX P w) 7 f fd ["self", "row"] (sp_Running_do K) := by
  refine F.ok sc_Running_do (fun vs H Q E h => ?_) (fun cdv A outer s H vs Q E hr h => ?_)
  · repeat first | (obtain ⟨e, _⟩ := h; subst e; rfl; done) | (obtain ⟨_, h⟩ := h)
  refine ⟨_, (pss_cons (ps_set (i := 2) sc_Running_do.nd rfl (Or.inl rfl) (pe_mX (met_Program_kind_of T) hr (by decide) pU (pe_fld (pv 0) rfl) (pa_cons (pe_ix ix_list (pe_fld (pv 1) rfl) pe_int (fun _ _ => rfl)) pa_nil)))
  (pss_cons (ps_setLc (i := 3) (own := [("name", 4)]) (te := tMethV (In_Kind K) "count_of" (sp_Kind_count_of K) E0 (tMethV (fun C => C = He.ga K "Program") "kind_of" (fun _ => sp_Program_kind_of K) E0 (tFld K (tVar 0) "program") (tCons (tVar 4) tNil)) (tCons (tDGet (tFld K (tVar 0) "bits") (tVar 4)) tNil)) (g := gName 4) (tt := tYes) rfl sc_Running_do.nd rfl rfl (sw_true rfl rfl rfl (by decide +kernel)) (pi_list (pe_fld (pv 1) rfl)) (blkOk_by (N := N_Running_do) (sc := defScope s_Running_do) (by decide +kernel)) (fun _ _ _ _ _ => (pg_name (i := 4) sc_Running_do.nd rfl (Or.inl rfl))) (fun _ _ _ _ _ => pts_nil) (fun _ _ _ _ _ => (pe_mX (met_Kind_count_of T) hr (by decide) passL (pe_mX (met_Program_kind_of T) hr (by decide) passL (pe_fld (pv 0) rfl) (pa_cons (pv 4) pa_nil)) (pa_cons (pe_dget (hu_of hr) (pe_fld (pv 0) rfl) (pv 4) (fun _ _ => rfl)) pa_nil))))
  (pss_cons (ps_asg (pe_cX (cal_worked T) hr (by decide) rfl pU (pa_cons (pv 1) (pa_cons (pv 2) (pa_cons (pv 3) pa_nil)))) (pg_tup rfl (pgs_cons (pg_name (i := 5) sc_Running_do.nd rfl (Or.inl rfl)) (pgs_cons (pg_name (i := 6) sc_Running_do.nd rfl (Or.inl rfl)) pgs_nil))))
  (pss_cons (ps_expr (pe_mX (met_Running_put T) hr (by decide) pU (pv 0) (pa_cons (pv 1) (pa_cons (pe_ix ix_list (pe_fld (pv 1) rfl) pe_int (fun _ _ => rfl)) (pa_cons (pv 5) pa_nil)))))
  (C8.pss_cut (ps_if (pt_cmpR op_ne (pv 6) pe_str (nomark _)) (pss_one (ps_expr (pe_bm PySem.F.plainAttrs_list PySem.F.slot_list_append PySem.F.type_list_append mt_append (pe_fld (pv 0) rfl) (pa_cons (pe_tup (pa_cons (pe_fld (pv 1) rfl) (pa_cons (pv 6) pa_nil))) pa_nil)))) pss_nil)
  (pss_one (ps_if (pt_cmpR op_eq (pe_fld (pv 1) rfl) pe_str (nomark _)) (pss_one (ps_expr (pe_mX (met_Running_put T) hr (by decide) pU (pv 0) (pa_cons (pv 1) (pa_cons (pe_ix ix_list (pe_fld (pv 1) rfl) pe_int (fun _ _ => rfl)) (pa_cons (pe_op op_mod (pe_ix ix_list (pv 3) pe_int (fun _ _ => rfl)) (pe_ix ix_list (pe_fld (pv 1) rfl) pe_int (fun _ _ => rfl))) pa_nil)))))) pss_nil))))))), ?_⟩
  try dsimp only [cxK]
  obtain ⟨F0, a, p, b, m, u, r, rdx, g, rr, n, PM, ln, q, s0, rfl, D, kq⟩ := h
  obtain ⟨R, P, hr', hg, hrr, hn, hd, z1, z2, z3⟩ := D
  obtain ⟨pdx, pi, pr, po, pk, vi, vr, kvs, hp1, -, -, -, -, -, hp7, KK⟩ := P
  obtain ⟨g0, gs, eg⟩ := hd.g0
  have eg0 : goal0 q = g0 := by unfold goal0; rw [eg]; rfl
  obtain ⟨kk, ek, Kk⟩ := KK.get hd.k0
  obtain ⟨adx, ea⟩ := R.ins
  walk_at "rd"
  refine r_fldO ea (c_Running T) (na_Running_program T) lkU_program ?_
  walk_at "rd"
  refine r_methO (R.S _ _ hp1) rfl (lkQ_none (by decide +kernel)) ?_
  walk_at "rd"
  refine r_fldO (R.S _ _ hr') (c_Row T) (na_Row_goals T) lkR_goals ?_
  walk_at "rd"
  refine r_ixL (SqL.of (R.S _ _ hg)) (show atI (q.goals.map V.str) 0 = some (V.str g0) by rw [eg]; exact at0) ?_
  walk_at "rd"
  rw [eg0] at ek Kk
  refine ⟨p, pdx, PM.wd, pi, pr, po, pk, g0, kvs, kk, rfl, R.S _ _ hp1, R.S _ _ hp7, ek, ?_⟩
  walk_at "rd"
  refine r_lcLf rfl (R.S _ _ hr') (c_Row T) (na_Row_reads T) lkR_reads (SqL.of (R.S _ _ hrr)) (fun E j H2 => H E = none ∧ Same H H2 ∧ H2 E = some (.lst (((countsM PM.ks s0.env q.reads).take j).map V.int))) (fun q => rfl)
    (fun E hE => ⟨hE, Same.new hE, upd_same⟩) (fun E j H2 q => SqL.of (q.2.1 _ _ (R.S _ _ hrr))) (fun E j y H2 hy w => ?_) (fun E H2 w => ?_)
  · obtain ⟨hE, sE, aE⟩ := w
    obtain ⟨nm, hb, rfl⟩ : ∃ b, q.reads[j]? = some b ∧ y = V.str b := by
      rw [List.getElem?_map] at hy
      cases e : q.reads[j]? with
      | none => rw [e] at hy; cases hy
      | some y => rw [e] at hy; exact ⟨y, rfl, (Option.some.inj hy).symm⟩
    have hj := (List.getElem?_eq_some_iff.mp hb).1
    obtain ⟨hs, bb, hbb, b0, bB⟩ := hd.rd nm (List.mem_of_getElem? hb)
    obtain ⟨kn, en, Kn⟩ := KK.get hs
    obtain ⟨kvb, hb1, hb2⟩ := R.hb
    have ev : valV kvb (Sum.inr nm) = some (.int bb) := by rw [hb2.2 nm, hbb]; rfl
    have R2 := R.to sE
    obtain ⟨adx2, ea2⟩ := R2.ins
    have ct : (countsM PM.ks s0.env q.reads)[j]? = some ((getKd PM.ks nm).countOf bb) := by
      unfold countsM
      rw [List.getElem?_map, hb]
      show some ((getKd PM.ks nm).countOf (getB s0.env nm)) = _
      unfold getB
      rw [hbb]
      rfl
    walk_at "rd"
    refine r_fldO ea2 (c_Running T) (na_Running_program T) lkU_program ?_
    walk_at "rd"
    refine r_methO (R2.S _ _ hp1) rfl (lkQ_none (by decide +kernel)) ?_
    walk_at "rd"
    refine ⟨p, pdx, PM.wd, pi, pr, po, pk, nm, kvs, kn, rfl, R2.S _ _ hp1, R2.S _ _ hp7, en, ?_⟩
    walk_at "rd"
    refine r_methK (Kn.on R2.S) rfl ?_
    walk_at "rd"
    refine r_dget ?_
    walk_at "rd"
    refine r_fldO ea2 (c_Running T) (na_Running_bits T) lkU_bits ?_
    walk_at "rd"
    refine r_dgetS (sE _ _ hb1) ev ?_
    walk_at "rd"
    refine ⟨kn, getKd PM.ks nm, bb, rfl, Kn.on R2.S, b0, bB, fun H4 s4 => ?_⟩
    have lk : ((countsM PM.ks s0.env q.reads).take j).length ≤ 1000 := by
      have := hd.rl
      rw [List.length_take]; omega
    refine ⟨_, s4 _ _ aE, line_lt (by rw [List.length_map]; omega), hE, same_updN (sE.trans s4) hE, ?_⟩
    rw [upd_same, List.take_add_one, ct, List.map_append]
    rfl
  obtain ⟨hE, sE, aE⟩ := w
  have lc : (countsM PM.ks s0.env q.reads).length = (q.reads.map V.str).length := by unfold countsM; rw [List.length_map, List.length_map]
  rw [← lc, List.take_length] at aE
  have R1 := R.to sE
  walk_at "rd"
  refine ⟨r, rdx, ln, g, rr, n, q, kk, getKd PM.ks g0, E, _, rfl, R1.S _ _ hr', R1.S _ _ hn, Kk.on R1.S, aE, eg0 ▸ hd.wk, fun t H3 s3 e3 => ?_⟩
  refine r_gT2 (SqT.of e3) ?_
  have R3 := R1.to s3
  have e3' := s3 _ _ aE
  clear e3
  walk_at "rd"
  generalize hw : workedM q (getKd PM.ks g0) (countsM PM.ks s0.env q.reads) = w at *
  obtain ⟨adx3, ea3⟩ := R3.ins
  have gx : atI (q.goals.map V.str) 0 = some (V.str g0) := by rw [eg]; exact at0
  refine r_methO ea3 rfl (lkU_none (by decide +kernel)) ?_
  walk_at "rd"
  refine r_fldO (R3.S _ _ hr') (c_Row T) (na_Row_goals T) lkR_goals ?_
  walk_at "rd"
  refine r_ixL (SqL.of (R3.S _ _ hg)) gx ?_
  walk_at "rd"
  obtain ⟨W3, S3, A3⟩ := R3.wide
  have ne : ∀ {x : Addr} {o : HO}, H x = some o → E ≠ x := fun e z => by rw [← z, hE] at e; cases e
  obtain ⟨kvx, hbx, -⟩ := R.hb; obtain ⟨vmx, hmx, -⟩ := R.hm; obtain ⟨vux, hux, -⟩ := R.hu
  have E3 := A3 E _ e3' (ne hbx) (ne hmx) (ne hux)
  clear A3 kvx hbx vmx hmx vux hux ne
  generalize del (del (del H3 b) m) u = F3 at *
  refine ⟨a, p, b, m, u, F3, s0, r, rdx, ln, q.deed, g, rr, n, q.way, g0, w.1, rfl, W3, S3 _ _ hr', by omega, by omega, fun H4 R4 => ?_⟩
  have dd : doM PM.ks ln q s0 = (let s1 : RS := ⟨(g0, w.1) :: s0.env, if w.2 = "" then s0.marks else s0.marks ++ [(ln, w.2)], s0.puts ++ [(ln, g0, w.1)]⟩; if q.deed = "part" then ⟨(goal1 q, num0 (countsM PM.ks s0.env q.reads) % num0 q.numbers) :: s1.env, s1.marks, s1.puts ++ [(ln, goal1 q, num0 (countsM PM.ks s0.env q.reads) % num0 q.numbers)]⟩ else s1) := by
    unfold doM
    simp only [eg0, hw]
  rw [dd] at kq
  clear dd
  walk_at "rd"
  refine r_cut (fun σ' H5 => σ' = (((List.set (L2.start ["self", "row", "kind", "counts", "name", "bits", "mark"] [V.ref a, V.ref r]) 2 (some (V.ref kk))).set 3 (some (V.ref E))).set 5 (some (V.int w.1))).set 6 (some (V.str w.2)) ∧ RunAt K F3 H5 a p b m u ⟨(g0, w.1) :: s0.env, if w.2 = "" then s0.marks else s0.marks ++ [(ln, w.2)], s0.puts ++ [(ln, g0, w.1)]⟩) ?_ ?_
  · walk_at "rd"
    by_cases c : (w.2 = "")
    · refine r_NDT c ?_
      refine ⟨rfl, ?_⟩
      rw [if_pos c]
      exact R4
    · refine r_NDF c ?_
      rw [if_neg c]
      obtain ⟨adx4, ea4⟩ := R4.ins
      obtain ⟨vm, m1, m2⟩ := R4.hm
      have ml := m2.len
      walk_at "rd"
      refine r_fldO ea4 (c_Running T) (na_Running_marks T) lkU_marks ?_
      refine r_tyL (SqL.of m1) ?_
      walk_at "rd"
      refine r_fldO (R4.S _ _ (S3 _ _ hr')) (c_Row T) (na_Row_line T) lkR_line ?_
      walk_at "rd"
      refine r_newL fun t ht => ?_
      have s2 := Same.new (o := .tup [V.int ln, V.str w.2]) ht
      have e2 : upd H4 t (.tup [V.int ln, V.str w.2]) t = some (.tup [V.int ln, V.str w.2]) := upd_same
      have R5 := R4.to s2
      have m3 := s2 _ _ m1
      generalize upd H4 t (.tup [V.int ln, V.str w.2]) = H5 at *
      walk_at "rd"
      refine r_app m3 (by rw [ml]; show s0.marks.length ≤ _; omega) ?_
      walk_at "rd"
      exact ⟨rfl, R5.addM m3 e2⟩
  rintro σ' H5 ⟨rfl, R5⟩
  generalize hs1 : (⟨(g0, w.1) :: s0.env, if w.2 = "" then s0.marks else s0.marks ++ [(ln, w.2)], s0.puts ++ [(ln, g0, w.1)]⟩ : RS) = s1 at *
  have l1 : s1.env.length = s0.env.length + 1 := by rw [← hs1]; rfl
  have l3 : s1.puts.length = s0.puts.length + 1 := by rw [← hs1]; show (s0.puts ++ [_]).length = _; rw [List.length_append]; rfl
  clear R4
  have r5 := R5.S _ _ (S3 _ _ hr')
  walk_at "rd"
  refine r_fldO r5 (c_Row T) (na_Row_deed T) lkR_deed ?_
  walk_at "rd"
  refine r_iteD (fun c => ?_) (fun c => ?_)
  · have kq' : ∀ H', RunAt K F0 H' a p b m u ⟨(goal1 q, num0 (countsM PM.ks s0.env q.reads) % num0 q.numbers) :: s1.env, s1.marks, s1.puts ++ [(ln, goal1 q, num0 (countsM PM.ks s0.env q.reads) % num0 q.numbers)]⟩ → Q .non H' := fun H' R' => kq H' (by simpa only [if_pos c] using R')
    clear kq
    obtain ⟨⟨h0, h1, egs⟩, ⟨c0, cr, ecr⟩, nn, nr, enn, n0⟩ := hd.pt c
    have e1 : goal1 q = h1 := by unfold goal1; rw [egs]; rfl
    obtain ⟨cv, cvs, ecs⟩ : ∃ cv cvs, countsM PM.ks s0.env q.reads = cv :: cvs := by unfold countsM; rw [ecr]; exact ⟨_, _, rfl⟩
    rw [e1, ecs, enn] at kq'
    rw [ecs] at E3
    obtain ⟨adx5, ea5⟩ := R5.ins
    walk_at "rd"
    refine r_methO ea5 rfl (lkU_none (by decide +kernel)) ?_
    walk_at "rd"
    refine r_fldO r5 (c_Row T) (na_Row_goals T) lkR_goals ?_
    walk_at "rd"
    refine r_ixL (SqL.of (R5.S _ _ (S3 _ _ hg))) (show atI (q.goals.map V.str) 1 = some (V.str h1) by rw [egs]; exact at1) ?_
    walk_at "rd"
    refine r_ixL (SqL.of (R5.S _ _ E3)) at0 ?_
    walk_at "rd"
    refine r_fldO r5 (c_Row T) (na_Row_numbers T) lkR_numbers ?_
    walk_at "rd"
    refine r_ixL (SqL.of (R5.S _ _ (S3 _ _ hn))) (show atI (q.numbers.map V.int) 0 = some (V.int nn) by rw [enn]; exact at0) ?_
    walk_at "rd"
    refine r_I n0 ?_
    walk_at "rd"
    refine ⟨a, p, b, m, u, F3, s1, r, rdx, ln, q.deed, g, rr, n, q.way, h1, cv % nn, rfl, R5, S3 _ _ hr', by omega, by omega, fun H6 R6 => ?_⟩
    walk_at "rd"
    exact kq' _ (R.narrow R6 S3)
  · walk_at "rd"
    exact kq _ (R.narrow (by simpa only [if_neg c] using R5) S3)
theorem met_Running_do (T : Tx K mg) : ∀ C, C = He.ga K "Running" → MetX P w K mg base 7 C "do" (sp_Running_do K) := by
  rintro C rfl
  obtain ⟨fd, F⟩ := fn_Running_do T
  exact ⟨_, fd, _, c_Running T, m_Running_do T, ok_Running_do T F, F.bindsN fun _ _ _ _ _ _ us hl => match us, hl with | [_, _], _ => rfl⟩

end
section
variable {P : Program} {w : World} {K : PySem.W.Frag} {mg : Str → Option Value} {base : Heap}
def RS.sz (s : RS) : Int := s.env.length + s.marks.length + s.puts.length
theorem doM_sz {ks : List (Str × KindM)} {ln : Int} {q : RowM} {s : RS} : (doM ks ln q s).sz ≤ s.sz + 5 := by
  unfold doM RS.sz
  simp only []
  split
  · split <;> simp only [List.length_cons, List.length_append, List.length_nil] <;> omega
  · split <;> simp only [List.length_cons, List.length_append, List.length_nil] <;> omega
theorem iterN_sz {f : RS → RS} {c : Int} (h : ∀ s, (f s).sz ≤ s.sz + c) : ∀ (n : Nat) (s : RS), (iterN f n s).sz ≤ s.sz + n * c
  | 0, s => by show s.sz ≤ _; omega
  | n + 1, s => by
    have h1 := iterN_sz h n (f s)
    have h2 := h s
    have e : ((n + 1 : Nat) : Int) * c = n * c + c := by rw [Int.natCast_add, Int.add_mul]; simp
    show (iterN f n (f s)).sz ≤ _
    rw [e]; omega
theorem goM_sz {ks : List (Str × KindM)} : ∀ {r : Rows} {s : RS}, r.small → (goM ks r s).sz ≤ s.sz + 5 * r.count
  | .nil, s, _ => by show s.sz ≤ s.sz + 5 * 0; omega
  | .row ln q t, s, h => by
    have h1 := goM_sz (ks := ks) (s := doM ks ln q s) (r := t) h
    have h2 := doM_sz (ks := ks) (ln := ln) (q := q) (s := s)
    show (goM ks t _).sz ≤ s.sz + 5 * (1 + t.count)
    omega
  | .rep ln tm b t, s, h => by
    have h1 := goM_sz (ks := ks) (s := iterN (goM ks b) tm.toNat s) (r := t) h.2.2.2.2
    have h2 := iterN_sz (f := goM ks b) (c := 5 * b.count) (fun s => goM_sz h.2.2.2.1) tm.toNat s
    have h0 := h.1
    rw [Int.toNat_of_nonneg h0] at h2
    have e : tm * (5 * b.count) = 5 * (tm * b.count) := by rw [Int.mul_left_comm]
    show (goM ks t _).sz ≤ s.sz + 5 * (tm * b.count + t.count)
    omega
structure GoPre (K : PySem.W.Frag) (F H : Hp) (a p b m u rp : Addr) (ws : List V) (r : Rows) (PM : ProgM) (s : RS) : Prop where
  R : RunAt K F H a p b m u s
  P : ProgAt K F p PM
  hp : F rp = some (.lst ws)
  hw : RowsAt K F r ws
  hs : r.small
  hg : GoOk PM.ks r s
  hz : s.sz + 5 * r.count ≤ 70000
def sp_Running_go (K : PySem.W.Frag) (d : Nat) : Sp := fun vs H Q _ => ∃ F a p b m u rp ws r PM s, vs = [.ref a, .ref rp] ∧ GoPre K F H a p b m u rp ws r PM s ∧ r.depth < d ∧
  ∀ H', RunAt K F H' a p b m u (goM PM.ks r s) → Q .non H'
abbrev N_Running_go : List Str := ["self", "rows", "row", "turn"]
theorem sc_Running_go : FnScope ["self", "rows", "row", "turn"] ["self", "rows"] (defScope s_Running_go) := ⟨rfl, rfl, rfl, by decide +kernel, rfl, by decide +kernel, by decide +kernel⟩
theorem ok_Running_go {f : Addr} {fd : FuncData} (T : Tx K mg) {d : Nat} (ih : ∀ C, C = He.ga K "Running" → MetX P w K mg base (d + 20) C "go" (sp_Running_go K d)) (F : FunP K "go" "Running.go" s_Running_go f fd) : FnOk P w K mg base (L2.CX P w) (d + 21) f fd ["self", "rows"] (sp_Running_go K (d + 1)) := by
  refine F.ok sc_Running_go (fun vs H Q E h => ?_) (fun cdv A outer s H vs Q E hr h => ?_)
  · repeat first | (obtain ⟨e, _⟩ := h; subst e; rfl; done) | (obtain ⟨_, h⟩ := h)
  refine ⟨_, (pss_one (ps_for oU rfl (pi_list (pv 1)) (pg_name (i := 2) sc_Running_go.nd rfl (Or.inl rfl))
  (pss_one (ps_if (pt_val (pe_callB call_isi (by rfl) (fr_isinstance T) (by decide +kernel) (pa_cons (pv 2) (pa_cons (pe_gref rfl (g_Repeat T)) pa_nil)))) (pss_one (ps_for oU rfl (pi_range1 rfl (fr_range T) (pa_cons (pe_fld (pv 2) rfl) pa_nil)) (pg_name (i := 3) sc_Running_go.nd rfl (Or.inl rfl))
  (pss_one (ps_expr (pe_mX ih hr (Nat.le_refl _) pU (pv 0) (pa_cons (pe_fld (pv 2) rfl) pa_nil)))))) (pss_one (ps_expr (pe_mX (met_Running_do T) hr (by omega) pU (pv 0) (pa_cons (pv 2) pa_nil)))))))), ?_⟩
  try dsimp only [cxK]
  obtain ⟨F0, a, p, b, m, u, rp, ws, r, PM, s0, rfl, G, hd, kq⟩ := h
  obtain ⟨R, P, hp, hw, hs, hg, hz⟩ := G
  refine r_forLv rfl (SqL.of (R.S _ _ hp)) ⟨fun i σ' H' => (∃ a1 a2, σ' = ((L2.start ["self", "rows", "row", "turn"] [V.ref a, V.ref rp]).set 2 a1).set 3 a2) ∧
    ∃ s', goM PM.ks r s0 = goM PM.ks (r.dropN i) s' ∧ GoOk PM.ks (r.dropN i) s' ∧ RunAt K F0 H' a p b m u s' ∧ s'.sz + 5 * (r.dropN i).count ≤ 70000,
    ⟨⟨none, none, rfl⟩, s0, rfl, hg, R, hz⟩, fun i σ' H' q => ?_, fun i x σ' H' hx q => ?_, fun σ' H' q => ?_⟩
  · obtain ⟨-, s', -, -, R', -⟩ := q
    exact SqL.of (R'.S _ _ hp)
  · obtain ⟨⟨a1, a2, rfl⟩, s', q1, q2, R', q4⟩ := q
    have sm := Rows.dropN_small hs i
    have sm2 := Rows.dropN_small hs (i + 1)
    have c0 := Rows.count0 sm.1
    have c1 := Rows.count0 sm2.1
    rcases hw.item hx with ⟨ln, rq, ra, dx, g, rr, n, rfl, er, ea, eg, err, en⟩ | ⟨ln, tm, body, ra, dx, bb, bs, rfl, er, ea, eb, hb⟩
    · rw [er] at q1 q2 q4
      have ea' := R'.S _ _ ea
      have hz' : s'.sz + 5 * (1 + (r.dropN (i + 1)).count) ≤ 70000 := q4
      have z : s'.sz = s'.env.length + s'.marks.length + s'.puts.length := rfl
      have hdz := doM_sz (ks := PM.ks) (ln := ln) (q := rq) (s := s')
      obtain ⟨adx, ea0⟩ := R'.ins
      walk_at "rd"
      refine (c_is T).1 ea' ?_
      walk_at "rd"
      refine r_methO ea0 rfl (lkU_none (by decide +kernel)) ?_
      walk_at "rd"
      refine ⟨F0, a, p, b, m, u, ra, dx, g, rr, n, PM, ln, rq, s', rfl, ⟨R', P, ea, eg, err, en, q2.1, by omega, by omega, by omega⟩, fun H2 R2 => ?_⟩
      walk_at "rd"
      exact ⟨⟨some (.ref ra), _, rfl⟩, doM PM.ks ln rq s', q1, q2.2, R2, by omega⟩
    · have hdep : body.depth < d := by have := sm.2; rw [er] at this; have h1 : body.depth + 1 ≤ r.depth := Nat.le_trans (Nat.le_max_left _ _) this; omega
      have sm' := sm.1
      rw [er] at sm' q1 q2 q4
      have ea' := R'.S _ _ ea
      obtain ⟨⟨t0, t1, gb⟩, gr⟩ := q2
      have b0 := Rows.count0 sm'.2.2.2.1
      have hz' : s'.sz + 5 * (tm * body.count + (r.dropN (i + 1)).count) ≤ 70000 := q4
      have gz : ∀ j : Nat, j ≤ tm.toNat → (iterN (goM PM.ks body) j s').sz ≤ s'.sz + j * (5 * body.count) := fun j _ => iterN_sz (fun s => goM_sz sm'.2.2.2.1) j s'
      walk_at "rd"
      refine (c_is T).2 ea' ?_
      refine ⟨true, rfl, ?_⟩
      rw [if_pos rfl]
      refine r_forI ?_
      walk_at "rd"
      refine r_fldO ea' (c_Repeat T) (na_Repeat_times T) lkP_times ?_
      walk_at "rd"
      refine ⟨tm, rfl, by omega, by omega, ?_⟩
      refine r_frGo (fun j σ' H' => (∃ z, σ' = ((L2.start ["self", "rows", "row", "turn"] [V.ref a, V.ref rp]).set 2 (some (.ref ra))).set 3 z) ∧ RunAt K F0 H' a p b m u (iterN (goM PM.ks body) j s')) ⟨⟨a2, rfl⟩, R'⟩ (fun j σ' H2 hj q => ?_) (fun σ' H2 q => ?_)
      · obtain ⟨⟨z, rfl⟩, R2⟩ := q
        obtain ⟨adx, ea0⟩ := R2.ins
        walk_at "rd"
        refine r_methO ea0 rfl (lkU_none (by decide +kernel)) ?_
        walk_at "rd"
        refine r_fldO (R2.S _ _ ea) (c_Repeat T) (na_Repeat_rows T) lkP_rows ?_
        walk_at "rd"
        refine ⟨F0, a, p, b, m, u, bb, bs, body, PM, iterN (goM PM.ks body) j s', rfl, ⟨R2, P, eb, hb, sm'.2.2.2.1, gb j hj, ?_⟩, hdep, fun H3 R3 => ?_⟩
        · have h1 := gz j (by omega)
          have h2 := gz (j + 1) (by omega)
          have hj' : (j : Int) + 1 ≤ tm := by omega
          have h3 : ((j : Int) + 1) * (5 * body.count) ≤ tm * (5 * body.count) := Int.mul_le_mul_of_nonneg_right hj' (by omega)
          have h4 : ((j : Int) + 1) * (5 * body.count) = j * (5 * body.count) + 5 * body.count := by rw [Int.add_mul, Int.one_mul]
          have h5 : tm * (5 * body.count) = 5 * (tm * body.count) := by rw [Int.mul_left_comm]
          omega
        · walk_at "rd"
          refine ⟨⟨some (.int (j : Nat)), rfl⟩, ?_⟩
          rw [iterN_succ]
          exact R3
      · obtain ⟨⟨z, rfl⟩, R2⟩ := q
        walk_at "rd"
        refine ⟨⟨some (.ref ra), z, rfl⟩, iterN (goM PM.ks body) tm.toNat s', q1, gr, R2, ?_⟩
        have h1 := gz tm.toNat (Nat.le_refl _)
        rw [Int.toNat_of_nonneg t0] at h1
        have h5 : tm * (5 * body.count) = 5 * (tm * body.count) := by rw [Int.mul_left_comm]
        omega
  · obtain ⟨-, s', q1, -, R', -⟩ := q
    rw [hw.done] at q1
    rw [q1] at kq
    exact kq _ R'
theorem met_Running_go' (T : Tx K mg) : ∀ d, ∀ C, C = He.ga K "Running" → MetX P w K mg base (d + 20) C "go" (sp_Running_go K d)
  | 0 => by
    rintro C rfl
    obtain ⟨fd, F⟩ := fn_Running_go T
    refine ⟨_, fd, ["self", "rows"], c_Running T, m_Running_go T, F.ok (k := 19) sc_Running_go (fun vs H Q E h => ?_) (fun cdv A outer s H vs Q E hr h => ?_), F.bindsN fun _ _ _ _ _ _ us hl => match us, hl with | [_, _], _ => rfl⟩
    · obtain ⟨F, a, p, b, m, u, rp, ws, r, PM, s, rfl, h1, h2, h3⟩ := h; exact absurd h2 (Nat.not_lt_zero _)
    · obtain ⟨F, a, p, b, m, u, rp, ws, r, PM, s, rfl, h1, h2, h3⟩ := h; exact absurd h2 (Nat.not_lt_zero _)
  | d + 1 => by
    rintro C rfl
    obtain ⟨fd, F⟩ := fn_Running_go T
    exact ⟨_, fd, _, c_Running T, m_Running_go T, ok_Running_go T (met_Running_go' T d) F, F.bindsN fun _ _ _ _ _ _ us hl => match us, hl with | [_, _], _ => rfl⟩
theorem met_Running_go (T : Tx K mg) : ∀ C, C = He.ga K "Running" → MetX P w K mg base 40 C "go" (sp_Running_go K 20) := met_Running_go' T 20
end
section
variable {P : Program} {w : World} {K : PySem.W.Frag} {mg : Str → Option Value} {base : Heap}
/-! ### words that are none -/
def OddO (o : HO) : Prop := (∃ xs, o = .lst xs ∧ ∀ i j k : Int, o ≠ .lst [.int i, .int j, .int k]) ∨ (∃ xs, o = .tup xs) ∨ ∃ k, o = .dK k
def OddV (H : Hp) (w : Int) (z : List Addr) (v : V) : Prop := (∃ i, v = .int i ∧ (i < 0 ∨ 2 ^ w.toNat ≤ i)) ∨ (∃ b, v = .bl b) ∨ v = .non ∨ (∃ s, v = .str s) ∨ ∃ c o, v = .ref c ∧ c ∉ z ∧ H c = some o ∧ OddO o
theorem OddV.move {H H' : Hp} {w : Int} {z : List Addr} {v : V} (h : OddV H w z v) (f : ∀ c o, c ∉ z → OddO o → H c = some o → H' c = some o) : OddV H' w z v := by
  rcases h with h | h | h | h | ⟨c, o, e, n, h1, h2⟩
  · exact .inl h
  · exact .inr (.inl h)
  · exact .inr (.inr (.inl h))
  · exact .inr (.inr (.inr (.inl h)))
  · exact .inr (.inr (.inr (.inr ⟨c, o, e, n, f c o n h2 h1, h2⟩)))
theorem OddV.on {H H' : Hp} {w : Int} {z : List Addr} {v : V} (h : OddV H w z v) (s : Same H H') : OddV H' w z v := h.move fun c o _ _ e => s _ _ e
theorem OddV.flat {H : Hp} {w : Int} {z : List Addr} {v : V} (h : OddV H w z v) : flatR v := by
  rcases h with ⟨i, rfl, -⟩ | ⟨b, rfl⟩ | rfl | ⟨s, rfl⟩ | ⟨c, o, rfl, -⟩
  · exact .inl rfl
  · exact .inl rfl
  · exact .inl rfl
  · exact .inl rfl
  · exact .inr ⟨c, rfl⟩
theorem OddO.notIns {o : HO} (h : OddO o) : ∀ C dx fs, o ≠ .ins C dx fs := by
  rcases h with ⟨xs, rfl, -⟩ | ⟨xs, rfl⟩ | ⟨k, rfl⟩ <;> exact fun _ _ _ z => nomatch z
theorem OddV.ty {K : PySem.W.Frag} {H : Hp} {w : Int} {z : List Addr} {v : V} (h : OddV H w z v) : (∃ i, v = .int i ∧ (i < 0 ∨ 2 ^ w.toNat ≤ i)) ∨ ∃ t, TyX K H v (.type t) ∧ t ∈ ["int", "bool", "str", "NoneType", "list", "tuple", "dict"] ∧ (t == "int") = false := by
  rcases h with h | ⟨b, rfl⟩ | rfl | ⟨s, rfl⟩ | ⟨c, o, rfl, -, e, h⟩
  · exact .inl h
  · exact .inr ⟨"bool", .base (.bl b), by decide, by decide⟩
  · exact .inr ⟨"NoneType", .base .non, by decide, by decide⟩
  · exact .inr ⟨"str", .base (.str s), by decide, by decide⟩
  · rcases h with ⟨xs, rfl, -⟩ | ⟨xs, rfl⟩ | ⟨k, rfl⟩
    · exact .inr ⟨"list", .base (.lst e), by decide, by decide⟩
    · exact .inr ⟨"tuple", .base (.tup e), by decide, by decide⟩
    · exact .inr ⟨"dict", .base (.dK e), by decide, by decide⟩

end
section
variable {P : Program} {w : World} {K : PySem.W.Frag} {mg : Str → Option Value} {base : Heap}
/-! ### inputs, good or not -/
def intV : V → Int
  | .int i => i
  | _ => 0
structure RunPre (K : PySem.W.Frag) (H : Hp) (p ins : Addr) (PM : ProgM) (kvi : List (Key × V)) (bv : Str → V) : Prop where
  hP : ProgAt K H p PM
  hi : H ins = some (.dK kvi)
  h4 : 4 ≤ PM.wd
  h32 : PM.wd ≤ 32
  hl : PM.ins.length ≤ 1000
  hv : ∀ x ∈ PM.ins, (valV kvi (Sum.inr x.1)).getD .non = bv x.1
theorem RunPre.on {K : PySem.W.Frag} {H H' : Hp} {p ins : Addr} {PM : ProgM} {kvi : List (Key × V)} {bv : Str → V} (h : RunPre K H p ins PM kvi bv) (s : Same H H') : RunPre K H' p ins PM kvi bv := ⟨h.hP.on s, s _ _ h.hi, h.h4, h.h32, h.hl, h.hv⟩
def OkV (w : Int) (v : V) : Prop := ∃ b, v = .int b ∧ 0 ≤ b ∧ b < 2 ^ w.toNat
def InGood (PM : ProgM) (bv : Str → V) : Prop := ∀ x ∈ PM.ins, OkV PM.wd (bv x.1)
def InBad (H : Hp) (z : List Addr) (PM : ProgM) (bv : Str → V) (nm : Str) : Prop := ∃ j kd, PM.ins[j]? = some (nm, kd) ∧ (∀ (i : Nat) (y : Str × KindM), i < j → PM.ins[i]? = some y → OkV PM.wd (bv y.1)) ∧ OddV H PM.wd z (bv nm)
theorem InBad.on {H H' : Hp} {z : List Addr} {PM : ProgM} {bv : Str → V} {nm : Str} (h : InBad H z PM bv nm) (s : Same H H') : InBad H' z PM bv nm := by
  obtain ⟨j, kd, h1, h2, h3⟩ := h
  exact ⟨j, kd, h1, h2, h3.on s⟩
/-- raised, the place a aside -/
def RzB (K : PySem.W.Frag) (E : XK) (H : Hp) (a : Addr) (C f : Str) (v : V) : Prop := ∀ d H', SameBut a H H' → H d = none → H' d = some (.xd [(f, v)]) → E (.ref (He.ga K C)) (some d) H'
def env0 (l : List (Str × KindM)) (ib : Str → Int) : List (Str × Int) := (l.map fun x => (x.1, ib x.1)).reverse
theorem env0_take' {l : List (Str × KindM)} {ib : Str → Int} {i : Nat} {nm : Str} {kd : KindM} (h : l[i]? = some (nm, kd)) : env0 (l.take (i + 1)) ib = (nm, ib nm) :: env0 (l.take i) ib := by
  unfold env0
  rw [List.take_add_one, h, List.map_append, List.reverse_append]
  rfl
def ibV (bv : Str → V) : Str → Int := fun n => intV (bv n)

end
section
variable {P : Program} {w : World} {K : PySem.W.Frag} {mg : Str → Option Value} {base : Heap}
def sp_Running_init (K : PySem.W.Frag) : Sp := fun vs H Q E => ∃ a dx p ins PM kvi, ∃ bv : Str → V, vs = [.ref a, .ref p, .ref ins] ∧ H a = some (.ins (He.ga K "Running") dx []) ∧ RunPre K H p ins PM kvi bv ∧
  ((InGood PM bv ∧ ∀ b m u F H', (∀ x o, x ≠ a → H x = some o → F x = some o) → H m = none → H u = none → RunAt K F H' a p b m u ⟨env0 PM.ins (ibV bv), [], []⟩ → Q .non H') ∨
   ∃ nm z, InBad H z PM bv nm ∧ RzB K E H a "NoInput" "name" (.str nm))
abbrev N_Running_init : List Str := ["self", "program", "inputs", "name", "kind", "bits"]
theorem sc_Running_init : FnScope ["self", "program", "inputs", "name", "kind", "bits"] ["self", "program", "inputs"] (defScope s_Running_init) := ⟨rfl, rfl, rfl, by decide +kernel, rfl, by decide +kernel, by decide +kernel⟩
theorem ok_Running_init {f : Addr} {fd : FuncData} (T : Tx K mg)  (F : FunP K "__init__" "Running.__init__" s_Running_init f fd) : FnOk P w K mg base (L2.CX P w) 3 f fd ["self", "program", "inputs"] (sp_Running_init K) := by
  refine F.ok sc_Running_init (fun vs H Q E h => ?_) (fun cdv A outer s H vs Q E hr h => ?_)
  · repeat first | (obtain ⟨e, _⟩ := h; subst e; rfl; done) | (obtain ⟨_, h⟩ := h)
  refine ⟨_, (pss_cons (ps_fld (pv 0) (pv 1) rfl)
  (pss_cons (ps_fld (pv 0) pe_dnewK rfl)
  (pss_cons (ps_fld (pv 0) (pe_lst pa_nil) rfl)
  (pss_cons (ps_fld (pv 0) (pe_lst pa_nil) rfl)
  (pss_one (ps_for oU rfl (pi_list (pe_fld (pv 1) rfl)) (pg_tup rfl (pgs_cons (pg_name (i := 3) sc_Running_init.nd rfl (Or.inl rfl)) (pgs_cons (pg_name (i := 4) sc_Running_init.nd rfl (Or.inl rfl)) pgs_nil)))
  (pss_cons (ps_set (i := 5) sc_Running_init.nd rfl (Or.inl rfl) (pe_dget1 (hu_of hr) (pv 2) (pv 3) ⟨by rfl, by rfl, by rfl, by rfl⟩))
  (pss_cons (ps_if (PW.pt (pw_or (pt_not (pt_val (pe_cX (cal_is_whole T) hr (by decide) rfl pU (pa_cons (pv 5) pa_nil)))) (pw_or1 (pt_not (pt_chain op_le op_lt pe_int (pv 5) (pe_op op_shl pe_int (pe_fld (pv 1) rfl))))))) (pss_one (ps_rX rfl tU (exc_NoInput T) hr (by decide) rfl (pa_cons (pv 3) pa_nil))) pss_nil)
  (pss_one (ps_dput (hu_of hr) (pe_fld (pv 0) rfl) (pv 3) (pv 5) rfl)))))))))), ?_⟩
  try dsimp only [cxK]
  obtain ⟨a, dx, p, ins, PM, kvi, bv, rfl, ha, ⟨hP, hi, h4, h32, hil, hbv⟩, hQ⟩ := h
  obtain ⟨J, hJ, hgood, hbad⟩ : ∃ J, J ≤ PM.ins.length ∧ (∀ i y, i < J → PM.ins[i]? = some y → OkV PM.wd (bv y.1)) ∧ ((J = PM.ins.length ∧ ∀ b m u F H', (∀ x o, x ≠ a → H x = some o → F x = some o) → H m = none → H u = none → RunAt K F H' a p b m u ⟨env0 PM.ins (ibV bv), [], []⟩ → Q .non H') ∨
      ∃ nm kd z, PM.ins[J]? = some (nm, kd) ∧ OddV H PM.wd z (bv nm) ∧ RzB K E H a "NoInput" "name" (.str nm)) := by
    rcases hQ with ⟨g, k⟩ | ⟨nm, z, ⟨j, kd, e1, e2, e3⟩, k⟩
    · exact ⟨_, Nat.le_refl _, fun i y _ e => g y (List.mem_of_getElem? e), .inl ⟨rfl, k⟩⟩
    · exact ⟨j, Nat.le_of_lt (List.getElem?_eq_some_iff.mp e1).1, e2, .inr ⟨nm, kd, z, e1, e3, k⟩⟩
  clear hQ
  obtain ⟨pdx, pi, pr, po, pk, vi, vr, kvs, hp1, hp2, hp3, -⟩ := hP
  walk_at "rd"
  refine ⟨a, _, dx, [], rfl, ha, c_Running T, na_Running_program T, by decide, ?_⟩
  have f1 : ∀ x o, x ≠ a → H x = some o → upd H a (.ins (He.ga K "Running") dx (putF "program" (.ref p) [])) x = some o := fun x o hx e => by rw [upd_ne hx]; exact e
  have e1 : upd H a (.ins (He.ga K "Running") dx (putF "program" (.ref p) [])) a = some (.ins (He.ga K "Running") dx [("program", .ref p)]) := upd_same
  have n1 : ∀ x, upd H a (.ins (He.ga K "Running") dx (putF "program" (.ref p) [])) x = none → H x = none := fun x e => by
    by_cases hx : x = a
    · rw [hx, upd_same] at e; cases e
    · rwa [upd_ne hx] at e
  generalize upd H a (.ins (He.ga K "Running") dx (putF "program" (.ref p) [])) = H1 at *
  with_reducible refine r_seq ?_
  refine r_newFldD rfl e1 (c_Running T) (na_Running_bits T) (by show 1 < 1000; decide) ["program"] rfl (by decide +kernel) fun b H2 b1 ba b2 a2 g2 => ?_
  with_reducible refine r_seq ?_
  refine r_newFld rfl a2 (c_Running T) (na_Running_marks T) (by show 2 < 1000; decide) ["program", "bits"] rfl (by decide +kernel) fun m H3 m1 ma m2 a3 g3 => ?_
  with_reducible refine r_seq ?_
  refine r_newFld rfl a3 (c_Running T) (na_Running_puts T) (by show 3 < 1000; decide) ["program", "bits", "marks"] rfl (by decide +kernel) fun u H4 u1 ua u2 a4 g4 => ?_
  have bm : b ≠ m := fun z => by rw [← z, b2] at m1; cases m1
  have bu : b ≠ u := fun z => by rw [← z, g3 b ba bm, b2] at u1; cases u1
  have mu : m ≠ u := fun z => by rw [← z, m2] at u1; cases u1
  have m0 : H1 m = none := by rw [g2 m ma bm.symm] at m1; exact m1
  have u0 : H1 u = none := by rw [g3 u ua mu.symm, g2 u ua bu.symm] at u1; exact u1
  have a4 : H4 a = some (.ins (He.ga K "Running") dx (runFs p b m u)) := a4
  have f4 : ∀ x o, H1 x = some o → x ≠ a → H4 x = some o := fun x o e hx => by
    rw [g4 x hx (ne_of_none e u0), g3 x hx (ne_of_none e m0), g2 x hx (ne_of_none e b1)]; exact e
  have b4 : H4 b = some (.dK []) := by rw [g4 b ba bu, g3 b ba bm]; exact b2
  have m4 : H4 m = some (.lst []) := by rw [g4 m ma mu]; exact m2
  -- all but the three places is frozen
  have R0 : RunAt K (del (del (del H4 b) m) u) H4 a p b m u ⟨[], [], []⟩ := by
    refine ⟨fun x o e => ?_, ⟨dx, ?_⟩, ?_, ?_, del_same, mu, ⟨[], b4, Nat.le_refl _, fun n => rfl⟩, ⟨[], m4, rfl⟩, ⟨[], u2, rfl⟩⟩
    · by_cases xu : x = u
      · rw [xu, del_same] at e; cases e
      · rw [del_ne xu] at e
        by_cases xm : x = m
        · rw [xm, del_same] at e; cases e
        · rw [del_ne xm] at e
          by_cases xb : x = b
          · rw [xb, del_same] at e; cases e
          · rwa [del_ne xb] at e
    · rw [del_ne ua.symm, del_ne ma.symm, del_ne ba.symm]; exact a4
    · rw [del_ne bu, del_ne bm, del_same]
    · rw [del_ne mu, del_same]
  have fF : ∀ x o, x ≠ a → H x = some o → del (del (del H4 b) m) u x = some o := fun x o hx e => by
    have e1 := f1 x o hx e
    rw [del_ne (ne_of_none e1 u0), del_ne (ne_of_none e1 m0), del_ne (ne_of_none e1 b1)]
    exact f4 x o e1 hx
  generalize del (del (del H4 b) m) u = F at *
  have pne : ∀ {x : Addr} {o : HO}, H x = some o → (∀ C dx fs, o ≠ .ins C dx fs) → x ≠ a := fun e ho z => by rw [z, ha] at e; exact ho _ _ _ (Option.some.inj e).symm
  have pa : p ≠ a := fun z => by
    rw [z, ha] at hp1
    have := Option.some.inj hp1
    injection this with h1 h2 h3
    exact absurd h3 (by unfold progFs; exact fun z => nomatch z)
  have P1 := fF _ _ pa hp1
  have P2 := fF _ _ (pne hp2 fun C dx fs z => nomatch z) hp2
  have I1 := fF _ _ (pne hi fun C dx fs z => nomatch z) hi
  have P3 : ∀ (i : Nat) (x : V), vi[i]? = some x → ∃ nm kd t k, PM.ins[i]? = some (nm, kd) ∧ x = V.ref t ∧ F t = some (.tup [.str nm, .ref k]) := fun i x hx => by
    obtain ⟨nm, kd, t, k, e1, e2, e3, -⟩ := hp3.item hx
    exact ⟨nm, kd, t, k, e1, e2, fF _ _ (pne e3 fun C dx fs z => nomatch z) e3⟩
  have hlen := hp3.len
  clear g2 g3 g4 f1 f4 e1 b2 m2 u2 a2 a3 a4 b4 m4 m1 u1 b1
  have fO : ∀ c o, OddO o → H c = some o → F c = some o := fun c o ho e => fF c o (fun z => by rw [z, ha] at e; exact ho.notIns _ _ _ (Option.some.inj e).symm) e
  have fB : ∀ H', RunAt K F H' a p b m u ⟨env0 (PM.ins.take J) (ibV bv), [], []⟩ → SameBut a H H' := fun H' R x o hx e => R.S _ _ (fF x o hx e)
  have a0 : H a ≠ none := by rw [ha]; exact fun z => nomatch z
  have m0' := n1 _ m0
  have u0' := n1 _ u0
  clear n1
  refine r_forGf (n := 1) rfl (R0.S _ _ P1) (c_Program T) (na_Program_inputs T) lkQ_inputs (SqL.of (R0.S _ _ P2)) (fun i σ' H' => (∃ z1 z2 z3, σ' = (((L2.start ["self", "program", "inputs", "name", "kind", "bits"] [V.ref a, V.ref p, V.ref ins]).set 3 z1).set 4 z2).set 5 z3) ∧
    RunAt K F H' a p b m u ⟨env0 (PM.ins.take i) (ibV bv), [], []⟩ ∧ i ≤ J) ⟨⟨none, none, none, rfl⟩, R0, Nat.zero_le _⟩ (fun i σ' H' q => SqL.of (q.2.1.S _ _ P2)) (fun i x σ' H' hx q => ?_) (fun σ' H' q => ?_)
  · obtain ⟨⟨z1, z2, z3, rfl⟩, R, iJ⟩ := q
    obtain ⟨nm, kd, t, k, el, rfl, et⟩ := P3 i x hx
    have hv := hbv (nm, kd) (List.mem_of_getElem? el)
    have hv : (valV kvi (Sum.inr nm)).getD .non = bv nm := hv
    have hj := (List.getElem?_eq_some_iff.mp el).1
    refine r_gT2 (SqT.of (R.S _ _ et)) ?_
    walk_at "rd"
    refine r_dget1 ?_
    walk_at "rd"
    refine ⟨.inl ⟨kvi, .inl (R.S _ _ I1)⟩, ?_⟩
    walk_at "rd"
    refine ⟨_, DGet.k (k := Sum.inr nm) (R.S _ _ I1), ?_⟩
    rw [hv]
    walk_at "rd"
    by_cases iJ2 : i < J
    · obtain ⟨bb, ev, h0, hB⟩ := hgood i (nm, kd) iJ2 el
      have ev : bv nm = .int bb := ev
      rw [ev]
      refine ⟨.int bb, "int", rfl, .base (.int _), by decide, ?_⟩
      rw [show ("int" == "int") = true by decide]
      walk_at "rd"
      refine r_DT h0 ?_
      walk_at "rd"
      refine r_fldO (R.S _ _ P1) (c_Program T) (na_Program_width T) lkQ_width ?_
      refine r_I ⟨by omega, by omega, by decide⟩ ?_
      rw [Int.one_mul]
      walk_at "rd"
      rw [decide_eq_true hB]
      walk_at "rd"
      obtain ⟨adx, ea⟩ := R.ins
      obtain ⟨kv, b1, b2⟩ := R.hb
      refine r_fldO ea (c_Running T) (na_Running_bits T) lkU_bits ?_
      walk_at "rd"
      have hl : (env0 (PM.ins.take i) (ibV bv)).length ≤ 1000 := by unfold env0; rw [List.length_reverse, List.length_map, List.length_take]; omega
      refine r_dputS b1 (by have h0 : kv.length ≤ (env0 (PM.ins.take i) (ibV bv)).length := b2.1; omega) ?_
      have R1 := R.setB b1 nm bb
      refine ⟨⟨_, _, _, rfl⟩, ?_, by omega⟩
      rw [env0_take' el, show ibV bv nm = bb by unfold ibV; rw [ev]; rfl]
      exact R1
    · obtain rfl : i = J := by omega
      rcases hbad with ⟨e, -⟩ | ⟨nm', kd', z, e1, e2, rz⟩
      · omega
      rw [el] at e1
      obtain ⟨rfl, rfl⟩ : nm = nm' ∧ kd = kd' := Prod.mk.inj (Option.some.inj e1)
      have e3 : OddV H' PM.wd z (bv nm) := e2.move fun c o _ ho e => R.S _ _ (fO c o ho e)
      have rz2 : Rz1 K E H' "NoInput" "name" (.str nm) := fun d H2 s2 hd e => rz d H2 (fun x o hx ex => s2 _ _ (fB H' R x o hx ex)) (by
        cases eh : H d with
        | none => rfl
        | some o =>
          by_cases hda : d = a
          · obtain ⟨adx, ea⟩ := R.ins
            rw [hda, ea] at hd; cases hd
          · rw [fB H' R d o hda eh] at hd; cases hd) e
      rcases e3.ty (K := K) with ⟨bb, ev, hr⟩ | ⟨t, ht, hm, hne⟩
      · rw [ev]
        refine ⟨.int bb, "int", rfl, .base (.int _), by decide, ?_⟩
        rw [show ("int" == "int") = true by decide]
        walk_at "rd"
        by_cases h0 : 0 ≤ bb
        · rw [decide_eq_true h0]
          walk_at "rd"
          refine r_fldO (R.S _ _ P1) (c_Program T) (na_Program_width T) lkQ_width ?_
          refine r_I ⟨by omega, by omega, by decide⟩ ?_
          rw [Int.one_mul]
          walk_at "rd"
          rw [decide_eq_false (show ¬ bb < 2 ^ PM.wd.toNat by omega)]
          walk_at "rd"
          exact mk1 rz2
        · rw [decide_eq_false h0]
          walk_at "rd"
          exact mk1 rz2
      · refine ⟨_, t, rfl, ht, hm, ?_⟩
        rw [hne]
        walk_at "rd"
        exact mk1 rz2
  · obtain ⟨⟨z1, z2, z3, rfl⟩, R, iJ⟩ := q
    rw [hlen] at iJ R
    rw [List.take_length] at R
    rcases hbad with ⟨-, kq⟩ | ⟨nm', kd', z, e1, -, -⟩
    · exact kq b m u F H' fF m0' u0' R
    · have := (List.getElem?_eq_some_iff.mp e1).1
      omega
theorem mak_Running (T : Tx K mg) : MakX P w K mg base 3 "Running" (He.ga K "Running") (sp_Running_init K) := by
  obtain ⟨fd, F⟩ := fn_Running_init T
  exact ⟨_, fd, _, mk_Running T, ok_Running_init T F, g_Running T, F.bindsN fun _ _ _ _ _ _ us hl => match us, hl with | [_, _, _], _ => rfl⟩

end
section
variable {P : Program} {w : World} {K : PySem.W.Frag} {mg : Str → Option Value} {base : Heap}
def sp_ran (K : PySem.W.Frag) : Sp := fun vs H Q E => ∃ p ins PM kvi, ∃ bv : Str → V, vs = [.ref p, .ref ins] ∧ RunPre K H p ins PM kvi bv ∧
  ((InGood PM bv ∧ GoOk PM.ks PM.rows ⟨env0 PM.ins (ibV bv), [], []⟩ ∧ PM.rows.small ∧ PM.rows.depth < 20 ∧ 5 * PM.rows.count ≤ 60000 ∧
    ∀ a b m u F H', Same H F → H a = none → RunAt K F H' a p b m u (goM PM.ks PM.rows ⟨env0 PM.ins (ibV bv), [], []⟩) → Q (.ref a) H') ∨
   ∃ nm z, InBad H z PM bv nm ∧ Rz1 K E H "NoInput" "name" (.str nm))
abbrev N_ran : List Str := ["program", "inputs", "running"]
theorem sc_ran : FnScope ["program", "inputs", "running"] ["program", "inputs"] (defScope s_ran) := ⟨rfl, rfl, rfl, by decide +kernel, rfl, by decide +kernel, by decide +kernel⟩
theorem ok_ran {f : Addr} {fd : FuncData} (T : Tx K mg)  (F : FunP K "ran" "ran" s_ran f fd) : FnOk P w K mg base (L2.CX P w) 41 f fd ["program", "inputs"] (sp_ran K) := by
  refine F.ok sc_ran (fun vs H Q E h => ?_) (fun cdv A outer s H vs Q E hr h => ?_)
  · repeat first | (obtain ⟨e, _⟩ := h; subst e; rfl; done) | (obtain ⟨_, h⟩ := h)
  refine ⟨_, (pss_cons (ps_set (i := 2) sc_ran.nd rfl (Or.inl rfl) (pe_kX (mak_Running T) hr (by decide) rfl pU (pa_cons (pv 0) (pa_cons (pv 1) pa_nil))))
  (pss_cons (ps_expr (pe_mX (met_Running_go T) hr (by decide) pU (pv 2) (pa_cons (pe_fld (pv 0) rfl) pa_nil)))
  (pss_one (ps_ret (pv 2))))), ?_⟩
  try dsimp only [cxK]
  obtain ⟨p, ins, PM, kvi, bv, rfl, RP, hQ⟩ := h
  walk_at "rd"
  intro a dx ha hdx hda
  have s0 : Same H (upd (upd H dx (.own a)) a (.ins (He.ga K "Running") dx [])) := fun y o e => by
    rw [upd_ne (ne_of_none e ha), upd_ne (ne_of_none e hdx)]; exact e
  have sa : ∀ y o, H y = some o → y ≠ a := fun y o e => ne_of_none e ha
  have e0 : upd (upd H dx (.own a)) a (.ins (He.ga K "Running") dx []) a = some (.ins (He.ga K "Running") dx []) := upd_same
  generalize upd (upd H dx (.own a)) a (.ins (He.ga K "Running") dx []) = H1 at *
  have RP1 := RP.on s0
  refine ⟨a, dx, p, ins, PM, kvi, bv, rfl, e0, RP1, ?_⟩
  rcases hQ with ⟨hib, hg, hs, hd, hc, kq⟩ | ⟨nm, z, hb, rz⟩
  · refine .inl ⟨hib, fun b m u F1 H2 f1 _ _ R => ⟨rfl, ?_⟩⟩
    have S1 : Same H F1 := fun y o e => f1 y o (sa y o e) (s0 _ _ e)
    have hP1 := RP.hP.on S1
    have hil := RP.hl
    have hP2 := hP1
    obtain ⟨pdx, pi, pr, po, pk, vi, vr, kvs, hp1, -, -, hp4, hp5, -, -, -⟩ := hP2
    obtain ⟨adx, ea⟩ := R.ins
    have l0 : (env0 PM.ins (ibV bv)).length = PM.ins.length := by unfold env0; rw [List.length_reverse, List.length_map]
    walk_at "rd"
    refine r_methO ea rfl (lkU_none (by decide +kernel)) ?_
    walk_at "rd"
    refine r_fldO (R.S _ _ hp1) (c_Program T) (na_Program_rows T) lkQ_rows ?_
    walk_at "rd"
    refine ⟨F1, a, p, b, m, u, pr, vr, PM.rows, PM, _, rfl, ⟨R, hP1, hp4, hp5, hs, hg, ?_⟩, hd, fun H3 R3 => ?_⟩
    · show (((env0 PM.ins (ibV bv)).length : Int) + (0 : Nat) + (0 : Nat)) + 5 * PM.rows.count ≤ 70000
      rw [l0]; omega
    · walk_at "rd"
      exact kq a b m u F1 H3 S1 ha R3
  · refine .inr ⟨nm, z, hb.on s0, fun d H' s' hd e => rz d H' (fun x o ex => s' x o (sa x o ex) (s0 _ _ ex)) (s0.free hd) e⟩
theorem cal_ran (T : Tx K mg) : CalX P w K mg base 41 "ran" (sp_ran K) [] := by
  obtain ⟨fd, F⟩ := fn_ran T
  exact ⟨_, fd, _, [], ok_ran T F, g_ran T, F.kp, F.bindsN fun _ _ _ _ _ _ us hl => match us, hl with | [_, _], _ => rfl, .nil⟩

end
section
variable {P : Program} {w : World} {K : PySem.W.Frag} {mg : Str → Option Value} {base : Heap}
def outK (e : List (Str × Int)) (ns : List Str) : List (Key × V) := ns.map fun n => ((Sum.inr n : Key), V.int (getB e n))
theorem outK_none {e : List (Str × Int)} {n : Str} : ∀ {ns : List Str}, n ∉ ns → valV (outK e ns) (Sum.inr n) = none
  | [], _ => rfl
  | x :: ns, h => by
    rw [List.mem_cons, not_or] at h
    show valV ((_, _) :: outK e ns) _ = none
    rw [valV_neg (fun z => h.1 (Sum.inr.inj z).symm)]
    exact outK_none h.2
theorem outK_val {e : List (Str × Int)} {n : Str} : ∀ {ns : List Str}, n ∈ ns → valV (outK e ns) (Sum.inr n) = some (.int (getB e n))
  | [], h => by cases h
  | x :: ns, h => by
    show valV ((_, _) :: outK e ns) _ = _
    by_cases c : x = n
    · subst c; rw [valV_pos rfl]
    · rw [valV_neg (fun z => c (Sum.inr.inj z))]
      exact outK_val ((List.mem_cons.mp h).resolve_left fun z => c z.symm)
theorem outK_take {e : List (Str × Int)} {n : Str} {ns : List Str} {i : Nat} (h : ns[i]? = some n) : outK e (ns.take (i + 1)) = outK e (ns.take i) ++ [(Sum.inr n, .int (getB e n))] := by
  unfold outK
  rw [List.take_add_one, h, List.map_append]
  rfl
theorem outs_take {n : Str} : ∀ {ns : List Str} {i : Nat}, ns.Nodup → ns[i]? = some n → n ∉ ns.take i
  | _, 0, _, _ => fun z => by cases z
  | [], _ + 1, _, h => by cases h
  | x :: ns, i + 1, hn, h => by
    rw [List.nodup_cons] at hn
    rw [List.take_succ_cons, List.mem_cons, not_or]
    exact ⟨fun z => hn.1 (z ▸ List.mem_of_getElem? h), outs_take hn.2 h⟩
def sp_run (K : PySem.W.Frag) : Sp := fun vs H Q E => ∃ p ins PM kvi, ∃ bv : Str → V, vs = [.ref p, .ref ins] ∧ RunPre K H p ins PM kvi bv ∧
  ((InGood PM bv ∧ GoOk PM.ks PM.rows ⟨env0 PM.ins (ibV bv), [], []⟩ ∧ PM.rows.small ∧ PM.rows.depth < 20 ∧ 5 * PM.rows.count ≤ 60000 ∧ PM.outs.length ≤ 1000 ∧ PM.outs.Nodup ∧
    (∀ n ∈ PM.outs, ((goM PM.ks PM.rows ⟨env0 PM.ins (ibV bv), [], []⟩).env.lookup n).isSome = true) ∧
    ∀ t o m vm H', Same H H' → H' t = some (.tup [.ref o, .ref m]) → H' o = some (.dK (outK (goM PM.ks PM.rows ⟨env0 PM.ins (ibV bv), [], []⟩).env PM.outs)) → H' m = some (.lst vm) → MarksAt H' (goM PM.ks PM.rows ⟨env0 PM.ins (ibV bv), [], []⟩).marks vm → Q (.ref t) H') ∨
   ∃ nm z, InBad H z PM bv nm ∧ Rz1 K E H "NoInput" "name" (.str nm))
abbrev N_run : List Str := ["program", "inputs", "running", "outs", "name"]
theorem sc_run : FnScope ["program", "inputs", "running", "outs", "name"] ["program", "inputs"] (defScope s_run) := ⟨rfl, rfl, rfl, by decide +kernel, rfl, by decide +kernel, by decide +kernel⟩
theorem ok_run {f : Addr} {fd : FuncData} (T : Tx K mg)  (F : FunP K "run" "run" s_run f fd) : FnOk P w K mg base (L2.CX P w) 42 f fd ["program", "inputs"] (sp_run K) := by
  refine F.ok sc_run (fun vs H Q E h => ?_) (fun cdv A outer s H vs Q E hr h => ?_)
  · repeat first | (obtain ⟨e, _⟩ := h; subst e; rfl; done) | (obtain ⟨_, h⟩ := h)
  refine ⟨_, (pss_cons (ps_set (i := 2) sc_run.nd rfl (Or.inl rfl) (pe_cX (cal_ran T) hr (by decide) rfl pU (pa_cons (pv 0) (pa_cons (pv 1) pa_nil))))
  (pss_cons (ps_set (i := 3) sc_run.nd rfl (Or.inl rfl) pe_dnewK)
  (pss_cons (ps_for oU rfl (pi_list (pe_fld (pv 0) rfl)) (pg_name (i := 4) sc_run.nd rfl (Or.inl rfl))
  (pss_one (ps_dput (hu_of hr) (pv 3) (pv 4) (pe_dget (hu_of hr) (pe_fld (pv 2) rfl) (pv 4) (fun _ _ => rfl)) rfl)))
  (pss_one (ps_ret (pe_tup (pa_cons (pv 3) (pa_cons (pe_fld (pv 2) rfl) pa_nil)))))))), ?_⟩
  try dsimp only [cxK]
  obtain ⟨p, ins, PM, kvi, bv, rfl, RP, hQ⟩ := h
  walk_at "rd"
  refine ⟨p, ins, PM, kvi, bv, rfl, RP, ?_⟩
  rcases hQ with hQ | ⟨nm, z, hb, rz⟩
  rotate_left
  · exact .inr ⟨nm, z, hb, rz⟩
  obtain ⟨hib, hg, hs, hd, hc, hol, hnd, hno, kq⟩ := hQ
  refine .inl ⟨hib, hg, hs, hd, hc, fun a b m u F0 H1 S1 ha R => ?_⟩
  have hP := RP.hP
  obtain ⟨pdx, pi, pr, po, pk, vi, vr, kvs, hp1, -, -, -, -, hp6, -, -⟩ := hP.on S1
  generalize goM PM.ks PM.rows ⟨env0 PM.ins (ibV bv), [], []⟩ = s1 at *
  walk_at "rd"
  refine fun o ho => ?_
  have s2 := Same.new (o := .dK []) ho
  have e2 : upd H1 o (.dK []) o = some (.dK []) := upd_same
  have R2 := R.to s2
  have fo : F0 o = none := by
    cases e : F0 o with
    | none => rfl
    | some x => rw [R.S _ _ e] at ho; cases ho
  have ob : ∀ {x : Addr} {w : HO}, H1 x = some w → x ≠ o := fun e => ne_of_none e ho
  obtain ⟨kvx, hbx, hby⟩ := R.hb
  obtain ⟨vmx, hmx, hmy⟩ := R.hm
  have hb2 := s2 _ _ hbx
  have hm2 := s2 _ _ hmx
  have hm3 : MarksAt (upd H1 o (.dK [])) s1.marks vmx := hmy.move fun x us e => s2 _ _ e
  have bo := ob hbx
  have mo := ob hmx
  obtain ⟨adx, ea⟩ := R2.ins
  have ao : a ≠ o := ne_of_none R.o.choose_spec fo
  have p2 := s2 _ _ (R.S _ _ hp1)
  have o2 := s2 _ _ (R.S _ _ hp6)
  have pne : p ≠ o := ne_of_none hp1 fo
  have one : po ≠ o := ne_of_none hp6 fo
  have sH : Same H (upd H1 o (.dK [])) := fun x w e => s2 _ _ (R.S _ _ (S1 _ _ e))
  have sn : ∀ {x : Addr} {w : HO}, H x = some w → x ≠ o := fun e => ob (R.S _ _ (S1 _ _ e))
  generalize upd H1 o (.dK []) = H2 at *
  clear s2 ho R ob hbx hmx hmy R2
  walk_at "rd"
  refine r_forLf rfl p2 (c_Program T) (na_Program_outs T) lkQ_outs (SqL.of o2) ⟨fun i σ' H' => (∃ z, σ' = ((((L2.start ["program", "inputs", "running", "outs", "name"] [V.ref p, V.ref ins]).set 2 (some (.ref a))).set 3 (some (.ref o))).set 4 z)) ∧
    H' o = some (.dK (outK s1.env (PM.outs.take i))) ∧ ∀ x, x ≠ o → H' x = H2 x, ⟨⟨none, rfl⟩, e2, fun x _ => rfl⟩, fun i σ' H' q => ?_, fun i y σ' H' hy q => ?_, fun σ' H' q => ?_⟩
  · exact SqL.of (by rw [q.2.2 _ one]; exact o2)
  · obtain ⟨⟨z, rfl⟩, q1, q2⟩ := q
    obtain ⟨nm, hb, rfl⟩ : ∃ b, PM.outs[i]? = some b ∧ y = V.str b := by
      rw [List.getElem?_map] at hy
      cases e : PM.outs[i]? with
      | none => rw [e] at hy; cases hy
      | some y => rw [e] at hy; exact ⟨y, rfl, (Option.some.inj hy).symm⟩
    have hs' := hno nm (List.mem_of_getElem? hb)
    have ev : valV kvx (Sum.inr nm) = some (.int (getB s1.env nm)) := by
      rw [hby.2 nm]
      unfold getB
      cases e : s1.env.lookup nm with
      | none => rw [e] at hs'; cases hs'
      | some v => rfl
    walk_at "rd"
    refine r_dget ?_
    walk_at "rd"
    refine r_fldO (by rw [q2 _ ao]; exact ea) (c_Running T) (na_Running_bits T) lkU_bits ?_
    walk_at "rd"
    refine r_dgetS (by rw [q2 _ bo]; exact hb2) ev ?_
    walk_at "rd"
    have hj := (List.getElem?_eq_some_iff.mp hb).1
    refine r_dputS q1 (by unfold outK; rw [List.length_map, List.length_take]; omega) ?_
    rw [putK_new _ (outK_none (outs_take hnd hb)), ← outK_take hb]
    exact ⟨⟨some (.str nm), rfl⟩, upd_same, fun x hx => by rw [upd_ne hx]; exact q2 x hx⟩
  · obtain ⟨⟨z, rfl⟩, q1, q2⟩ := q
    rw [List.length_map, List.take_length] at q1
    walk_at "rd"
    refine r_fldO (by rw [q2 _ ao]; exact ea) (c_Running T) (na_Running_marks T) lkU_marks ?_
    walk_at "rd"
    refine r_newL fun t ht => ?_
    have s5 := Same.new (o := .tup [V.ref o, V.ref m]) ht
    refine kq t o m vmx _ (fun x w e => s5 _ _ (by rw [q2 _ (sn e)]; exact sH _ _ e)) upd_same (s5 _ _ q1) (s5 _ _ (by rw [q2 _ mo]; exact hm2)) (hm3.move fun x us e => s5 _ _ ?_)
    by_cases hx : x = o
    · rw [hx, e2] at e; cases e
    · rw [q2 _ hx]; exact e
theorem cal_run (T : Tx K mg) : CalX P w K mg base 42 "run" (sp_run K) [] := by
  obtain ⟨fd, F⟩ := fn_run T
  exact ⟨_, fd, _, [], ok_run T F, g_run T, F.kp, F.bindsN fun _ _ _ _ _ _ us hl => match us, hl with | [_, _], _ => rfl, .nil⟩

end
section
variable {P : Program} {w : World} {K : PySem.W.Frag} {mg : Str → Option Value} {base : Heap}
def sp_trace (K : PySem.W.Frag) : Sp := fun vs H Q E => ∃ p ins PM kvi, ∃ bv : Str → V, vs = [.ref p, .ref ins] ∧ RunPre K H p ins PM kvi bv ∧
  ((InGood PM bv ∧ GoOk PM.ks PM.rows ⟨env0 PM.ins (ibV bv), [], []⟩ ∧ PM.rows.small ∧ PM.rows.depth < 20 ∧ 5 * PM.rows.count ≤ 60000 ∧
    ∀ u vu H', Same H H' → H' u = some (.lst vu) → PutsAt H' (goM PM.ks PM.rows ⟨env0 PM.ins (ibV bv), [], []⟩).puts vu → Q (.ref u) H') ∨
   ∃ nm z, InBad H z PM bv nm ∧ Rz1 K E H "NoInput" "name" (.str nm))
abbrev N_trace : List Str := ["program", "inputs"]
theorem sc_trace : FnScope ["program", "inputs"] ["program", "inputs"] (defScope s_trace) := ⟨rfl, rfl, rfl, by decide +kernel, rfl, by decide +kernel, by decide +kernel⟩
theorem ok_trace {f : Addr} {fd : FuncData} (T : Tx K mg)  (F : FunP K "trace" "trace" s_trace f fd) : FnOk P w K mg base (L2.CX P w) 42 f fd ["program", "inputs"] (sp_trace K) := by
  refine F.ok sc_trace (fun vs H Q E h => ?_) (fun cdv A outer s H vs Q E hr h => ?_)
  · repeat first | (obtain ⟨e, _⟩ := h; subst e; rfl; done) | (obtain ⟨_, h⟩ := h)
  refine ⟨_, (pss_one (ps_ret (pe_fld (pe_cX (cal_ran T) hr (by decide) rfl pU (pa_cons (pv 0) (pa_cons (pv 1) pa_nil))) rfl))), ?_⟩
  try dsimp only [cxK]
  obtain ⟨p, ins, PM, kvi, bv, rfl, RP, hQ⟩ := h
  walk_at "rd"
  refine ⟨p, ins, PM, kvi, bv, rfl, RP, ?_⟩
  rcases hQ with hQ | ⟨nm, z, hb, rz⟩
  rotate_left
  · exact .inr ⟨nm, z, hb, rz⟩
  obtain ⟨hib, hg, hs, hd, hc, kq⟩ := hQ
  refine .inl ⟨hib, hg, hs, hd, hc, fun a b m u F0 H1 S1 ha R => ?_⟩
  obtain ⟨adx, ea⟩ := R.ins
  obtain ⟨vu, hu1, hu2⟩ := R.hu
  refine r_fldO ea (c_Running T) (na_Running_puts T) lkU_puts ?_
  exact kq u vu H1 (S1.trans R.S) hu1 hu2
theorem cal_trace (T : Tx K mg) : CalX P w K mg base 42 "trace" (sp_trace K) [] := by
  obtain ⟨fd, F⟩ := fn_trace T
  exact ⟨_, fd, _, [], ok_trace T F, g_trace T, F.kp, F.bindsN fun _ _ _ _ _ _ us hl => match us, hl with | [_, _], _ => rfl, .nil⟩

end
section
variable {P : Program} {w : World} {K : PySem.W.Frag} {mg : Str → Option Value} {base : Heap}
/-! ### flat texts: inputs, rows, outs -/
structure RowT where
  gs : List Str
  deed : Str
  args : List Arg
def RowT.ln (r : RowT) : Ln := .row r.gs r.deed r.args
def RowT.q (r : RowT) : RowM := ⟨r.deed, r.gs, readsA r.args, numsA r.args, wayA r.args⟩
def chain : Int → List RowM → Rows
  | _, [] => .nil
  | ln, q :: r => .row ln q (chain (ln + 1) r)
def numb {α : Type} : Int → List α → List (Int × α)
  | _, [] => []
  | ln, x :: r => (ln, x) :: numb (ln + 1) r
theorem numb_snd {α : Type} : ∀ (l : List α) (n : Int), (numb n l).map Prod.snd = l
  | [], _ => rfl
  | x :: l, n => by show x :: (numb (n + 1) l).map Prod.snd = _; rw [numb_snd l]
theorem numb_len {α : Type} (l : List α) (n : Int) : (numb n l).length = l.length := by
  have := congrArg List.length (numb_snd l n)
  rwa [List.length_map] at this
theorem app_assoc : ∀ x y z : Rows, (x.app y).app z = x.app (y.app z)
  | .nil, _, _ => rfl
  | .row l q t, y, z => by show Rows.row l q ((t.app y).app z) = _; rw [app_assoc t y z]; rfl
  | .rep l m b t, y, z => by show Rows.rep l m b ((t.app y).app z) = _; rw [app_assoc t y z]; rfl
theorem chain_facts : ∀ (qs : List RowM) (ln : Int), (chain ln qs).depth = 0 ∧ (chain ln qs).small ∧ (chain ln qs).count = qs.length ∧ (chain ln qs).total = qs.length
  | [], _ => ⟨rfl, trivial, rfl, rfl⟩
  | q :: r, ln => by
    obtain ⟨h1, h2, h3, h4⟩ := chain_facts r (ln + 1)
    refine ⟨h1, h2, ?_, ?_⟩
    · show 1 + (chain (ln + 1) r).count = _; rw [h3, List.length_cons]; omega
    · show (chain (ln + 1) r).total + 1 = _; rw [h4]; rfl
def flatL (wd : Int) (ins : List (Str × KindM)) (rs : List RowT) (outs : List Str) : List Ln := .width wd :: (ins.map (fun x => Ln.inp x.1 x.2) ++ (rs.map RowT.ln ++ outs.map Ln.out))
def Rd (ln : Int) (M : DM) (ls : List Ln) (D : DM → Prop) : Prop := SoundAll ln M ls ∧ D (readM ln M ls)
theorem Rd.cons {ln : Int} {M : DM} {l : Ln} {ls : List Ln} {D : DM → Prop} (h1 : l.sound ln M) (h2 : (l.step ln M).great ln = false) (h3 : Rd (ln + 1) (l.step ln M) ls D) : Rd ln M (l :: ls) D := ⟨⟨h1, h2, h3.1⟩, h3.2⟩
theorem not_great {wd : Int} {I : List (Int × Str × KindM)} {R : Rows} {O : List (Int × Str)} {kn : List Str} {C : List (Int × KindM)} {ln : Int} (h1 : ln < 60) (h2 : kn.length ≤ 30) : (⟨wd, I, R, O, [], kn, C⟩ : DM).great ln = false := by
  show (decide (ln ≥ 60) || (decide (kn.length > 30) || decide (0 > 3))) = false
  rw [decide_eq_false (by omega), decide_eq_false (by omega)]
  rfl
theorem foldN_len : ∀ (gs l : List Str), (gs.foldl putN l).length ≤ l.length + gs.length
  | [], _ => Nat.le_refl _
  | g :: gs, l => by
    have h1 := foldN_len gs (putN l g)
    have h2 := putN_len l g
    simp only [List.foldl_cons, List.length_cons]
    omega
theorem flat_outs {wd : Int} {I : List (Int × Str × KindM)} {R : Rows} {kn : List Str} {D : DM → Prop} (hk : kn.length ≤ 30) : ∀ (outs : List Str) (O : List (Int × Str)) (ln : Int), 0 < ln → ln + outs.length ≤ 60 → (∀ n ∈ outs, isName n = true) → O.length + outs.length ≤ 1000 → O ++ numb ln outs ≠ [] →
    D ⟨wd, I, R, O ++ numb ln outs, [], kn, []⟩ → Rd ln ⟨wd, I, R, O, [], kn, []⟩ (outs.map Ln.out) D
  | [], O, ln, _, _, _, _, hn, hD => by
    rw [show O ++ numb ln ([] : List Str) = O from List.append_nil O] at hn hD
    exact ⟨⟨rfl, hn⟩, hD⟩
  | x :: outs, O, ln, h0, h60, hi, hl, hn, hD => by
    rw [List.length_cons] at h60 hl
    have e : O ++ numb ln (x :: outs) = (O ++ [(ln, x)]) ++ numb (ln + 1) outs := by rw [List.append_assoc]; rfl
    rw [e] at hn hD
    refine Rd.cons ⟨h0, rfl, hi x (by simp), by show O.length ≤ 1000; omega⟩ ?_ ?_
    · exact not_great (by omega) hk
    · exact flat_outs hk outs (O ++ [(ln, x)]) (ln + 1) (by omega) (by omega) (fun n h => hi n (List.mem_cons_of_mem _ h)) (by rw [List.length_append, List.length_singleton]; omega) hn hD
theorem flat_rows {wd : Int} {I : List (Int × Str × KindM)} {rest : List Ln} {D : DM → Prop} (h4 : 4 ≤ wd) (h32 : wd ≤ 32) : ∀ (rs : List RowT) (R : Rows) (kn : List Str) (ln : Int), 0 < ln → ln + rs.length ≤ 60 → R.len + rs.length ≤ 1000 → kn.length + (rs.flatMap RowT.gs).length ≤ 30 → (∀ r ∈ rs, RowOk wd r.gs r.deed r.args) →
    (∀ kn', kn'.length ≤ 30 → Rd (ln + rs.length) ⟨wd, I, R.app (chain ln (rs.map RowT.q)), [], [], kn', []⟩ rest D) → Rd ln ⟨wd, I, R, [], [], kn, []⟩ (rs.map RowT.ln ++ rest) D
  | [], R, kn, ln, _, _, _, hk, _, hD => by
    have e : R.app (chain ln ([].map RowT.q)) = R := by
      show R.app .nil = R
      have : ∀ x : Rows, x.app .nil = x := by
        intro x
        induction x with
        | nil => rfl
        | row l q t ih => show Rows.row l q (t.app .nil) = _; rw [ih]
        | rep l m b t _ ih => show Rows.rep l m b (t.app .nil) = _; rw [ih]
      exact this R
    have q := hD kn (by simpa using hk)
    rw [e, show ln + (([] : List RowT).length : Int) = ln from Int.add_zero ln] at q
    exact q
  | r :: rs, R, kn, ln, h0, h60, hl, hk, ho, hD => by
    rw [List.length_cons] at h60 hl
    rw [List.flatMap_cons, List.length_append] at hk
    have fl := foldN_len r.gs kn
    refine Rd.cons ⟨h0, rfl, ho r (by simp), h4, h32, by show kn.length ≤ 1000; omega, by show R.len ≤ 1000; omega⟩ ?_ ?_
    · exact not_great (kn := r.gs.foldl putN kn) (by omega) (by omega)
    · have q := flat_rows (I := I) (rest := rest) (D := D) h4 h32 rs (R.app (.row ln r.q .nil)) (r.gs.foldl putN kn) (ln + 1) (by omega) (by omega) ?_ (by omega) (fun x h => ho x (List.mem_cons_of_mem _ h)) ?_
      · exact q
      · have : (R.app (.row ln r.q .nil)).len = R.len + 1 := by
          have : ∀ x : Rows, (x.app (.row ln r.q .nil)).len = x.len + 1 := by
            intro x
            induction x with
            | nil => rfl
            | row l q t ih => show (t.app _).len + 1 = _; rw [ih]; rfl
            | rep l m b t _ ih => show (t.app _).len + 1 = _; rw [ih]; rfl
          exact this R
        omega
      · intro kn' hk'
        have z := hD kn' hk'
        rw [app_assoc]
        rw [List.length_cons] at z
        rw [show ln + 1 + (rs.length : Int) = ln + ((rs.length + 1 : Nat) : Int) by omega]
        exact z
theorem flat_ins {wd : Int} {rest : List Ln} {D : DM → Prop} : ∀ (ins : List (Str × KindM)) (I : List (Int × Str × KindM)) (kn : List Str) (ln : Int), 0 < ln → ln + ins.length ≤ 60 → I.length + ins.length ≤ 1000 → kn.length + ins.length ≤ 30 → (∀ x ∈ ins, isName x.1 = true ∧ x.2.Good ∧ x.2.w = wd) →
    (∀ kn', kn'.length ≤ kn.length + ins.length → Rd (ln + ins.length) ⟨wd, I ++ numb ln ins, .nil, [], [], kn', []⟩ rest D) → Rd ln ⟨wd, I, .nil, [], [], kn, []⟩ (ins.map (fun x => Ln.inp x.1 x.2) ++ rest) D
  | [], I, kn, ln, _, _, _, hk, _, hD => by
    have q := hD kn (Nat.le_refl _)
    rw [show I ++ numb ln ([] : List (Str × KindM)) = I from List.append_nil I, show ln + (([] : List (Str × KindM)).length : Int) = ln from Int.add_zero ln] at q
    exact q
  | (nm, kd) :: ins, I, kn, ln, h0, h60, hl, hk, ho, hD => by
    rw [List.length_cons] at h60 hl hk
    have fl := putN_len kn nm
    obtain ⟨o1, o2, o3⟩ := ho (nm, kd) (by simp)
    refine Rd.cons ⟨h0, rfl, rfl, rfl, o1, o2, o3, by show I.length ≤ 1000; omega, by show kn.length ≤ 1000; omega⟩ ?_ ?_
    · exact not_great (kn := putN kn nm) (by omega) (by omega)
    · refine flat_ins ins (I ++ [(ln, nm, kd)]) (putN kn nm) (ln + 1) (by omega) (by omega) (by rw [List.length_append, List.length_singleton]; omega) (by omega) (fun x h => ho x (List.mem_cons_of_mem _ h)) fun kn' hk' => ?_
      have z := hD kn' (by rw [List.length_cons]; omega)
      rw [List.append_assoc]
      rw [List.length_cons] at z
      rw [show ln + 1 + (ins.length : Int) = ln + ((ins.length + 1 : Nat) : Int) by omega]
      exact z
/-- a flat text reads as its parts -/
theorem flat_read {wd : Int} {ins : List (Str × KindM)} {rs : List RowT} {outs : List Str} (h4 : 4 ≤ wd) (h32 : wd ≤ 32) (hn : 1 + ins.length + rs.length + outs.length ≤ 60) (hk : ins.length + (rs.flatMap RowT.gs).length ≤ 30) (hi : ∀ x ∈ ins, isName x.1 = true ∧ x.2.Good ∧ x.2.w = wd)
    (hr : ∀ r ∈ rs, RowOk wd r.gs r.deed r.args) (ho : ∀ n ∈ outs, isName n = true) (h0 : outs ≠ []) :
    SoundAll 0 DM0 (flatL wd ins rs outs) ∧ ∃ kn, readM 0 DM0 (flatL wd ins rs outs) = ⟨wd, numb 1 ins, chain (1 + ins.length) (rs.map RowT.q), numb (1 + ins.length + rs.length) outs, [], kn, []⟩ := by
  show Rd 0 DM0 (flatL wd ins rs outs) fun M => ∃ kn, M = ⟨wd, numb 1 ins, chain (1 + ins.length) (rs.map RowT.q), numb (1 + ins.length + rs.length) outs, [], kn, []⟩
  refine Rd.cons ⟨rfl, h4, h32⟩ ?_ ?_
  · exact not_great (by decide) (by decide)
  refine flat_ins (wd := wd) ins [] [] 1 (by decide) (by omega) (by simp; omega) (by simp; omega) hi fun kn hkn => ?_
  have hkn : kn.length ≤ ins.length := by simpa using hkn
  refine flat_rows h4 h32 rs .nil kn (1 + ins.length) (by omega) (by omega) (by show 0 + _ ≤ _; omega) (by omega) hr fun kn' hk' => ?_
  refine flat_outs hk' outs [] _ (by omega) (by omega) ho (by simp; omega) ?_ ⟨kn', rfl⟩
  cases outs with
  | nil => exact absurd rfl h0
  | cons x o => exact fun z => nomatch z

end
section
variable {P : Program} {w : World} {K : PySem.W.Frag} {mg : Str → Option Value} {base : Heap}
/-! ### rows that read inputs alone -/
def kdQ (wd : Int) (k0 : List (Str × KindM)) (q : RowM) : KindM := madeKind q wd (q.reads.map (getKd k0))
def csQ (k0 : List (Str × KindM)) (ib : Str → Int) (q : RowM) : List Int := q.reads.map fun n => (getKd k0 n).countOf (ib n)
def wkQ (wd : Int) (k0 : List (Str × KindM)) (ib : Str → Int) (q : RowM) : Int × Str := workedM q (kdQ wd k0 q) (csQ k0 ib q)
def marksQ (wd : Int) (k0 : List (Str × KindM)) (ib : Str → Int) : Int → List RowM → List (Int × Str)
  | _, [] => []
  | ln, q :: r => (if (wkQ wd k0 ib q).2 = "" then [] else [(ln, (wkQ wd k0 ib q).2)]) ++ marksQ wd k0 ib (ln + 1) r
structure StarOk (wd : Int) (k0 : List (Str × KindM)) (q : RowM) : Prop where
  gl : q.goals.length ≤ 3
  rl : q.reads.length ≤ 1000
  rd : ∀ n ∈ q.reads, (k0.lookup n).isSome = true
  made : MadeOk q wd (q.reads.map (getKd k0))
structure StarRun (wd : Int) (k0 : List (Str × KindM)) (ib : Str → Int) (q : RowM) : Prop where
  g0 : ∃ g r, q.goals = g :: r
  wk : WorkOk q (kdQ wd k0 q) (csQ k0 ib q)
  pt : q.deed = "part" → (∃ g h, q.goals = [g, h]) ∧ (∃ c r, q.reads = c :: r) ∧ ∃ n r, q.numbers = n :: r ∧ 0 < n
theorem lookup_cons' {α : Type} (n g : Str) (x : α) (l : List (Str × α)) : List.lookup n ((g, x) :: l) = if n = g then some x else List.lookup n l := by
  rw [List.lookup_cons]
  by_cases h : n = g
  · subst h; simp
  · rw [show (n == g) = false by simpa using h, if_neg h]
theorem put_lookup {kd : KindM} {ks : List (Str × KindM)} {g n : Str} : (putKd kd ks g).lookup n = (ks.lookup n).or (if n = g then some kd else none) := by
  unfold putKd
  split
  · rename_i h
    by_cases e : n = g
    · subst e
      cases q : ks.lookup n with
      | none => rw [q] at h; cases h
      | some y => rfl
    · rw [if_neg e]; cases ks.lookup n <;> rfl
  · rename_i h
    rw [lookup_cons']
    by_cases e : n = g
    · subst e
      rw [if_pos rfl, if_pos rfl]
      cases q : ks.lookup n with
      | none => rfl
      | some y => rw [q] at h; exact absurd rfl h
    · rw [if_neg e, if_neg e]; cases ks.lookup n <;> rfl
theorem fold_lookup {kd : KindM} {n : Str} : ∀ (gs : List Str) (ks : List (Str × KindM)), (gs.foldl (putKd kd) ks).lookup n = (ks.lookup n).or (if n ∈ gs then some kd else none)
  | [], ks => by
    show ks.lookup n = _
    rw [if_neg (by simp)]; cases ks.lookup n <;> rfl
  | g :: gs, ks => by
    show (gs.foldl (putKd kd) (putKd kd ks g)).lookup n = _
    rw [fold_lookup gs, put_lookup]
    by_cases e : n = g
    · subst e
      rw [if_pos rfl, if_pos (show n ∈ n :: gs by simp)]
      cases ks.lookup n with
      | none => rfl
      | some y => rfl
    · rw [if_neg e]
      by_cases m : n ∈ gs
      · rw [if_pos m, if_pos (List.mem_cons_of_mem _ m)]; cases ks.lookup n <;> rfl
      · rw [if_neg m, if_neg (by simp [e, m])]; cases ks.lookup n <;> rfl
theorem getKd_eq {k0 ks : List (Str × KindM)} {n : Str} (h : ks.lookup n = k0.lookup n) : getKd ks n = getKd k0 n := by unfold getKd; rw [h]
theorem map_getKd {k0 ks : List (Str × KindM)} (h : ∀ n, (k0.lookup n).isSome = true → ks.lookup n = k0.lookup n) {rs : List Str} (hr : ∀ n ∈ rs, (k0.lookup n).isSome = true) : rs.map (getKd ks) = rs.map (getKd k0) :=
  List.map_congr_left fun n hn => getKd_eq (h n (hr n hn))
theorem star_look {wd : Int} {k0 : List (Str × KindM)} : ∀ (qs : List RowM) (ln : Int) (ks : List (Str × KindM)), (∀ n, (k0.lookup n).isSome = true → ks.lookup n = k0.lookup n) → (∀ q ∈ qs, StarOk wd k0 q) → (qs.flatMap RowM.goals).Nodup → (∀ g ∈ qs.flatMap RowM.goals, ks.lookup g = none) →
    (chain ln qs).lookOk wd [] ks ∧ (∀ n, n ∉ qs.flatMap RowM.goals → (lookM wd [] (chain ln qs) ks).lookup n = ks.lookup n) ∧ ∀ q ∈ qs, ∀ g ∈ q.goals, (lookM wd [] (chain ln qs) ks).lookup g = some (kdQ wd k0 q)
  | [], _, _, _, _, _, _ => ⟨trivial, fun _ _ => rfl, fun q h => by cases h⟩
  | q :: qs, ln, ks, hk, ho, hn, hg => by
    rw [List.flatMap_cons] at hn hg
    have hn2 := List.nodup_append.mp hn
    have oq := ho q (by simp)
    have er : rowKd wd [] ln q ks = kdQ wd k0 q := by
      show madeKind q wd (q.reads.map (getKd ks)) = _
      rw [map_getKd hk oq.rd]; rfl
    have lk : ∀ n, (q.goals.foldl (putKd (kdQ wd k0 q)) ks).lookup n = (ks.lookup n).or (if n ∈ q.goals then some (kdQ wd k0 q) else none) := fun n => fold_lookup q.goals ks
    have gk : ∀ g ∈ q.goals, ks.lookup g = none := fun g h => hg g (List.mem_append_left _ h)
    obtain ⟨i1, i2, i3⟩ := star_look qs (ln + 1) (q.goals.foldl (putKd (kdQ wd k0 q)) ks) (fun n h => by
        rw [lk, hk n h]
        cases e : k0.lookup n with
        | none => rw [e] at h; cases h
        | some y => rfl) (fun x h => ho x (List.mem_cons_of_mem _ h)) hn2.2.1 (fun g h => by
        rw [lk, hg g (List.mem_append_right _ h), if_neg fun z => hn2.2.2 g z g h rfl]; rfl)
    have le : lookM wd [] (chain ln (q :: qs)) ks = lookM wd [] (chain (ln + 1) qs) (q.goals.foldl (putKd (kdQ wd k0 q)) ks) := by
      show lookM wd [] (chain (ln + 1) qs) (q.goals.foldl (putKd (rowKd wd [] ln q ks)) ks) = _
      rw [er]
    rw [le]
    refine ⟨⟨oq.gl, oq.rl, fun n h => by rw [hk n (oq.rd n h)]; exact oq.rd n h, fun _ => by rw [map_getKd hk oq.rd]; exact oq.made, fun g h k e => (by rw [gk g h] at e; cases e), by rw [er]; exact i1⟩, fun n h => ?_, fun x hx g h => ?_⟩
    · rw [List.flatMap_cons, List.mem_append, not_or] at h
      rw [i2 n h.2, lk, if_neg h.1]; cases ks.lookup n <;> rfl
    · rcases List.mem_cons.mp hx with rfl | hx
      · rw [i2 g fun z => hn2.2.2 g h g z rfl, lk, gk g h, if_pos h]; rfl
      · exact i3 x hx g h
theorem doM_env {ks : List (Str × KindM)} {ln : Int} {q : RowM} {s : RS} {n : Str} : (doM ks ln q s).env.lookup n = if q.deed = "part" ∧ n = goal1 q then some (num0 (countsM ks s.env q.reads) % num0 q.numbers) else if n = goal0 q then some (workedM q (getKd ks (goal0 q)) (countsM ks s.env q.reads)).1 else s.env.lookup n := by
  unfold doM
  by_cases h : q.deed = "part"
  · simp only [if_pos h]
    rw [lookup_cons', lookup_cons']
    by_cases e : n = goal1 q
    · rw [if_pos e, if_pos ⟨h, e⟩]
    · rw [if_neg e]
      rw [if_neg (c := q.deed = "part" ∧ n = goal1 q) fun z => e z.2]
  · simp only [if_neg h]
    rw [lookup_cons']
    rw [if_neg (c := q.deed = "part" ∧ n = goal1 q) fun z => h z.1]
theorem doM_marks {ks : List (Str × KindM)} {ln : Int} {q : RowM} {s : RS} : (doM ks ln q s).marks = s.marks ++ (if (workedM q (getKd ks (goal0 q)) (countsM ks s.env q.reads)).2 = "" then [] else [(ln, (workedM q (getKd ks (goal0 q)) (countsM ks s.env q.reads)).2)]) := by
  unfold doM
  by_cases h : q.deed = "part"
  · simp only [if_pos h]
    split
    · rw [List.append_nil]
    · rfl
  · simp only [if_neg h]
    split
    · rw [List.append_nil]
    · rfl
theorem star_go {wd : Int} {k0 ks : List (Str × KindM)} {ib : Str → Int} (hk : ∀ n, (k0.lookup n).isSome = true → ks.lookup n = k0.lookup n) (hb : ∀ n, (k0.lookup n).isSome = true → 0 ≤ ib n ∧ ib n < (getKd k0 n).B) : ∀ (qs : List RowM) (ln : Int) (s : RS),
    (∀ n, (k0.lookup n).isSome = true → s.env.lookup n = some (ib n)) → (∀ q ∈ qs, StarOk wd k0 q) → (∀ q ∈ qs, StarRun wd k0 ib q) → (qs.flatMap RowM.goals).Nodup → (∀ g ∈ qs.flatMap RowM.goals, k0.lookup g = none) → (∀ q ∈ qs, ∀ g ∈ q.goals, ks.lookup g = some (kdQ wd k0 q)) →
    GoOk ks (chain ln qs) s ∧ (∀ n, n ∉ qs.flatMap RowM.goals → (goM ks (chain ln qs) s).env.lookup n = s.env.lookup n) ∧ (goM ks (chain ln qs) s).marks = s.marks ++ marksQ wd k0 ib ln qs ∧
    ∀ q ∈ qs, (goM ks (chain ln qs) s).env.lookup (goal0 q) = some (wkQ wd k0 ib q).1 ∧ (q.deed = "part" → (goM ks (chain ln qs) s).env.lookup (goal1 q) = some (num0 (csQ k0 ib q) % num0 q.numbers))
  | [], _, s, _, _, _, _, _, _ => ⟨trivial, fun _ _ => rfl, (List.append_nil _).symm, fun q h => by cases h⟩
  | q :: qs, ln, s, he, ho, hr, hn, hg, hk2 => by
    rw [List.flatMap_cons] at hn hg
    have hn2 := List.nodup_append.mp hn
    have oq := ho q (by simp)
    have rq := hr q (by simp)
    obtain ⟨g, gr, eg⟩ := rq.g0
    have e0 : goal0 q = g := by unfold goal0; rw [eg]; rfl
    have mg : goal0 q ∈ q.goals := by rw [e0, eg]; simp
    have kq : getKd ks (goal0 q) = kdQ wd k0 q := by unfold getKd; rw [hk2 q (by simp) _ mg]; rfl
    have cq : countsM ks s.env q.reads = csQ k0 ib q := by
      unfold countsM csQ
      refine List.map_congr_left fun n hn => ?_
      rw [getKd_eq (hk n (oq.rd n hn))]
      unfold getB
      rw [he n (oq.rd n hn)]; rfl
    have m1 : q.deed = "part" → goal1 q ∈ q.goals ∧ goal1 q ≠ goal0 q := fun h => by
      obtain ⟨⟨a, b, e⟩, -⟩ := rq.pt h
      have n1 := hn2.1
      rw [e] at n1
      have : a ≠ b := by simpa using n1
      unfold goal1 goal0
      rw [e]
      exact ⟨by simp, fun z => this z.symm⟩
    have den : ∀ n, (doM ks ln q s).env.lookup n = if q.deed = "part" ∧ n = goal1 q then some (num0 (csQ k0 ib q) % num0 q.numbers) else if n = goal0 q then some (wkQ wd k0 ib q).1 else s.env.lookup n := fun n => by
      rw [doM_env, cq, kq]; rfl
    have dno : ∀ n, n ∉ q.goals → (doM ks ln q s).env.lookup n = s.env.lookup n := fun n h => by
      rw [den, if_neg (c := q.deed = "part" ∧ n = goal1 q) fun z => h (z.2 ▸ (m1 z.1).1), if_neg (c := n = goal0 q) fun z => h (z ▸ mg)]
    obtain ⟨i1, i2, i3, i4⟩ := star_go hk hb qs (ln + 1) (doM ks ln q s) (fun n h => by
        rw [dno n fun z => by rw [hg n (List.mem_append_left _ z)] at h; cases h]
        exact he n h) (fun x h => ho x (List.mem_cons_of_mem _ h)) (fun x h => hr x (List.mem_cons_of_mem _ h)) hn2.2.1 (fun g h => hg g (List.mem_append_right _ h)) (fun x h => hk2 x (List.mem_cons_of_mem _ h))
    refine ⟨⟨⟨rq.g0, by rw [hk2 q (by simp) _ mg]; rfl, oq.rl, fun n h => ⟨by rw [hk n (oq.rd n h)]; exact oq.rd n h, ib n, he n (oq.rd n h), (hb n (oq.rd n h)).1, by rw [getKd_eq (hk n (oq.rd n h))]; exact (hb n (oq.rd n h)).2⟩, by rw [kq, cq]; exact rq.wk, rq.pt⟩, i1⟩, fun n h => ?_, ?_, fun x hx => ?_⟩
    · rw [List.flatMap_cons, List.mem_append, not_or] at h
      show (goM ks (chain (ln + 1) qs) (doM ks ln q s)).env.lookup n = _
      rw [i2 n h.2, dno n h.1]
    · show (goM ks (chain (ln + 1) qs) (doM ks ln q s)).marks = _
      rw [i3, doM_marks, cq, kq, List.append_assoc]; rfl
    · rcases List.mem_cons.mp hx with rfl | hx
      · refine ⟨?_, fun h => ?_⟩
        · show (goM ks (chain (ln + 1) qs) (doM ks ln x s)).env.lookup _ = _
          rw [i2 _ fun z => hn2.2.2 _ mg _ z rfl, den, if_neg (c := x.deed = "part" ∧ goal0 x = goal1 x) fun z => (m1 z.1).2 z.2.symm, if_pos rfl]
        · show (goM ks (chain (ln + 1) qs) (doM ks ln x s)).env.lookup _ = _
          rw [i2 _ fun z => hn2.2.2 _ (m1 h).1 _ z rfl, den, if_pos ⟨h, rfl⟩]
      · exact i4 x hx
theorem env0_lookup {ib : Str → Int} {n : Str} : ∀ {ins : List (Str × KindM)}, (ins.reverse.lookup n).isSome = true → (env0 ins ib).lookup n = some (ib n) := by
  intro ins h
  unfold env0
  rw [← List.map_reverse]
  revert h
  generalize ins.reverse = l
  induction l with
  | nil => intro h; cases h
  | cons x l ih =>
    obtain ⟨m, k⟩ := x
    intro h
    rw [List.map_cons, lookup_cons']
    rw [lookup_cons'] at h
    by_cases e : n = m
    · rw [if_pos e, e]
    · rw [if_neg e]; rw [if_neg e] at h; exact ih h

end
section
variable {P : Program} {w : World} {K : PySem.W.Frag} {mg : Str → Option Value} {base : Heap}
/-! ### a flat text whose rows read inputs alone -/
structure StarProg (wd : Int) (ins : List (Str × KindM)) (rs : List RowT) (outs : List Str) : Prop where
  w4 : 4 ≤ wd
  w32 : wd ≤ 32
  hn : 1 + ins.length + rs.length + outs.length ≤ 60
  hk : ins.length + (rs.flatMap RowT.gs).length ≤ 30
  hi : ∀ x ∈ ins, isName x.1 = true ∧ x.2.Good ∧ x.2.w = wd
  hr : ∀ r ∈ rs, RowOk wd r.gs r.deed r.args
  ho : ∀ n ∈ outs, isName n = true
  h0 : outs ≠ []
  st : ∀ r ∈ rs, StarOk wd ins.reverse r.q
  nd : (rs.flatMap RowT.gs).Nodup
  dis : ∀ g ∈ rs.flatMap RowT.gs, ins.reverse.lookup g = none
  insN : (ins.map Prod.fst).Nodup
  outN : outs.Nodup
  outI : ∀ n ∈ outs, n ∈ rs.flatMap RowT.gs
theorem goals_map (rs : List RowT) : (rs.map RowT.q).flatMap RowM.goals = rs.flatMap RowT.gs := by
  induction rs with
  | nil => rfl
  | cons r rs ih => rw [List.map_cons, List.flatMap_cons, List.flatMap_cons, ih]; rfl
def starPM (wd : Int) (ins : List (Str × KindM)) (rs : List RowT) (outs : List Str) : ProgM := ⟨wd, ins, chain (1 + ins.length) (rs.map RowT.q), outs, lookM wd [] (chain (1 + ins.length) (rs.map RowT.q)) ins.reverse⟩
theorem StarProg.look {wd : Int} {ins : List (Str × KindM)} {rs : List RowT} {outs : List Str} (S : StarProg wd ins rs outs) :
    (chain (1 + ins.length) (rs.map RowT.q)).lookOk wd [] ins.reverse ∧ (∀ n, n ∉ rs.flatMap RowT.gs → (starPM wd ins rs outs).ks.lookup n = ins.reverse.lookup n) ∧ ∀ r ∈ rs, ∀ g ∈ r.gs, (starPM wd ins rs outs).ks.lookup g = some (kdQ wd ins.reverse r.q) := by
  obtain ⟨h1, h2, h3⟩ := star_look (wd := wd) (k0 := ins.reverse) (rs.map RowT.q) (1 + ins.length) ins.reverse (fun _ _ => rfl) (fun q h => by
    obtain ⟨r, hr, rfl⟩ := List.mem_map.mp h; exact S.st r hr) (by rw [goals_map]; exact S.nd) (by rw [goals_map]; exact S.dis)
  rw [goals_map] at h2
  exact ⟨h1, h2, fun r hr g hg => h3 r.q (List.mem_map.mpr ⟨r, hr, rfl⟩) g hg⟩
theorem StarProg.reads {wd : Int} {ins : List (Str × KindM)} {rs : List RowT} {outs : List Str} (S : StarProg wd ins rs outs) :
    SoundAll 0 DM0 (flatL wd ins rs outs) ∧ (readM 0 DM0 (flatL wd ins rs outs)).Fin ∧ (readM 0 DM0 (flatL wd ins rs outs)).prog = starPM wd ins rs outs := by
  obtain ⟨h1, kn, h2⟩ := flat_read S.w4 S.w32 S.hn S.hk S.hi S.hr S.ho S.h0
  rw [h2]
  have ep : (⟨wd, numb 1 ins, chain (1 + ins.length) (rs.map RowT.q), numb (1 + ins.length + rs.length) outs, [], kn, []⟩ : DM).prog = starPM wd ins rs outs := by
    unfold DM.prog starPM DM.ks0
    simp only [numb_snd]
  obtain ⟨c1, c2, c3, c4⟩ := chain_facts (rs.map RowT.q) (1 + ins.length)
  obtain ⟨l1, l2, l3⟩ := S.look
  have hn := S.hn
  have ek : (⟨wd, numb 1 ins, chain (1 + ins.length) (rs.map RowT.q), numb (1 + ins.length + rs.length) outs, [], kn, []⟩ : DM).ks0 = ins.reverse := by
    unfold DM.ks0
    simp only [numb_snd]
  refine ⟨h1, ⟨S.w4, S.w32, ?_, ?_, ?_, ?_, c2, ?_, ?_, ?_, ?_, ?_⟩, ep⟩
  · show ((numb 1 ins).map fun x => x.2.1).Nodup
    have : ((numb 1 ins).map fun x => x.2.1) = ins.map Prod.fst := by
      conv => rhs; rw [← numb_snd ins 1, List.map_map]
      rfl
    rw [this]; exact S.insN
  · show (numb 1 ins).length ≤ 1000
    rw [numb_len]; omega
  · show (numb _ outs).length ≤ 1000
    rw [numb_len]; omega
  · show (chain _ _).depth < 9
    rw [c1]; decide
  · show (chain _ _).count ≤ 600
    rw [c3, List.length_map]; omega
  · show (chain _ _).lookOk wd [] _
    rw [ek]; exact l1
  · show (numb 1 ins).length + 3 * (chain _ _).total ≤ 50000
    rw [numb_len, c4, List.length_map]; omega
  · show ((numb _ outs).map Prod.snd).Nodup
    rw [numb_snd]; exact S.outN
  · rw [ep]
    show ∀ n ∈ (numb _ outs).map Prod.snd, _
    rw [numb_snd]
    intro n hn
    obtain ⟨r, hr, hg⟩ := List.mem_flatMap.mp (S.outI n hn)
    rw [l3 r hr n hg]; rfl
structure StarRuns (wd : Int) (ins : List (Str × KindM)) (rs : List RowT) (outs : List Str) (ib : Str → Int) : Prop where
  go : GoOk (starPM wd ins rs outs).ks (starPM wd ins rs outs).rows ⟨env0 ins ib, [], []⟩
  mks : (goM (starPM wd ins rs outs).ks (starPM wd ins rs outs).rows ⟨env0 ins ib, [], []⟩).marks = marksQ wd ins.reverse ib (1 + ins.length) (rs.map RowT.q)
  v0 : ∀ r ∈ rs, (goM (starPM wd ins rs outs).ks (starPM wd ins rs outs).rows ⟨env0 ins ib, [], []⟩).env.lookup (goal0 r.q) = some (wkQ wd ins.reverse ib r.q).1
  v1 : ∀ r ∈ rs, r.deed = "part" → (goM (starPM wd ins rs outs).ks (starPM wd ins rs outs).rows ⟨env0 ins ib, [], []⟩).env.lookup (goal1 r.q) = some (num0 (csQ ins.reverse ib r.q) % num0 r.q.numbers)
  sm : (starPM wd ins rs outs).rows.small
  dp : (starPM wd ins rs outs).rows.depth < 20
  ct : 5 * (starPM wd ins rs outs).rows.count ≤ 60000
  os : ∀ n ∈ outs, ((goM (starPM wd ins rs outs).ks (starPM wd ins rs outs).rows ⟨env0 ins ib, [], []⟩).env.lookup n).isSome = true
theorem StarProg.runs {wd : Int} {ins : List (Str × KindM)} {rs : List RowT} {outs : List Str} (S : StarProg wd ins rs outs) {ib : Str → Int} (hb : ∀ n, (ins.reverse.lookup n).isSome = true → 0 ≤ ib n ∧ ib n < (getKd ins.reverse n).B) (hr : ∀ r ∈ rs, StarRun wd ins.reverse ib r.q) : StarRuns wd ins rs outs ib := by
  obtain ⟨l1, l2, l3⟩ := S.look
  obtain ⟨c1, c2, c3, c4⟩ := chain_facts (rs.map RowT.q) (1 + ins.length)
  have hn := S.hn
  obtain ⟨g1, g2, g3, g4⟩ := star_go (wd := wd) (k0 := ins.reverse) (ks := (starPM wd ins rs outs).ks) (ib := ib) (fun n h => l2 n fun z => by rw [S.dis n z] at h; cases h) hb (rs.map RowT.q) (1 + ins.length) ⟨env0 ins ib, [], []⟩ (fun n h => env0_lookup h)
    (fun q h => by obtain ⟨r, h2, rfl⟩ := List.mem_map.mp h; exact S.st r h2) (fun q h => by obtain ⟨r, h2, rfl⟩ := List.mem_map.mp h; exact hr r h2) (by rw [goals_map]; exact S.nd) (by rw [goals_map]; exact S.dis)
    (fun q h => by obtain ⟨r, h2, rfl⟩ := List.mem_map.mp h; exact l3 r h2)
  have v0 : ∀ r ∈ rs, _ := fun r h => (g4 r.q (List.mem_map.mpr ⟨r, h, rfl⟩)).1
  have v1 : ∀ r ∈ rs, r.deed = "part" → _ := fun r h => (g4 r.q (List.mem_map.mpr ⟨r, h, rfl⟩)).2
  refine ⟨g1, g3, v0, v1, c2, ?_, ?_, fun n h => ?_⟩
  · show (chain _ _).depth < 20
    rw [c1]; decide
  · show 5 * (chain _ _).count ≤ 60000
    rw [c3, List.length_map]; omega
  · obtain ⟨r, hx, hg⟩ := List.mem_flatMap.mp (S.outI n h)
    rcases (S.hr r hx).gl with ⟨g, e, -⟩ | ⟨g, k, e, -, ep⟩
    · rw [e] at hg
      have : n = goal0 r.q := by rw [List.mem_singleton.mp hg]; unfold goal0 RowT.q; rw [e]; rfl
      rw [this]
      show ((goM (starPM wd ins rs outs).ks (chain _ _) _).env.lookup _).isSome = true
      rw [v0 r hx]; rfl
    · rw [e] at hg
      rcases List.mem_cons.mp hg with h | h
      · have : n = goal0 r.q := by rw [h]; unfold goal0 RowT.q; rw [e]; rfl
        rw [this]
        show ((goM (starPM wd ins rs outs).ks (chain _ _) _).env.lookup _).isSome = true
        rw [v0 r hx]; rfl
      · have : n = goal1 r.q := by rw [List.mem_singleton.mp h]; unfold goal1 RowT.q; rw [e]; rfl
        rw [this]
        show ((goM (starPM wd ins rs outs).ks (chain _ _) _).env.lookup _).isSome = true
        rw [v1 r hx ep]; rfl

end
section
variable {P : Program} {w : World} {K : PySem.W.Frag} {mg : Str → Option Value} {base : Heap}
/-! ### the text of a flat program -/
structure WordOk (w : Str) : Prop where
  ne : w.cps.toList ≠ []
  len : w.length ≤ 30
  ge : ∀ c ∈ w.cps.toList, 33 ≤ c
def lnT (l : Ln) : Str := Txt.join " " l.words
structure LnOk (l : Ln) : Prop where
  ws : ∀ w ∈ l.words, WordOk w
  ne : l.words ≠ []
  few : l.words.length ≤ 10
theorem joinL_len2 (S : List Nat) : ∀ l : List (List Nat), (TL.joinL S l).length ≤ (l.map List.length).sum + l.length * S.length
  | [] => by simp [TL.joinL]
  | [p] => by simp [TL.joinL]
  | p :: q :: r => by
    have ih := joinL_len2 S (q :: r)
    simp only [TL.joinL, List.length_append, List.map_cons, List.sum_cons, List.length_cons] at ih ⊢
    have : (r.length + 1 + 1) * S.length = (r.length + 1) * S.length + S.length := by rw [Nat.add_mul, Nat.one_mul]
    omega
theorem joinL_mem {c : Nat} {S : List Nat} : ∀ {l : List (List Nat)}, c ∈ TL.joinL S l → c ∈ S ∨ ∃ p ∈ l, c ∈ p
  | [], h => by cases h
  | [p], h => .inr ⟨p, by simp, h⟩
  | p :: q :: r, h => by
    have h : c ∈ p ++ (S ++ TL.joinL S (q :: r)) := h
    rcases List.mem_append.mp h with h | h
    · exact .inr ⟨p, by simp, h⟩
    · rcases List.mem_append.mp h with h | h
      · exact .inl h
      · rcases joinL_mem h with h | ⟨x, hx, hc⟩
        · exact .inl h
        · exact .inr ⟨x, List.mem_cons_of_mem _ hx, hc⟩
theorem sum_le2 {α : Type} {f : α → Nat} {k : Nat} : ∀ {l : List α}, (∀ x ∈ l, f x ≤ k) → (l.map f).sum ≤ l.length * k
  | [], _ => by simp
  | x :: l, h => by
    have h1 := h x (by simp)
    have h2 := sum_le2 (l := l) fun y hy => h y (List.mem_cons_of_mem _ hy)
    rw [List.map_cons, List.sum_cons, List.length_cons, Nat.add_mul, Nat.one_mul]
    omega
theorem join_len {y : Str} {k : Nat} {ws : List Str} (h : ∀ w ∈ ws, w.length ≤ k) : (Txt.join y ws).length ≤ ws.length * k + ws.length * y.length := by
  rw [TL.len_tl, TL.join_eq, TL.tl_join]
  have h1 := joinL_len2 (TL.tl y) (ws.map TL.tl)
  have h2 : ((ws.map TL.tl).map List.length).sum ≤ ws.length * k := by
    rw [List.map_map]
    exact sum_le2 (f := List.length ∘ TL.tl) fun w hw => by show (TL.tl w).length ≤ k; rw [← TL.len_tl]; exact h w hw
  rw [List.length_map, ← TL.len_tl] at h1
  omega
theorem lnT_len {l : Ln} (h : LnOk l) : (lnT l).length ≤ 310 := by
  have q := join_len (y := " ") (k := 30) fun w hw => (h.ws w hw).len
  have e : (" " : Str).length = 1 := by decide +kernel
  have := h.few
  rw [e] at q
  have := Nat.mul_le_mul_right 30 h.few
  show (Txt.join " " l.words).length ≤ 310
  omega
theorem lnT_free {l : Ln} (h : LnOk l) : 10 ∉ TL.tl (lnT l) := by
  intro z
  unfold lnT at z
  rw [TL.join_eq, TL.tl_join] at z
  rcases joinL_mem z with z | ⟨p, hp, z⟩
  · have : TL.tl " " = [32] := by decide +kernel
    rw [this] at z
    exact absurd (List.mem_singleton.mp z) (by decide)
  · obtain ⟨w, hw, rfl⟩ := List.mem_map.mp hp
    exact absurd ((h.ws w hw).ge 10 z) (by decide)
theorem lnT_split {l : Ln} (h : LnOk l) : Txt.split (lnT l) " " = l.words :=
  TL.split_join (s := 32) (S := []) (by decide +kernel) (by decide +kernel) h.ne fun w hw z => absurd ((h.ws w hw).ge 32 z) (by decide)
theorem textOk {ls : List Ln} (h : ∀ l ∈ ls, LnOk l) (h1 : ls ≠ []) (h2 : ls.length ≤ 60) : TextOk (Txt.join "\n" (ls.map lnT)) ls := by
  refine ⟨?_, ls.map lnT, ?_, by rw [List.length_map], fun i t l e1 e2 => ?_⟩
  · have q := join_len (y := "\n") (k := 310) (ws := ls.map lnT) fun w hw => by
      obtain ⟨l, hl, rfl⟩ := List.mem_map.mp hw
      exact lnT_len (h l hl)
    have e : ("\n" : Str).length = 1 := by decide +kernel
    rw [e, List.length_map] at q
    have := Nat.mul_le_mul_right 310 h2
    omega
  · refine TL.split_join (s := 10) (S := []) (by decide +kernel) (by decide +kernel) (by simpa using h1) fun p hp => ?_
    obtain ⟨l, hl', rfl⟩ := List.mem_map.mp hp
    exact lnT_free (h l hl')
  · rw [List.getElem?_map, e2] at e1
    obtain rfl := Option.some.inj e1
    have q := h l (List.mem_of_getElem? e2)
    exact ⟨lnT_split q, Nat.le_trans (lnT_len q) (by decide), fun z => (q.ws _ z).ne (by decide +kernel), q.few⟩
/-! ### words -/
def wordB (w : Str) : Bool := decide (w.cps.toList ≠ []) && (decide (w.length ≤ 30) && w.cps.toList.all fun c => decide (33 ≤ c))
theorem wordOk_of {w : Str} (h : wordB w = true) : WordOk w := by
  unfold wordB at h
  simp only [Bool.and_eq_true, decide_eq_true_eq, List.all_eq_true] at h
  exact ⟨h.1, h.2.1, h.2.2⟩
theorem word_name {x : Str} (h : isName x = true) : WordOk x := by
  obtain ⟨h1, h2, h3⟩ := name_signs h
  exact ⟨h3, by omega, fun c hc => by have := h2 c hc; omega⟩
theorem word_num {i : Int} (h0 : 0 ≤ i) (hm : i < 10000000000) : WordOk (num i) :=
  ⟨num_ne h0, by have := num_small h0 hm; omega, fun c hc => Nat.le_of_not_lt fun z => num_free (s := c) h0 (.inl (by omega)) hc⟩
theorem word_app {x y : Str} (hx : WordOk x) (hy : WordOk y) (hl : x.length + y.length ≤ 30) : WordOk (x ++ y) := by
  have e : (x ++ y).cps.toList = x.cps.toList ++ y.cps.toList := TL.tl_append x y
  refine ⟨fun z => hx.ne (by rw [e] at z; exact (List.append_eq_nil_iff.mp z).1), ?_, fun c hc => ?_⟩
  · rw [TL.len_tl, TL.tl_append, List.length_append, ← TL.len_tl, ← TL.len_tl]; exact hl
  · rw [e] at hc
    rcases List.mem_append.mp hc with h | h
    · exact hx.ge c h
    · exact hy.ge c h
theorem wd_pow {wd : Int} (h4 : 4 ≤ wd) (h32 : wd ≤ 32) {i : Int} (h : i ≤ 2 ^ wd.toNat - 1) : i < 10000000000 := by
  have := (pow_wd h4 h32).2
  omega
theorem word_arg {wd : Int} (h4 : 4 ≤ wd) (h32 : wd ≤ 32) {x : Arg} (h : x.ok wd) : WordOk x.text := by
  cases x with
  | nm x => exact word_name h
  | wy x => rcases (h : wayB x) with rfl | rfl | rfl | rfl <;> exact wordOk_of (by decide +kernel)
  | kn i => exact word_num (show 0 ≤ i from h.1) (by have := (h : 0 ≤ i ∧ i ≤ wd - 1).2; omega)
  | nn i => exact word_num (by have := h.1; omega) (wd_pow h4 h32 h.2)
  | fr i j =>
    obtain ⟨h1, h2, h3, h5⟩ := (h : 0 ≤ i ∧ i ≤ j ∧ 1 ≤ j ∧ j ≤ 2 ^ wd.toNat - 1)
    have hj := wd_pow h4 h32 h5
    have n1 := num_small h1 (by omega)
    have n2 := num_small (i := j) (by omega) hj
    have e1 : ("/" : Str).length = 1 := by decide +kernel
    have e2 : (num i ++ ("/" : Str)).length = (num i).length + 1 := by rw [TL.len_tl, TL.tl_append, List.length_append, ← TL.len_tl, ← TL.len_tl, e1]
    show WordOk ((num i ++ ("/" : Str)) ++ num j)
    exact word_app (word_app (word_num h1 (by omega)) (wordOk_of (by decide +kernel)) (by omega)) (word_num (by omega) hj) (by omega)
theorem word_kind {k : KindM} (g : k.Good) : ∀ w ∈ k.words, WordOk w := by
  intro w hw
  have := g.pp
  unfold KindM.words at hw
  cases h : k.tag with
  | plain => rw [h] at hw; rw [List.mem_singleton.mp hw]; exact wordOk_of (by decide +kernel)
  | signed => rw [h] at hw; rw [List.mem_singleton.mp hw]; exact wordOk_of (by decide +kernel)
  | point =>
    rw [h] at hw
    rcases List.mem_cons.mp hw with rfl | hw
    · exact wordOk_of (by decide +kernel)
    · rw [List.mem_singleton.mp hw]; exact word_num (by omega) (by omega)
theorem deeds_words : (DEEDS.all wordB) = true := by decide +kernel
theorem StarProg.lns {wd : Int} {ins : List (Str × KindM)} {rs : List RowT} {outs : List Str} (S : StarProg wd ins rs outs) : ∀ l ∈ flatL wd ins rs outs, LnOk l := by
  have h4 := S.w4
  have h32 := S.w32
  intro l hl
  rcases List.mem_cons.mp hl with rfl | hl
  · refine ⟨fun w hw => ?_, fun z => (nomatch z), (by decide : 2 ≤ 10)⟩
    rcases List.mem_cons.mp hw with rfl | hw
    · exact wordOk_of (by decide +kernel)
    · rw [List.mem_singleton.mp hw]; exact word_num (by omega) (by omega)
  rcases List.mem_append.mp hl with hl | hl
  · obtain ⟨x, hx, rfl⟩ := List.mem_map.mp hl
    obtain ⟨i1, i2, i3⟩ := S.hi x hx
    refine ⟨fun w hw => ?_, fun z => (nomatch z), ?_⟩
    · rcases List.mem_cons.mp hw with rfl | hw
      · exact wordOk_of (by decide +kernel)
      rcases List.mem_cons.mp hw with rfl | hw
      · exact word_name i1
      · exact word_kind i2 w hw
    · show x.2.words.length + 1 + 1 ≤ 10
      unfold KindM.words
      cases x.2.tag <;> simp
  rcases List.mem_append.mp hl with hl | hl
  · obtain ⟨r, hx, rfl⟩ := List.mem_map.mp hl
    have o := S.hr r hx
    refine ⟨fun w hw => ?_, fun z => ?_, ?_⟩
    · rcases List.mem_append.mp (show w ∈ r.gs ++ (("=" : Str) :: r.deed :: r.args.map Arg.text) from hw) with hw | hw
      · exact word_name (o.nm w hw)
      rcases List.mem_cons.mp hw with rfl | hw
      · exact wordOk_of (by decide +kernel)
      rcases List.mem_cons.mp hw with rfl | hw
      · exact wordOk_of (List.all_eq_true.mp deeds_words _ o.dd)
      · obtain ⟨a, ha, rfl⟩ := List.mem_map.mp hw
        exact word_arg h4 h32 (o.ok a ha)
    · have z : r.gs ++ (("=" : Str) :: r.deed :: r.args.map Arg.text) = [] := z
      exact absurd (List.append_eq_nil_iff.mp z).2 (fun y => nomatch y)
    · show (r.gs ++ (("=" : Str) :: r.deed :: r.args.map Arg.text)).length ≤ 10
      have a4 := o.len.2
      have gl : r.gs.length ≤ 2 := by rcases o.gl with ⟨g, e, -⟩ | ⟨g, k, e, -⟩ <;> rw [e] <;> simp
      simp only [List.length_append, List.length_cons, List.length_map]
      omega
  · obtain ⟨n, hx, rfl⟩ := List.mem_map.mp hl
    refine ⟨fun w hw => ?_, fun z => (nomatch z), (by decide : 2 ≤ 10)⟩
    rcases List.mem_cons.mp hw with rfl | hw
    · exact wordOk_of (by decide +kernel)
    · rw [List.mem_singleton.mp hw]; exact word_name (S.ho n hx)
theorem StarProg.text {wd : Int} {ins : List (Str × KindM)} {rs : List RowT} {outs : List Str} (S : StarProg wd ins rs outs) : TextOk (Txt.join "\n" ((flatL wd ins rs outs).map lnT)) (flatL wd ins rs outs) :=
  textOk S.lns (fun z => nomatch z) (by
    have := S.hn
    unfold flatL
    simp only [List.length_cons, List.length_append, List.length_map]
    omega)

end
section
variable {P : Program} {w : World} {K : PySem.W.Frag} {mg : Str → Option Value} {base : Heap}
/-! ### counts and bits -/
theorem KindM.isCount_iff {k : KindM} {n : Int} : k.isCount n = true ↔ k.least ≤ n ∧ n ≤ k.greatest := by
  unfold KindM.isCount
  rw [Bool.and_eq_true, decide_eq_true_eq, decide_eq_true_eq]
theorem KindM.Good.ends0 {k : KindM} (g : k.Good) : k.least ≤ 0 ∧ 0 ≤ k.greatest ∧ k.greatest < k.B ∧ (k.tag = .plain → k.least = 0 ∧ k.greatest = k.B - 1) ∧ (k.tag ≠ .plain → k.least = 0 - k.Hf ∧ k.greatest = k.Hf - 1) := by
  have h := g.half
  have h8 := g.H8
  unfold KindM.least KindM.greatest
  by_cases c : k.tag = .plain
  · rw [if_pos c, if_pos c]; exact ⟨Int.le_refl _, by omega, by omega, fun _ => ⟨rfl, rfl⟩, fun z => absurd c z⟩
  · rw [if_neg c, if_neg c]; exact ⟨by omega, by omega, by omega, fun z => absurd z c, fun _ => ⟨rfl, rfl⟩⟩
theorem KindM.Good.count_in {k : KindM} (g : k.Good) {b : Int} (h0 : 0 ≤ b) (hB : b < k.B) : k.isCount (k.countOf b) = true := by
  obtain ⟨e1, e2, e3, e4, e5⟩ := g.ends0
  have h := g.half
  rw [KindM.isCount_iff]
  unfold KindM.countOf
  split
  · by_cases c : k.tag = .plain
    · have := e4 c; omega
    · have := e5 c; omega
  · omega
theorem KindM.Good.bits_count {k : KindM} (g : k.Good) {b : Int} (h0 : 0 ≤ b) (hB : b < k.B) : k.bitsOf (k.countOf b) = b := by
  unfold KindM.bitsOf KindM.countOf
  split
  · rw [show b - k.B = b + k.B * (-1) by omega, Int.add_mul_emod_self_left]
    exact Int.emod_eq_of_lt h0 hB
  · exact Int.emod_eq_of_lt h0 hB
theorem KindM.Good.count_bits {k : KindM} (g : k.Good) {c : Int} (h : k.isCount c = true) : k.countOf (k.bitsOf c) = c := by
  obtain ⟨e1, e2, e3, e4, e5⟩ := g.ends0
  have hf := g.half
  rw [KindM.isCount_iff] at h
  unfold KindM.bitsOf KindM.countOf
  by_cases c0 : 0 ≤ c
  · rw [Int.emod_eq_of_lt c0 (by omega), if_neg (by omega)]
  · have np : k.tag ≠ .plain := fun z => by have := e4 z; omega
    have e := e5 np
    have em : c % k.B = c + k.B := by
      rw [show c % k.B = (c + k.B * 1) % k.B from (Int.add_mul_emod_self_left ..).symm, Int.mul_one]
      exact Int.emod_eq_of_lt (by omega) (by omega)
    rw [em, if_pos (by omega)]
    omega
theorem KindM.Good.bits_in {k : KindM} (g : k.Good) (c : Int) : 0 ≤ k.bitsOf c ∧ k.bitsOf c < k.B := ⟨Int.emod_nonneg _ (by have := g.Bpos; omega), Int.emod_lt_of_pos _ g.Bpos⟩
/-! ### rounding -/
def nearOk (w : WTag) (n top bot : Int) : Prop :=
  match w with
  | .near => (2 * (n * bot - top) < bot ∧ -bot < 2 * (n * bot - top)) ∨ ((2 * (n * bot - top) = bot ∨ 2 * (n * bot - top) = -bot) ∧ n % 2 = 0)
  | .down => -bot < n * bot - top ∧ n * bot - top ≤ 0
  | .up => 0 ≤ n * bot - top ∧ n * bot - top < bot
  | .cut => if 0 ≤ top then -bot < n * bot - top ∧ n * bot - top ≤ 0 else 0 ≤ n * bot - top ∧ n * bot - top < bot
theorem absdiv {a bot : Int} (hb : 0 < bot) (ha : 0 ≤ a) : ∃ q r, a / bot = q ∧ a % bot = r ∧ a = q * bot + r ∧ 0 ≤ r ∧ r < bot ∧ 0 ≤ q :=
  ⟨a / bot, a % bot, rfl, rfl, by rw [Int.mul_comm]; exact (Int.mul_ediv_add_emod a bot).symm, Int.emod_nonneg _ (by omega), Int.emod_lt_of_pos _ hb, Int.ediv_nonneg ha (by omega)⟩
theorem round_near {w : WTag} {top bot : Int} (hb : 0 < bot) : nearOk w (w.round top bot) top bot := by
  obtain ⟨q, r, e1, e2, e3, r0, r1, q0⟩ := absdiv (a := if top < 0 then -top else top) hb (by split <;> omega)
  unfold WTag.round
  rw [e1, e2]
  dsimp only
  have m1 : (q + 1) * bot = q * bot + bot := by rw [Int.add_mul, Int.one_mul]
  have m2 : (0 - q) * bot = 0 - q * bot := by rw [Int.sub_mul, Int.zero_mul]
  have m3 : (0 - (q + 1)) * bot = 0 - (q * bot + bot) := by rw [Int.sub_mul, Int.zero_mul, m1]
  generalize hm : q * bot = m at *
  by_cases t0 : top < 0
  · rw [if_pos t0] at e3
    rw [if_pos t0, decide_eq_true t0]
    cases w with
    | down =>
      show -bot < _ ∧ _ ≤ 0
      by_cases c : 0 < r
      · rw [if_pos (by unfold WTag.adj; rw [decide_eq_true c]; rfl), m3]; omega
      · rw [if_neg (by simp [WTag.adj]; omega), m2]; omega
    | up =>
      show 0 ≤ _ ∧ _ < bot
      rw [if_neg (by simp [WTag.adj]), m2]; omega
    | cut =>
      unfold nearOk
      rw [if_neg (by simp [WTag.adj]), if_neg (by omega), m2]; omega
    | near =>
      unfold nearOk
      dsimp only
      by_cases c : r = bot - r
      · by_cases o : q % 2 = 1
        · rw [if_pos (by unfold WTag.adj; dsimp only; rw [if_pos c]; exact decide_eq_true o), m3]
          exact .inr ⟨by omega, by omega⟩
        · rw [if_neg (by unfold WTag.adj; dsimp only; rw [if_pos c]; simpa using o), m2]
          exact .inr ⟨by omega, by omega⟩
      · by_cases o : bot - r < r
        · rw [if_pos (by unfold WTag.adj; dsimp only; rw [if_neg c]; exact decide_eq_true o), m3]
          exact .inl (by omega)
        · rw [if_neg (by unfold WTag.adj; dsimp only; rw [if_neg c]; simpa using o), m2]
          exact .inl (by omega)
  · rw [if_neg t0] at e3
    rw [if_neg t0, decide_eq_false t0]
    cases w with
    | down =>
      show -bot < _ ∧ _ ≤ 0
      rw [if_neg (by simp [WTag.adj]), hm]; omega
    | up =>
      show 0 ≤ _ ∧ _ < bot
      by_cases c : 0 < r
      · rw [if_pos (by unfold WTag.adj; rw [decide_eq_true c]; rfl), m1]; omega
      · rw [if_neg (by simp [WTag.adj]; omega), hm]; omega
    | cut =>
      unfold nearOk
      rw [if_neg (by simp [WTag.adj]), if_pos (by omega), hm]; omega
    | near =>
      unfold nearOk
      dsimp only
      by_cases c : r = bot - r
      · by_cases o : q % 2 = 1
        · rw [if_pos (by unfold WTag.adj; dsimp only; rw [if_pos c]; exact decide_eq_true o), m1]
          exact .inr ⟨by omega, by omega⟩
        · rw [if_neg (by unfold WTag.adj; dsimp only; rw [if_pos c]; simpa using o), hm]
          exact .inr ⟨by omega, by omega⟩
      · by_cases o : bot - r < r
        · rw [if_pos (by unfold WTag.adj; dsimp only; rw [if_neg c]; exact decide_eq_true o), m1]
          exact .inl (by omega)
        · rw [if_neg (by unfold WTag.adj; dsimp only; rw [if_neg c]; simpa using o), hm]
          exact .inl (by omega)
theorem adj0 {w : WTag} {q bot : Int} {ng : Bool} (hb : 0 < bot) : w.adj q 0 bot ng = false := by
  cases w with
  | down => show (ng && decide ((0 : Int) < 0)) = false; rw [Bool.and_eq_false_iff]; exact .inr (by decide)
  | up => rfl
  | cut => rfl
  | near => unfold WTag.adj; dsimp only; rw [if_neg (by omega)]; exact decide_eq_false (by omega)
theorem round_bound {w : WTag} {top bot a : Int} (hb : 0 < bot) (ha : (if top < 0 then -top else top) ≤ a * bot) : (top < 0 → -a ≤ w.round top bot ∧ w.round top bot ≤ 0) ∧ (0 ≤ top → 0 ≤ w.round top bot ∧ w.round top bot ≤ a) := by
  obtain ⟨q, r, e1, e2, e3, r0, r1, q0⟩ := absdiv (a := if top < 0 then -top else top) hb (by split <;> omega)
  have key : (if w.adj q r bot (decide (top < 0)) = true then q + 1 else q) ≤ a ∧ 0 ≤ (if w.adj q r bot (decide (top < 0)) = true then q + 1 else q) := by
    rw [e3] at ha
    by_cases c : r = 0
    · subst c
      rw [adj0 hb, if_neg (by decide)]
      refine ⟨?_, q0⟩
      rw [Int.add_zero] at ha
      exact Int.le_of_mul_le_mul_right ha hb
    · have : q < a := by
        refine Int.lt_of_mul_lt_mul_right (a := bot) ?_ (by omega)
        omega
      split <;> omega
  unfold WTag.round
  rw [e1, e2]
  dsimp only
  generalize (if w.adj q r bot (decide (top < 0)) = true then q + 1 else q) = z at key
  refine ⟨fun h => ?_, fun h => ?_⟩
  · rw [if_pos h]; omega
  · rw [if_neg (by omega)]; omega

end
section
variable {P : Program} {w : World} {K : PySem.W.Frag} {mg : Str → Option Value} {base : Heap}
/-! ### single rows that read b, k, z -/
/-- what is shown of a row -/
structure RF (wd : Int) (k0 : List (Str × KindM)) (ib : Str → Int) (r : RowT) (v : Int) (m : Str) : Prop where
  ok : RowOk wd r.gs r.deed r.args
  st : StarOk wd k0 r.q
  run : StarRun wd k0 ib r.q
  val : wkQ wd k0 ib r.q = (v, m)
/-- a word of a kind among the inputs -/
structure Wd (k0 : List (Str × KindM)) (ib : Str → Int) (n : Str) (kd : KindM) : Prop where
  nm : isName n = true
  lk : k0.lookup n = some kd
  gd : kd.Good
  h0 : 0 ≤ ib n
  hB : ib n < kd.B
section
variable {wd : Int} {k0 : List (Str × KindM)} {ib : Str → Int} {n n2 n3 : Str} {kd kd2 kd3 : KindM}
theorem Wd.get (h : Wd k0 ib n kd) : getKd k0 n = kd := by unfold getKd; rw [h.lk]; rfl
theorem Wd.cnt (h : Wd k0 ib n kd) : kd.isCount (kd.countOf (ib n)) = true := h.gd.count_in h.h0 h.hB
theorem Wd.le (h : Wd k0 ib n kd) : -10000000000 ≤ kd.countOf (ib n) ∧ kd.countOf (ib n) ≤ 10000000000 := by
  have q := KindM.isCount_iff.mp h.cnt
  obtain ⟨e1, e2, e3, e4, e5⟩ := h.gd.ends0
  have b := h.gd.Ble
  have hf := h.gd.half
  by_cases c : kd.tag = .plain
  · have := e4 c; omega
  · have := e5 c; omega
theorem cs1 (h : Wd k0 ib n kd) {q : RowM} (e : q.reads = [n]) : csQ k0 ib q = [kd.countOf (ib n)] := by unfold csQ; rw [e, List.map_cons, h.get]; rfl
theorem cs2 (h : Wd k0 ib n kd) (h2 : Wd k0 ib n2 kd2) {q : RowM} (e : q.reads = [n, n2]) : csQ k0 ib q = [kd.countOf (ib n), kd2.countOf (ib n2)] := by unfold csQ; rw [e, List.map_cons, List.map_cons, h.get, h2.get]; rfl
theorem cs3 (h : Wd k0 ib n kd) (h2 : Wd k0 ib n2 kd2) (h3 : Wd k0 ib n3 kd3) {q : RowM} (e : q.reads = [n, n2, n3]) : csQ k0 ib q = [kd.countOf (ib n), kd2.countOf (ib n2), kd3.countOf (ib n3)] := by unfold csQ; rw [e, List.map_cons, List.map_cons, List.map_cons, h.get, h2.get, h3.get]; rfl
theorem ks1 (h : Wd k0 ib n kd) : [n].map (getKd k0) = [kd] := by rw [List.map_cons, h.get]; rfl
theorem ks2 (h : Wd k0 ib n kd) (h2 : Wd k0 ib n2 kd2) : [n, n2].map (getKd k0) = [kd, kd2] := by rw [List.map_cons, List.map_cons, h.get, h2.get]; rfl
theorem ks3 (h : Wd k0 ib n kd) (h2 : Wd k0 ib n2 kd2) (h3 : Wd k0 ib n3 kd3) : [n, n2, n3].map (getKd k0) = [kd, kd2, kd3] := by rw [List.map_cons, List.map_cons, List.map_cons, h.get, h2.get, h3.get]; rfl
/-- a row with one word read: the plain deeds -/
theorem rf_one {g deed : Str} {as : List Arg} {c : Int} (hw : kd.w = wd) (h : Wd k0 ib n kd) (hg : isName g = true) (hd : deed ∈ DEEDS) (hn : deed ≠ "part" ∧ deed ∉ ROUNDS ∧ deed ∉ STOPS ∧ deed ≠ "over" ∧ deed ∉ CMPS ∧ deed ∉ LIKES ∧ deed ≠ "pick") (hf : formOf deed = lettersOf (.nm n :: as)) (ha : ∀ x ∈ as, x.ok wd) (hr : readsA as = [])
    (hmo : MoveOk ⟨deed, [g], [n], numsA as, wayA (.nm n :: as)⟩ (kd.countOf (ib n))) (hmv : movedM ⟨deed, [g], [n], numsA as, wayA (.nm n :: as)⟩ (kd.countOf (ib n)) = c) (hc : kd.isCount c = true) (hpl : deed ∈ PLAINS → kd.tag = .plain)
    (hdv : (deed = "div" ∨ deed = "times") → kd.tag = .plain ∨ ∃ ns m, numsA as = ns ++ [m] ∧ m ≤ 2 ^ (wd - 1).toNat) :
    RF wd k0 ib ⟨[g], deed, .nm n :: as⟩ (kd.bitsOf c) "" := by
  obtain ⟨p1, p2, p3, p4, p5, p6, p7⟩ := hn
  have ns : deed ≠ "set" := (deed_fine hd).2.1
  have nmul : deed ≠ "mul" := fun z => p3 (by rw [z]; decide +kernel)
  have eq : RowT.q ⟨[g], deed, .nm n :: as⟩ = ⟨deed, [g], [n], numsA as, wayA (.nm n :: as)⟩ := by
    show (⟨deed, [g], n :: readsA as, numsA as, wayA (.nm n :: as)⟩ : RowM) = _
    rw [hr]
  have ek : kdQ wd k0 (RowT.q ⟨[g], deed, .nm n :: as⟩) = kd := by
    rw [eq]; unfold kdQ madeKind
    rw [if_neg p5, ks1 h]; rfl
  have ec : csQ k0 ib (RowT.q ⟨[g], deed, .nm n :: as⟩) = [kd.countOf (ib n)] := cs1 h (by rw [eq])
  have rk : ∀ kd', reckonedM (RowT.q ⟨[g], deed, .nm n :: as⟩) kd' [kd.countOf (ib n)] = c := fun kd' => by
    rw [eq]; unfold reckonedM
    rw [if_neg nmul, if_neg (c := [kd.countOf (ib n)].length = 3) (by show ¬ (1 = 3); decide), if_neg (c := [kd.countOf (ib n)].length = 2) (by show ¬ (1 = 2); decide)]
    exact hmv
  refine ⟨⟨hd, hf, fun x hx => by rw [List.mem_singleton.mp hx]; exact hg, .inl ⟨g, rfl, p1⟩, fun x hx => ?_⟩, ⟨by rw [eq]; show 1 ≤ 3; decide, by rw [eq]; show 1 ≤ 1000; decide, ?_, ?_⟩, ⟨by rw [eq]; exact ⟨g, [], rfl⟩, ?_, fun z => absurd z p1⟩, ?_⟩
  · rcases List.mem_cons.mp hx with rfl | hx
    · exact h.nm
    · exact ha x hx
  · rw [eq]
    intro x hx
    rw [List.mem_singleton.mp hx, h.lk]; rfl
  · rw [eq]
    show MadeOk _ wd ([n].map (getKd k0))
    rw [ks1 h]
    refine ⟨(fun z => nomatch z), fun z k hk => ?_, fun z => absurd z nmul, fun z => absurd z p7, fun z => ?_, fun z => ⟨kd, [], rfl, hdv z⟩⟩
    · rw [List.mem_singleton.mp hk]; exact hpl z
    · rcases z with z | z | z
      · exact absurd z p6
      · exact absurd z nmul
      · exact absurd z p7
  · rw [ek, ec]
    refine ⟨fun z => absurd z ns, fun _ => ⟨.inl rfl, fun x hx => by rw [List.mem_singleton.mp hx]; exact h.le, fun z => absurd z nmul, fun x hx => ?_, fun x y hx => by cases hx⟩, fun z => absurd z p4, fun _ _ _ _ => by rw [rk]; exact hc⟩
    rw [← (List.cons.inj hx).1, eq]; exact hmo
  · unfold wkQ workedM
    rw [ek, ec, rk]
    rw [if_neg (c := (RowT.q ⟨[g], deed, .nm n :: as⟩).deed = "set") ns, if_neg (c := (RowT.q ⟨[g], deed, .nm n :: as⟩).deed ∈ ROUNDS) p2, if_neg (c := (RowT.q ⟨[g], deed, .nm n :: as⟩).deed ∈ STOPS) p3, if_neg fun z => p4 z.1]
theorem mv_not {p q : Prop} (h : ¬ p) : p → q := fun z => absurd z h
theorem wayT_tag (w : WTag) : wayT w.word = w := by cases w <;> decide +kernel
theorem way_ok (w : WTag) : wayB w.word ∧ w.word ∈ (["down", "up", "cut", "near"] : List Str) := by
  cases w
  · exact ⟨.inl rfl, by decide +kernel⟩
  · exact ⟨.inr (.inl rfl), by decide +kernel⟩
  · exact ⟨.inr (.inr (.inl rfl)), by decide +kernel⟩
  · exact ⟨.inr (.inr (.inr rfl)), by decide +kernel⟩
/-- the count stays within the kind -/
theorem in_between {c x : Int} (g : kd.Good) (hx : kd.isCount x = true) (h : (x < 0 → x ≤ c ∧ c ≤ 0) ∧ (0 ≤ x → 0 ≤ c ∧ c ≤ x)) : kd.isCount c = true := by
  obtain ⟨e1, e2, e3, -⟩ := g.ends0
  have q := KindM.isCount_iff.mp hx
  rw [KindM.isCount_iff]
  by_cases c0 : x < 0
  · have := h.1 c0; omega
  · have := h.2 (by omega); omega
def KindM.most (k : KindM) : Int := if k.tag = .plain then k.B - 1 else k.Hf
theorem most_le (g : kd.Good) {N : Int} (h : N ≤ kd.most) : N ≤ 2 ^ kd.w.toNat - 1 ∧ N ≤ 10000000000 ∧ (kd.tag = .plain ∨ N ≤ 2 ^ (kd.w - 1).toNat) := by
  have hf := g.half; have b := g.Ble; have h8 := g.H8
  have eB : kd.B = 2 ^ kd.w.toNat := rfl
  have eH : kd.Hf = 2 ^ (kd.w - 1).toNat := rfl
  unfold KindM.most at h
  split at h
  · rename_i c; exact ⟨by omega, by omega, .inl c⟩
  · exact ⟨by omega, by omega, .inr (by omega)⟩
theorem rf_div {g : Str} {N : Int} (w : WTag) (hw : kd.w = wd) (h : Wd k0 ib n kd) (hg : isName g = true) (h1 : 1 ≤ N) (hN : N ≤ kd.most) : RF wd k0 ib ⟨[g], "div", [.nm n, .nn N, .wy w.word]⟩ (kd.bitsOf (w.round (kd.countOf (ib n)) N)) "" := by
  obtain ⟨m1, m2, m3⟩ := most_le h.gd hN
  obtain ⟨w1, w2⟩ := way_ok w
  refine rf_one hw h hg (by decide +kernel) (by decide +kernel) (by show formOf "div" = ⟨#[98, 110, 119]⟩; decide +kernel) (fun x hx => ?_) rfl ⟨h.le.1, h.le.2, mv_not (by show ¬ (("div" : Str) = "left" ∨ ("div" : Str) = "right"); decide +kernel), fun _ => ⟨w2, N, rfl, h1, m2⟩, mv_not (by show ¬ ("div" : Str) = "times"; decide +kernel), mv_not (by show ¬ (("div" : Str) = "rest" ∨ ("div" : Str) = "part"); decide +kernel)⟩ ?_ ?_ (fun z => absurd z (by decide +kernel)) (fun _ => ?_)
  · rcases List.mem_cons.mp hx with rfl | hx
    · exact ⟨h1, hw ▸ m1⟩
    · rw [List.mem_singleton.mp hx]; exact w1
  · unfold movedM
    rw [if_neg (by show ¬ ("div" : Str) = "left"; decide +kernel), if_neg (by show ¬ ("div" : Str) = "right"; decide +kernel), if_pos (by rfl)]
    show (wayT w.word).round _ N = _
    rw [wayT_tag]
  · refine in_between h.gd h.cnt ⟨fun z => ?_, fun z => ?_⟩
    · have q := (round_bound (w := w) (top := kd.countOf (ib n)) (bot := N) (a := -(kd.countOf (ib n))) (by omega) (by
        rw [if_pos z]
        have := Int.mul_le_mul_of_nonneg_left h1 (show 0 ≤ -(kd.countOf (ib n)) by omega)
        omega)).1 z
      omega
    · exact (round_bound (w := w) (top := kd.countOf (ib n)) (bot := N) (a := kd.countOf (ib n)) (by omega) (by
        rw [if_neg (by omega)]
        have := Int.mul_le_mul_of_nonneg_left h1 z
        omega)).2 z
  · rcases m3 with h | h
    · exact .inl h
    · exact .inr ⟨[], N, rfl, by rw [← hw]; exact h⟩
theorem rf_times {g : Str} {t d : Int} (w : WTag) (hw : kd.w = wd) (h : Wd k0 ib n kd) (hg : isName g = true) (h0 : 0 ≤ t) (htd : t ≤ d) (h1 : 1 ≤ d) (hN : d ≤ kd.most) : RF wd k0 ib ⟨[g], "times", [.nm n, .fr t d, .wy w.word]⟩ (kd.bitsOf (w.round (kd.countOf (ib n) * t) d)) "" := by
  obtain ⟨m1, m2, m3⟩ := most_le h.gd hN
  obtain ⟨w1, w2⟩ := way_ok w
  refine rf_one hw h hg (by decide +kernel) (by decide +kernel) (by show formOf "times" = ⟨#[98, 114, 119]⟩; decide +kernel) (fun x hx => ?_) rfl ⟨h.le.1, h.le.2, mv_not (by show ¬ (("times" : Str) = "left" ∨ ("times" : Str) = "right"); decide +kernel), mv_not (by show ¬ ("times" : Str) = "div"; decide +kernel), fun _ => ⟨w2, t, d, rfl, h0, by omega, h1, m2⟩, mv_not (by show ¬ (("times" : Str) = "rest" ∨ ("times" : Str) = "part"); decide +kernel)⟩ ?_ ?_ (fun z => absurd z (by decide +kernel)) (fun _ => ?_)
  · rcases List.mem_cons.mp hx with rfl | hx
    · exact ⟨h0, htd, h1, hw ▸ m1⟩
    · rw [List.mem_singleton.mp hx]; exact w1
  · unfold movedM
    rw [if_neg (by show ¬ ("times" : Str) = "left"; decide +kernel), if_neg (by show ¬ ("times" : Str) = "right"; decide +kernel), if_neg (by show ¬ ("times" : Str) = "div"; decide +kernel), if_pos (by rfl)]
    show (wayT w.word).round (_ * t) d = _
    rw [wayT_tag]
  · generalize hx : kd.countOf (ib n) = x
    have hc := h.cnt
    rw [hx] at hc
    refine in_between h.gd hc ⟨fun z => ?_, fun z => ?_⟩
    · have p1 : (-x) * t ≤ (-x) * d := Int.mul_le_mul_of_nonneg_left htd (by omega)
      have p2 : 0 ≤ (-x) * t := Int.mul_nonneg (by omega) h0
      rw [Int.neg_mul] at p1 p2
      have b := round_bound (w := w) (top := x * t) (bot := d) (a := -x) (by omega) (by split <;> omega)
      by_cases y : x * t < 0
      · have := b.1 y; omega
      · have y0 : x * t = 0 := by omega
        have := b.2 (by omega)
        have nr := round_near (w := w) (top := x * t) (bot := d) (by omega)
        have b0 := (round_bound (w := w) (top := x * t) (bot := d) (a := 0) (by omega) (by rw [y0]; split <;> omega)).2 (by omega)
        omega
    · have p1 : x * t ≤ x * d := Int.mul_le_mul_of_nonneg_left htd z
      have p2 : 0 ≤ x * t := Int.mul_nonneg z h0
      exact (round_bound (w := w) (top := x * t) (bot := d) (a := x) (by omega) (by rw [if_neg (by omega)]; omega)).2 p2
  · rcases m3 with h | h
    · exact .inl h
    · exact .inr ⟨[t], d, rfl, by rw [← hw]; exact h⟩
end

end
section
variable {P : Program} {w : World} {K : PySem.W.Frag} {mg : Str → Option Value} {base : Heap}
section
variable {wd : Int} {k0 : List (Str × KindM)} {ib : Str → Int} {n n2 n3 : Str} {kd kd2 kd3 : KindM}
theorem rf_right {g : Str} {s : Int} (hw : kd.w = wd) (h : Wd k0 ib n kd) (hg : isName g = true) (h1 : 0 ≤ s) (hs : s ≤ wd - 1) : RF wd k0 ib ⟨[g], "right", [.nm n, .kn s]⟩ (kd.bitsOf (kd.countOf (ib n) / 2 ^ s.toNat)) "" := by
  have h32 := h.gd.w32
  refine rf_one hw h hg (by decide +kernel) (by decide +kernel) (by show formOf "right" = ⟨#[98, 107]⟩; decide +kernel) (fun x hx => ?_) rfl ⟨h.le.1, h.le.2, fun _ => ⟨s, rfl, h1, by omega⟩, mv_not (by show ¬ ("right" : Str) = "div"; decide +kernel), mv_not (by show ¬ ("right" : Str) = "times"; decide +kernel), mv_not (by show ¬ (("right" : Str) = "rest" ∨ ("right" : Str) = "part"); decide +kernel)⟩ ?_ ?_ (fun z => absurd z (by decide +kernel)) (fun z => absurd z (by decide +kernel))
  · rw [List.mem_singleton.mp hx]; exact ⟨h1, hs⟩
  · unfold movedM
    rw [if_neg (by show ¬ ("right" : Str) = "left"; decide +kernel), if_pos (by rfl)]
    rfl
  · have hp := pow_pos' s.toNat
    generalize (2 : Int) ^ s.toNat = d at hp
    refine in_between h.gd h.cnt ⟨fun z => ?_, fun z => ?_⟩
    · refine ⟨?_, ?_⟩
      · refine (Int.le_ediv_iff_mul_le hp).mpr ?_
        have := Int.mul_nonneg (show 0 ≤ -(kd.countOf (ib n)) by omega) (show 0 ≤ d - 1 by omega)
        rw [Int.mul_sub, Int.mul_one, Int.neg_mul] at this
        omega
      · have : kd.countOf (ib n) / d < 0 := Int.ediv_neg_of_neg_of_pos z hp
        omega
    · exact ⟨Int.ediv_nonneg z (by omega), Int.ediv_le_self _ z⟩
theorem rf_copy {g : Str} (hw : kd.w = wd) (h : Wd k0 ib n kd) (hg : isName g = true) : RF wd k0 ib ⟨[g], "copy", [.nm n]⟩ (ib n) "" := by
  have q := rf_one (c := kd.countOf (ib n)) (as := []) hw h hg (deed := "copy") (by decide +kernel) (by decide +kernel) (by show formOf "copy" = ⟨#[98]⟩; decide +kernel) (fun x hx => by cases hx) rfl ⟨h.le.1, h.le.2, mv_not (by show ¬ (("copy" : Str) = "left" ∨ ("copy" : Str) = "right"); decide +kernel), mv_not (by show ¬ ("copy" : Str) = "div"; decide +kernel), mv_not (by show ¬ ("copy" : Str) = "times"; decide +kernel), mv_not (by show ¬ (("copy" : Str) = "rest" ∨ ("copy" : Str) = "part"); decide +kernel)⟩ ?_ h.cnt (fun z => absurd z (by decide +kernel)) (fun z => absurd z (by decide +kernel))
  · rwa [h.gd.bits_count h.h0 h.hB] at q
  · unfold movedM
    rw [if_neg (by show ¬ ("copy" : Str) = "left"; decide +kernel), if_neg (by show ¬ ("copy" : Str) = "right"; decide +kernel), if_neg (by show ¬ ("copy" : Str) = "div"; decide +kernel), if_neg (by show ¬ ("copy" : Str) = "times"; decide +kernel), if_neg (by show ¬ ("copy" : Str) = "rest"; decide +kernel), if_neg (by show ¬ ("copy" : Str) = "part"; decide +kernel)]
theorem plain_count (h : Wd k0 ib n kd) (hp : kd.tag = .plain) : kd.countOf (ib n) = ib n := by
  unfold KindM.countOf
  obtain ⟨-, -, -, e, -⟩ := h.gd.ends0
  have := (e hp).2; have := h.hB
  rw [if_neg (by omega)]
theorem plain_bits (g : kd.Good) (hp : kd.tag = .plain) {c : Int} (h0 : 0 ≤ c) (hB : c < kd.B) : kd.isCount c = true ∧ kd.bitsOf c = c := by
  obtain ⟨-, -, -, e, -⟩ := g.ends0
  have := e hp
  exact ⟨KindM.isCount_iff.mpr ⟨by omega, by omega⟩, Int.emod_eq_of_lt h0 hB⟩
theorem rf_rest {g : Str} {N : Int} (hw : kd.w = wd) (hp : kd.tag = .plain) (h : Wd k0 ib n kd) (hg : isName g = true) (h1 : 1 ≤ N) (hN : N ≤ kd.most) : RF wd k0 ib ⟨[g], "rest", [.nm n, .nn N]⟩ (ib n % N) "" := by
  obtain ⟨m1, m2, m3⟩ := most_le h.gd hN
  have eB : kd.B = 2 ^ kd.w.toNat := rfl
  have r0 := Int.emod_nonneg (ib n) (show N ≠ 0 by omega)
  have r1 := Int.emod_lt_of_pos (ib n) (show 0 < N by omega)
  obtain ⟨b1, b2⟩ := plain_bits h.gd hp r0 (by omega)
  have q := rf_one (c := ib n % N) (as := [.nn N]) hw h hg (deed := "rest") (by decide +kernel) (by decide +kernel) (by show formOf "rest" = ⟨#[98, 110]⟩; decide +kernel) (fun x hx => by rw [List.mem_singleton.mp hx]; exact ⟨h1, hw ▸ m1⟩) rfl ⟨h.le.1, h.le.2, mv_not (by show ¬ (("rest" : Str) = "left" ∨ ("rest" : Str) = "right"); decide +kernel), mv_not (by show ¬ ("rest" : Str) = "div"; decide +kernel), mv_not (by show ¬ ("rest" : Str) = "times"; decide +kernel), fun _ => ⟨N, rfl, h1, m2⟩⟩ ?_ b1 (fun _ => hp) (fun z => absurd z (by decide +kernel))
  · rwa [b2] at q
  · unfold movedM
    rw [if_neg (by show ¬ ("rest" : Str) = "left"; decide +kernel), if_neg (by show ¬ ("rest" : Str) = "right"; decide +kernel), if_neg (by show ¬ ("rest" : Str) = "div"; decide +kernel), if_neg (by show ¬ ("rest" : Str) = "times"; decide +kernel), if_pos (by rfl), plain_count h hp]
    rfl
/-- a row with two words read -/
theorem rf_two {g deed : Str} {kq : KindM} (h : Wd k0 ib n kd) (h2 : Wd k0 ib n2 kd) (hg : isName g = true) (hd : deed ∈ DEEDS) (hn : deed ≠ "part" ∧ deed ≠ "mul" ∧ deed ≠ "pick" ∧ deed ≠ "div" ∧ deed ≠ "times") (hf : formOf deed = ⟨#[98, 98]⟩) (hpl : deed ∈ PLAINS → kd.tag = .plain)
    (hk : (if deed ∈ CMPS then (⟨.plain, wd, 0⟩ : KindM) else kd) = kq) (h2y : deed ∈ (["add", "addstop", "sub", "substop", "low", "high", "less", "same"] : List Str) ∨ 0 ≤ kd.countOf (ib n2))
    (hct : deed ∉ ROUNDS → deed ∉ STOPS → ¬ (deed = "over" ∧ kd.countOf (ib n2) = 0) → kq.isCount (summedM deed kq.w (kd.countOf (ib n)) (kd.countOf (ib n2))) = true) :
    RF wd k0 ib ⟨[g], deed, [.nm n, .nm n2]⟩ (workedM ⟨deed, [g], [n, n2], [], ""⟩ kq [kd.countOf (ib n), kd.countOf (ib n2)]).1 (workedM ⟨deed, [g], [n, n2], [], ""⟩ kq [kd.countOf (ib n), kd.countOf (ib n2)]).2 := by
  obtain ⟨p1, p2, p3, p4, p5⟩ := hn
  have ns : deed ≠ "set" := (deed_fine hd).2.1
  have ek : kdQ wd k0 (RowT.q ⟨[g], deed, [.nm n, .nm n2]⟩) = kq := by
    unfold kdQ madeKind
    show (if deed ∈ CMPS then _ else ([n, n2].map (getKd k0)).getLastD _) = _
    rw [ks2 h h2]; exact hk
  have ec : csQ k0 ib (RowT.q ⟨[g], deed, [.nm n, .nm n2]⟩) = [kd.countOf (ib n), kd.countOf (ib n2)] := cs2 h h2 rfl
  have rk : reckonedM (RowT.q ⟨[g], deed, [.nm n, .nm n2]⟩) kq [kd.countOf (ib n), kd.countOf (ib n2)] = summedM deed kq.w (kd.countOf (ib n)) (kd.countOf (ib n2)) := by
    unfold reckonedM
    rw [if_neg (c := (RowT.q ⟨[g], deed, [.nm n, .nm n2]⟩).deed = "mul") p2, if_neg (c := [kd.countOf (ib n), kd.countOf (ib n2)].length = 3) (by show ¬ (2 = 3); decide), if_pos (c := [kd.countOf (ib n), kd.countOf (ib n2)].length = 2) rfl]
    rfl
  refine ⟨⟨hd, by rw [hf]; rfl, fun x hx => by rw [List.mem_singleton.mp hx]; exact hg, .inl ⟨g, rfl, p1⟩, fun x hx => ?_⟩, ⟨by show 1 ≤ 3; decide, by show 2 ≤ 1000; decide, ?_, ?_⟩, ⟨⟨g, [], rfl⟩, ?_, fun z => absurd z p1⟩, ?_⟩
  · rcases List.mem_cons.mp hx with rfl | hx
    · exact h.nm
    · rw [List.mem_singleton.mp hx]; exact h2.nm
  · intro x hx
    rcases List.mem_cons.mp (show x ∈ [n, n2] from hx) with rfl | hx
    · rw [h.lk]; rfl
    · rw [List.mem_singleton.mp hx, h2.lk]; rfl
  · show MadeOk _ wd ([n, n2].map (getKd k0))
    rw [ks2 h h2]
    refine ⟨(fun z => nomatch z), fun z k hk => ?_, fun z => absurd z p2, fun z => absurd z p3, fun _ => ⟨[], kd, rfl⟩, fun z => ?_⟩
    · rcases List.mem_cons.mp hk with rfl | hk
      · exact hpl z
      · rw [List.mem_singleton.mp hk]; exact hpl z
    · rcases z with z | z
      · exact absurd z p4
      · exact absurd z p5
  · rw [ek, ec]
    refine ⟨fun z => absurd z ns, fun _ => ⟨.inr (.inl rfl), fun x hx => ?_, fun z => absurd z p2, (fun x hx => by cases hx), fun x y hx _ => ?_⟩, fun _ => rfl, fun _ a b c => by rw [rk]; exact hct a b c⟩
    · rcases List.mem_cons.mp hx with rfl | hx
      · exact h.le
      · rw [List.mem_singleton.mp hx]; exact h2.le
    · obtain ⟨-, e⟩ := List.cons.inj hx
      rw [← (List.cons.inj e).1]; exact h2y
  · unfold wkQ
    rw [ek, ec]; rfl
theorem rf_less {g : Str} (h : Wd k0 ib n kd) (h2 : Wd k0 ib n2 kd) (hg : isName g = true) (h4 : 4 ≤ wd) (h32 : wd ≤ 32) : RF wd k0 ib ⟨[g], "less", [.nm n, .nm n2]⟩ (if kd.countOf (ib n) < kd.countOf (ib n2) then 1 else 0) "" := by
  have gp : (⟨.plain, wd, 0⟩ : KindM).Good := ⟨h4, h32, fun _ => rfl, fun z => nomatch z⟩
  have b16 := gp.B16
  have es : summedM "less" wd (kd.countOf (ib n)) (kd.countOf (ib n2)) = if kd.countOf (ib n) < kd.countOf (ib n2) then 1 else 0 := by
    unfold summedM
    rw [if_neg (by decide +kernel), if_neg (by decide +kernel), if_neg (by decide +kernel), if_neg (by decide +kernel), if_pos rfl]
  obtain ⟨q1, q2⟩ := plain_bits gp rfl (c := if kd.countOf (ib n) < kd.countOf (ib n2) then 1 else 0) (by split <;> decide) (by split <;> omega)
  have q := rf_two (wd := wd) (kq := ⟨.plain, wd, 0⟩) h h2 hg (deed := "less") (by decide +kernel) (by decide +kernel) (by decide +kernel) (fun z => absurd z (by decide +kernel)) (if_pos (by decide +kernel)) (.inl (by decide +kernel)) (fun _ _ _ => by rw [es]; exact q1)
  have ew : workedM ⟨"less", [g], [n, n2], [], ""⟩ ⟨.plain, wd, 0⟩ [kd.countOf (ib n), kd.countOf (ib n2)] = ((if kd.countOf (ib n) < kd.countOf (ib n2) then (1 : Int) else 0), ("" : Str)) := by
    unfold workedM
    rw [if_neg (by show ¬ ("less" : Str) = "set"; decide +kernel), if_neg (by show ¬ ("less" : Str) ∈ ROUNDS; decide +kernel), if_neg (by show ¬ ("less" : Str) ∈ STOPS; decide +kernel), if_neg (fun z => absurd (show ("less" : Str) = "over" from z.1) (by decide +kernel))]
    have rk : reckonedM ⟨"less", [g], [n, n2], [], ""⟩ ⟨.plain, wd, 0⟩ [kd.countOf (ib n), kd.countOf (ib n2)] = summedM "less" wd (kd.countOf (ib n)) (kd.countOf (ib n2)) := by
      unfold reckonedM
      rw [if_neg (by show ¬ ("less" : Str) = "mul"; decide +kernel), if_neg (by show ¬ (2 = 3); decide), if_pos (by rfl)]; rfl
    rw [rk, es, q2]
  rwa [ew] at q
theorem rf_same {g : Str} (h : Wd k0 ib n kd) (h2 : Wd k0 ib n2 kd) (hg : isName g = true) (h4 : 4 ≤ wd) (h32 : wd ≤ 32) : RF wd k0 ib ⟨[g], "same", [.nm n, .nm n2]⟩ (if kd.countOf (ib n) = kd.countOf (ib n2) then 1 else 0) "" := by
  have gp : (⟨.plain, wd, 0⟩ : KindM).Good := ⟨h4, h32, fun _ => rfl, fun z => nomatch z⟩
  have b16 := gp.B16
  have es : summedM "same" wd (kd.countOf (ib n)) (kd.countOf (ib n2)) = if kd.countOf (ib n) = kd.countOf (ib n2) then 1 else 0 := by
    unfold summedM
    rw [if_neg (by decide +kernel), if_neg (by decide +kernel), if_neg (by decide +kernel), if_neg (by decide +kernel), if_neg (by decide +kernel), if_pos rfl]
  obtain ⟨q1, q2⟩ := plain_bits gp rfl (c := if kd.countOf (ib n) = kd.countOf (ib n2) then 1 else 0) (by split <;> decide) (by split <;> omega)
  have q := rf_two (wd := wd) (kq := ⟨.plain, wd, 0⟩) h h2 hg (deed := "same") (by decide +kernel) (by decide +kernel) (by decide +kernel) (fun z => absurd z (by decide +kernel)) (if_pos (by decide +kernel)) (.inl (by decide +kernel)) (fun _ _ _ => by rw [es]; exact q1)
  have ew : workedM ⟨"same", [g], [n, n2], [], ""⟩ ⟨.plain, wd, 0⟩ [kd.countOf (ib n), kd.countOf (ib n2)] = ((if kd.countOf (ib n) = kd.countOf (ib n2) then (1 : Int) else 0), ("" : Str)) := by
    unfold workedM
    rw [if_neg (by show ¬ ("same" : Str) = "set"; decide +kernel), if_neg (by show ¬ ("same" : Str) ∈ ROUNDS; decide +kernel), if_neg (by show ¬ ("same" : Str) ∈ STOPS; decide +kernel), if_neg (fun z => absurd (show ("same" : Str) = "over" from z.1) (by decide +kernel))]
    have rk : reckonedM ⟨"same", [g], [n, n2], [], ""⟩ ⟨.plain, wd, 0⟩ [kd.countOf (ib n), kd.countOf (ib n2)] = summedM "same" wd (kd.countOf (ib n)) (kd.countOf (ib n2)) := by
      unfold reckonedM
      rw [if_neg (by show ¬ ("same" : Str) = "mul"; decide +kernel), if_neg (by show ¬ (2 = 3); decide), if_pos (by rfl)]; rfl
    rw [rk, es, q2]
  rwa [ew] at q
theorem rf_over {g : Str} (hp : kd.tag = .plain) (h : Wd k0 ib n kd) (h2 : Wd k0 ib n2 kd) (hg : isName g = true) : RF wd k0 ib ⟨[g], "over", [.nm n, .nm n2]⟩ (if ib n2 = 0 then kd.B - 1 else ib n / ib n2) (if ib n2 = 0 then "nothing" else "") := by
  have e1 := plain_count h hp
  have e2 := plain_count h2 hp
  have es : summedM "over" kd.w (kd.countOf (ib n)) (kd.countOf (ib n2)) = if ib n2 = 0 then kd.B - 1 else ib n / ib n2 := by
    unfold summedM
    rw [if_neg (by decide +kernel), if_neg (by decide +kernel), if_neg (by decide +kernel), if_neg (by decide +kernel), if_neg (by decide +kernel), if_neg (by decide +kernel), e1, e2]
    rfl
  have h0 := h2.h0
  have hn0 := h.h0
  have hnB := h.hB
  have bp := h.gd.Bpos
  have rng : 0 ≤ (if ib n2 = 0 then kd.B - 1 else ib n / ib n2) ∧ (if ib n2 = 0 then kd.B - 1 else ib n / ib n2) < kd.B := by
    split
    · omega
    · have := Int.ediv_nonneg hn0 h0
      have := Int.ediv_le_self (ib n2) hn0
      omega
  obtain ⟨q1, q2⟩ := plain_bits h.gd hp rng.1 rng.2
  have q := rf_two (wd := wd) (kq := kd) h h2 hg (deed := "over") (by decide +kernel) (by decide +kernel) (by decide +kernel) (fun _ => hp) (if_neg (by decide +kernel)) (.inr (by rw [e2]; exact h0)) (fun _ _ _ => by rw [es]; exact q1)
  have ew : workedM ⟨"over", [g], [n, n2], [], ""⟩ kd [kd.countOf (ib n), kd.countOf (ib n2)] = ((if ib n2 = 0 then kd.B - 1 else ib n / ib n2), (if ib n2 = 0 then ("nothing" : Str) else "")) := by
    have rk : reckonedM ⟨"over", [g], [n, n2], [], ""⟩ kd [kd.countOf (ib n), kd.countOf (ib n2)] = summedM "over" kd.w (kd.countOf (ib n)) (kd.countOf (ib n2)) := by
      unfold reckonedM
      rw [if_neg (by show ¬ ("over" : Str) = "mul"; decide +kernel), if_neg (by show ¬ (2 = 3); decide), if_pos (by rfl)]; rfl
    unfold workedM
    rw [if_neg (by show ¬ ("over" : Str) = "set"; decide +kernel), if_neg (by show ¬ ("over" : Str) ∈ ROUNDS; decide +kernel), if_neg (by show ¬ ("over" : Str) ∈ STOPS; decide +kernel), rk, es, q2]
    by_cases c : ib n2 = 0
    · rw [if_pos c, if_pos c]
      exact if_pos ⟨rfl, by show kd.countOf (ib n2) = 0; rw [e2]; exact c⟩
    · rw [if_neg c, if_neg c]
      exact if_neg fun z => c (by have : kd.countOf (ib n2) = 0 := z.2; rw [e2] at this; exact this)
  rwa [ew] at q
theorem rf_pick {g : Str} (hp : kd3.tag = .plain) (h3 : Wd k0 ib n3 kd3) (h : Wd k0 ib n kd) (h2 : Wd k0 ib n2 kd) (hg : isName g = true) : RF wd k0 ib ⟨[g], "pick", [.nm n3, .nm n, .nm n2]⟩ (if ib n3 = 0 then ib n2 else ib n) "" := by
  have e3 := plain_count h3 hp
  have ek : kdQ wd k0 (RowT.q ⟨[g], "pick", [.nm n3, .nm n, .nm n2]⟩) = kd := by
    unfold kdQ madeKind
    show (if ("pick" : Str) ∈ CMPS then _ else ([n3, n, n2].map (getKd k0)).getLastD _) = _
    rw [if_neg (by decide +kernel), ks3 h3 h h2]; rfl
  have ec : csQ k0 ib (RowT.q ⟨[g], "pick", [.nm n3, .nm n, .nm n2]⟩) = [kd3.countOf (ib n3), kd.countOf (ib n), kd.countOf (ib n2)] := cs3 h3 h h2 rfl
  have rk : reckonedM (RowT.q ⟨[g], "pick", [.nm n3, .nm n, .nm n2]⟩) kd [kd3.countOf (ib n3), kd.countOf (ib n), kd.countOf (ib n2)] = if ib n3 = 0 then kd.countOf (ib n2) else kd.countOf (ib n) := by
    unfold reckonedM
    rw [if_neg (by show ¬ ("pick" : Str) = "mul"; decide +kernel), if_pos (by rfl), e3]
    rfl
  have cnt : kd.isCount (if ib n3 = 0 then kd.countOf (ib n2) else kd.countOf (ib n)) = true := by
    split
    · exact h2.cnt
    · exact h.cnt
  refine ⟨⟨by show ("pick" : Str) ∈ DEEDS; decide +kernel, by show formOf "pick" = ⟨#[98, 98, 98]⟩; decide +kernel, fun x hx => by rw [List.mem_singleton.mp hx]; exact hg, .inl ⟨g, rfl, by show ("pick" : Str) ≠ "part"; decide +kernel⟩, fun x hx => ?_⟩, ⟨by show 1 ≤ 3; decide, by show 3 ≤ 1000; decide, ?_, ?_⟩, ⟨⟨g, [], rfl⟩, ?_, fun z => absurd (show ("pick" : Str) = "part" from z) (by decide +kernel)⟩, ?_⟩
  · rcases List.mem_cons.mp hx with rfl | hx
    · exact h3.nm
    rcases List.mem_cons.mp hx with rfl | hx
    · exact h.nm
    · rw [List.mem_singleton.mp hx]; exact h2.nm
  · intro x hx
    rcases List.mem_cons.mp (show x ∈ [n3, n, n2] from hx) with rfl | hx
    · rw [h3.lk]; rfl
    rcases List.mem_cons.mp hx with rfl | hx
    · rw [h.lk]; rfl
    · rw [List.mem_singleton.mp hx, h2.lk]; rfl
  · show MadeOk _ wd ([n3, n, n2].map (getKd k0))
    rw [ks3 h3 h h2]
    exact ⟨(fun z => nomatch z), fun z => absurd (show ("pick" : Str) ∈ PLAINS from z) (by decide +kernel), fun z => absurd (show ("pick" : Str) = "mul" from z) (by decide +kernel), fun _ => ⟨kd3, [kd, kd], rfl, hp⟩, fun _ => ⟨[kd3], kd, rfl⟩, fun z => absurd (show ("pick" : Str) = "div" ∨ ("pick" : Str) = "times" from z) (by decide +kernel)⟩
  · rw [ek, ec]
    refine ⟨fun z => absurd (show ("pick" : Str) = "set" from z) (by decide +kernel), fun _ => ⟨.inr (.inr rfl), fun x hx => ?_, fun z => absurd (show ("pick" : Str) = "mul" from z) (by decide +kernel), (fun x hx => by cases hx), (fun x y hx => by cases hx)⟩, fun z => absurd (show ("pick" : Str) = "over" from z) (by decide +kernel), fun _ _ _ _ => by rw [rk]; exact cnt⟩
    rcases List.mem_cons.mp hx with rfl | hx
    · exact h3.le
    rcases List.mem_cons.mp hx with rfl | hx
    · exact h.le
    · rw [List.mem_singleton.mp hx]; exact h2.le
  · unfold wkQ workedM
    rw [ek, ec, rk]
    rw [if_neg (by show ¬ ("pick" : Str) = "set"; decide +kernel), if_neg (by show ¬ ("pick" : Str) ∈ ROUNDS; decide +kernel), if_neg (by show ¬ ("pick" : Str) ∈ STOPS; decide +kernel), if_neg (fun z => absurd (show ("pick" : Str) = "over" from z.1) (by decide +kernel))]
    by_cases c : ib n3 = 0
    · rw [if_pos c, if_pos c, h2.gd.bits_count h2.h0 h2.hB]
    · rw [if_neg c, if_neg c, h.gd.bits_count h.h0 h.hB]
theorem rf_part {g g2 : Str} {N : Int} (hw : kd.w = wd) (hp : kd.tag = .plain) (h : Wd k0 ib n kd) (hg : isName g = true) (hg2 : isName g2 = true) (hne : g ≠ g2) (h1 : 1 ≤ N) (hN : N ≤ kd.most) : RF wd k0 ib ⟨[g, g2], "part", [.nm n, .nn N]⟩ (ib n / N) "" ∧ num0 (csQ k0 ib (RowT.q ⟨[g, g2], "part", [.nm n, .nn N]⟩)) % num0 (RowT.q ⟨[g, g2], "part", [.nm n, .nn N]⟩).numbers = ib n % N := by
  obtain ⟨m1, m2, m3⟩ := most_le h.gd hN
  have e1 := plain_count h hp
  have r0 := Int.ediv_nonneg h.h0 (show 0 ≤ N by omega)
  have r1 := Int.ediv_le_self N h.h0
  have hB := h.hB
  obtain ⟨b1, b2⟩ := plain_bits h.gd hp r0 (by omega)
  have ek : kdQ wd k0 (RowT.q ⟨[g, g2], "part", [.nm n, .nn N]⟩) = kd := by
    unfold kdQ madeKind
    show (if ("part" : Str) ∈ CMPS then _ else ([n].map (getKd k0)).getLastD _) = _
    rw [if_neg (by decide +kernel), ks1 h]; rfl
  have ec : csQ k0 ib (RowT.q ⟨[g, g2], "part", [.nm n, .nn N]⟩) = [kd.countOf (ib n)] := cs1 h rfl
  have rk : reckonedM (RowT.q ⟨[g, g2], "part", [.nm n, .nn N]⟩) kd [kd.countOf (ib n)] = ib n / N := by
    unfold reckonedM
    rw [if_neg (by show ¬ ("part" : Str) = "mul"; decide +kernel), if_neg (c := [kd.countOf (ib n)].length = 3) (by show ¬ (1 = 3); decide), if_neg (c := [kd.countOf (ib n)].length = 2) (by show ¬ (1 = 2); decide)]
    unfold movedM
    rw [if_neg (by show ¬ ("part" : Str) = "left"; decide +kernel), if_neg (by show ¬ ("part" : Str) = "right"; decide +kernel), if_neg (by show ¬ ("part" : Str) = "div"; decide +kernel), if_neg (by show ¬ ("part" : Str) = "times"; decide +kernel), if_neg (by show ¬ ("part" : Str) = "rest"; decide +kernel), if_pos (by rfl)]
    show kd.countOf (ib n) / N = _
    rw [e1]
  refine ⟨⟨⟨by show ("part" : Str) ∈ DEEDS; decide +kernel, by show formOf "part" = ⟨#[98, 110]⟩; decide +kernel, fun x hx => ?_, .inr ⟨g, g2, rfl, hne, rfl⟩, fun x hx => ?_⟩, ⟨by show 2 ≤ 3; decide, by show 1 ≤ 1000; decide, ?_, ?_⟩, ⟨⟨g, [g2], rfl⟩, ?_, fun _ => ⟨⟨g, g2, rfl⟩, ⟨n, [], rfl⟩, N, [], rfl, by omega⟩⟩, ?_⟩, ?_⟩
  · rcases List.mem_cons.mp hx with rfl | hx
    · exact hg
    · rw [List.mem_singleton.mp hx]; exact hg2
  · rcases List.mem_cons.mp hx with rfl | hx
    · exact h.nm
    · rw [List.mem_singleton.mp hx]; exact ⟨h1, hw ▸ m1⟩
  · intro x hx
    rw [List.mem_singleton.mp (show x ∈ [n] from hx), h.lk]; rfl
  · show MadeOk _ wd ([n].map (getKd k0))
    rw [ks1 h]
    refine ⟨(fun z => nomatch z), fun z k hk => by rw [List.mem_singleton.mp hk]; exact hp, fun z => absurd (show ("part" : Str) = "mul" from z) (by decide +kernel), fun z => absurd (show ("part" : Str) = "pick" from z) (by decide +kernel), fun z => absurd (show ("part" : Str) ∈ LIKES ∨ ("part" : Str) = "mul" ∨ ("part" : Str) = "pick" from z) (by decide +kernel), fun z => absurd (show ("part" : Str) = "div" ∨ ("part" : Str) = "times" from z) (by decide +kernel)⟩
  · rw [ek, ec]
    refine ⟨fun z => absurd (show ("part" : Str) = "set" from z) (by decide +kernel), fun _ => ⟨.inl rfl, fun x hx => by rw [List.mem_singleton.mp hx]; exact h.le, fun z => absurd (show ("part" : Str) = "mul" from z) (by decide +kernel), fun x hx => ?_, fun x y hx => by cases hx⟩, fun z => absurd (show ("part" : Str) = "over" from z) (by decide +kernel), fun _ _ _ _ => by rw [rk]; exact b1⟩
    rw [← (List.cons.inj hx).1]
    exact ⟨h.le.1, h.le.2, mv_not (by show ¬ (("part" : Str) = "left" ∨ ("part" : Str) = "right"); decide +kernel), mv_not (by show ¬ ("part" : Str) = "div"; decide +kernel), mv_not (by show ¬ ("part" : Str) = "times"; decide +kernel), fun _ => ⟨N, rfl, h1, m2⟩⟩
  · unfold wkQ workedM
    rw [ek, ec, rk]
    rw [if_neg (by show ¬ ("part" : Str) = "set"; decide +kernel), if_neg (by show ¬ ("part" : Str) ∈ ROUNDS; decide +kernel), if_neg (by show ¬ ("part" : Str) ∈ STOPS; decide +kernel), if_neg (fun z => absurd (show ("part" : Str) = "over" from z.1) (by decide +kernel)), b2]
  · rw [ec]
    show kd.countOf (ib n) % N = _
    rw [e1]
end

end
section
variable {P : Program} {w : World} {K : PySem.W.Frag} {mg : Str → Option Value} {base : Heap}
def sp_L_cell (K : PySem.W.Frag) : Sp := fun vs H Q _ => ∃ p, ∃ xs : List Int, ∃ k : Nat, vs = [.ref p, .int k] ∧ SqL K H p (xs.map V.int) ∧ ∀ i : Int, Q (.int i) H
abbrev N_L_cell : List Str := ["_law_script", "_law_k"]
theorem sc_L_cell : FnScope ["_law_script", "_law_k"] ["_law_script", "_law_k"] (defScope s_L_cell) := ⟨rfl, rfl, rfl, by decide +kernel, rfl, by decide +kernel, by decide +kernel⟩
theorem ok_L_cell {f : Addr} {fd : FuncData} (T : Tx K mg)  (F : FunP K "_law_cell" "_law_cell" s_L_cell f fd) : FnOk P w K mg base (L2.CX P w) 1 f fd ["_law_script", "_law_k"] (sp_L_cell K) := by
  refine F.ok sc_L_cell (fun vs H Q E h => ?_) (fun cdv A outer s H vs Q E hr h => ?_)
  · repeat first | (obtain ⟨e, _⟩ := h; subst e; rfl; done) | (obtain ⟨_, h⟩ := h)
  refine ⟨_, (pss_cons (ps_if (pt_cmpR op_lt (pv 1) (pe_callB call_len_seq (by rfl) (fr_len T) (by decide +kernel) (pa_cons (pv 0) pa_nil)) (nomark _)) (pss_one (ps_ret (pe_ix ix_list (pv 0) (pv 1) (fun _ _ => rfl)))) pss_nil)
  (pss_one (ps_ret (pe_op op_add (pe_op op_mul pe_int (pv 1)) pe_int)))), ?_⟩
  try dsimp only [cxK]
  obtain ⟨p, xs, k, rfl, hp, kq⟩ := h
  walk_at "rd"
  refine ⟨p, _, rfl, .inl hp, ?_⟩
  walk_at "rd"
  refine r_iteD (fun h1 => ?_) (fun h1 => ?_)
  · walk_at "rd"
    rw [List.length_map] at h1
    have hk : k < xs.length := by omega
    refine r_ixL hp (atNat (n := k) (x := V.int xs[k]) (by rw [List.getElem?_map, List.getElem?_eq_getElem hk]; rfl)) ?_
    exact kq _
  · walk_at "rd"
    refine r_I (.inl ⟨by decide, by decide⟩) ?_
    walk_at "rd"
    exact kq _
theorem cal_L_cell (T : Tx K mg) : CalX P w K mg base 1 "_law_cell" (sp_L_cell K) [] := by
  obtain ⟨fd, F⟩ := fn_L_cell T
  exact ⟨_, fd, _, [], ok_L_cell T F, g__law_cell T, F.kp, F.bindsN fun _ _ _ _ _ _ us hl => match us, hl with | [_, _], _ => rfl, .nil⟩

end
section
variable {P : Program} {w : World} {K : PySem.W.Frag} {mg : Str → Option Value} {base : Heap}
/-- a box: three numbers -/
def BoxAt (H : Hp) (b : Addr) : Prop := ∃ x y z : Int, H b = some (.lst [.int x, .int y, .int z])
def sp_L_box (K : PySem.W.Frag) : Sp := fun vs H Q _ => ∃ i : Int, vs = [.int i] ∧ ∀ b H', H b = none → Same H H' → BoxAt H' b → Q (.ref b) H'
abbrev N_L_box : List Str := ["_law_cell_here"]
theorem sc_L_box : FnScope ["_law_cell_here"] ["_law_cell_here"] (defScope s_L_box) := ⟨rfl, rfl, rfl, by decide +kernel, rfl, by decide +kernel, by decide +kernel⟩
theorem ok_L_box {f : Addr} {fd : FuncData} (T : Tx K mg)  (F : FunP K "_law_box" "_law_box" s_L_box f fd) : FnOk P w K mg base (L2.CX P w) 1 f fd ["_law_cell_here"] (sp_L_box K) := by
  refine F.ok sc_L_box (fun vs H Q E h => ?_) (fun cdv A outer s H vs Q E hr h => ?_)
  · repeat first | (obtain ⟨e, _⟩ := h; subst e; rfl; done) | (obtain ⟨_, h⟩ := h)
  refine ⟨_, (pss_one (ps_ret (pe_lst (pa_cons (pe_callB (call_max2 rfl) (by rfl) (fr_max T) (by decide +kernel) (pa_cons pe_int (pa_cons (pe_op op_sub (pv 0) (pe_op op_pow pe_int pe_int)) pa_nil))) (pa_cons (pe_op op_mod (pv 0) pe_int) (pa_cons pe_int pa_nil)))))), ?_⟩
  try dsimp only [cxK]
  obtain ⟨i, rfl, kq⟩ := h
  walk_at "rd"
  refine r_I ⟨by decide, by decide, by decide⟩ ?_
  walk_at "rd"
  refine ⟨_, _, rfl, ?_⟩
  walk_at "rd"
  refine r_I (by decide) ?_
  walk_at "rd"
  refine r_newL fun q hq => ?_
  exact kq q _ hq (Same.new hq) ⟨_, _, _, upd_same⟩
theorem cal_L_box (T : Tx K mg) : CalX P w K mg base 1 "_law_box" (sp_L_box K) [] := by
  obtain ⟨fd, F⟩ := fn_L_box T
  exact ⟨_, fd, _, [], ok_L_box T F, g__law_box T, F.kp, F.bindsN fun _ _ _ _ _ _ us hl => match us, hl with | [_], _ => rfl, .nil⟩

end
section
variable {P : Program} {w : World} {K : PySem.W.Frag} {mg : Str → Option Value} {base : Heap}
/-! ### a program stays while a box changes -/
def NotBox (o : HO) : Prop := ∀ i j k : Int, o ≠ .lst [.int i, .int j, .int k]
def Keeps (H H' : Hp) : Prop := ∀ x o, H x = some o → NotBox o → H' x = some o
theorem nb_strs (l : List Str) : NotBox (.lst (l.map V.str)) := by
  intro i j k z
  injection z with z
  cases l with
  | nil => cases z
  | cons x l => cases z
theorem nb_ins {C dx : Addr} {fs : List (Str × V)} : NotBox (.ins C dx fs) := fun _ _ _ z => nomatch z
theorem nb_tup {us : List V} : NotBox (.tup us) := fun _ _ _ z => nomatch z
theorem nb_dK {kv : List (Key × V)} : NotBox (.dK kv) := fun _ _ _ z => nomatch z
theorem nb_ints {l : List Int} (h : l.length ≠ 3) : NotBox (.lst (l.map V.int)) := by
  intro i j k z
  injection z with z
  have := congrArg List.length z
  rw [List.length_map] at this
  exact h this
def Rows.few : Rows → Prop
  | .nil => True
  | .row _ q t => q.numbers.length ≠ 3 ∧ t.few
  | .rep _ _ b t => b.few ∧ t.few
theorem chain_few : ∀ (qs : List RowM) (ln : Int), (∀ q ∈ qs, q.numbers.length ≠ 3) → (chain ln qs).few
  | [], _, _ => trivial
  | q :: qs, ln, h => ⟨h q (by simp), chain_few qs (ln + 1) fun x hx => h x (List.mem_cons_of_mem _ hx)⟩
theorem RowsAt.nb {K : PySem.W.Frag} {H : Hp} : ∀ {r : Rows} {vs : List V}, RowsAt K H r vs → NotBox (.lst vs)
  | .nil, _, h => by rw [show _ = [] from h]; exact fun _ _ _ z => nomatch z
  | .row .., _, ⟨a, dx, g, r, n, vs', e, h⟩ => by rw [e]; exact fun _ _ _ z => nomatch z
  | .rep .., _, ⟨a, dx, b, ws, vs', e, h⟩ => by rw [e]; exact fun _ _ _ z => nomatch z
theorem RowsAt.but {K : PySem.W.Frag} {H H' : Hp} (f : Keeps H H') : ∀ {r : Rows} {vs : List V}, r.few → RowsAt K H r vs → RowsAt K H' r vs
  | .nil, _, _, h => h
  | .row .., _, hf, ⟨a, dx, g, r, n, vs', e, h1, h2, h3, h4, h5⟩ => ⟨a, dx, g, r, n, vs', e, f _ _ h1 nb_ins, f _ _ h2 (nb_strs _), f _ _ h3 (nb_strs _), f _ _ h4 (nb_ints hf.1), RowsAt.but f hf.2 h5⟩
  | .rep .., _, hf, ⟨a, dx, b, ws, vs', e, h1, h2, h3, h4⟩ => ⟨a, dx, b, ws, vs', e, f _ _ h1 nb_ins, f _ _ h2 h3.nb, RowsAt.but f hf.1 h3, RowsAt.but f hf.2 h4⟩
theorem PinsAt.nb {K : PySem.W.Frag} {H : Hp} : ∀ {l : List (Str × KindM)} {vs : List V}, PinsAt K H l vs → NotBox (.lst vs)
  | [], _, h => by rw [show _ = [] from h]; exact fun _ _ _ z => nomatch z
  | (_, _) :: _, _, ⟨t, k, vs', e, h⟩ => by rw [e]; exact fun _ _ _ z => nomatch z
theorem ProgAt.but {K : PySem.W.Frag} {H H' : Hp} {a : Addr} {M : ProgM} (f : Keeps H H') (hf : M.rows.few) (h : ProgAt K H a M) : ProgAt K H' a M := by
  obtain ⟨dx, i, rr, o, k, vi, vr, kvs, h1, h2, h3, h4, h5, h6, h7, h8⟩ := h
  exact ⟨dx, i, rr, o, k, vi, vr, kvs, f _ _ h1 nb_ins, f _ _ h2 h3.nb, h3.move (fun _ _ _ _ e => f _ _ e nb_ins) (fun _ _ e => f _ _ e nb_tup), f _ _ h4 h5.nb, h5.but f hf, f _ _ h6 (nb_strs _), f _ _ h7 nb_dK, h8.move fun _ _ _ _ e => f _ _ e nb_ins⟩
theorem SameBut.keeps {b : Addr} {H H' : Hp} (hb : BoxAt H b) (f : SameBut b H H') : Keeps H H' := fun x o e hn => f x o (fun z => by
  obtain ⟨i, j, k, eb⟩ := hb
  rw [z, eb] at e
  exact hn i j k (Option.some.inj e).symm) e

end
section
variable {P : Program} {w : World} {K : PySem.W.Frag} {mg : Str → Option Value} {base : Heap}
def sp_L_take (K : PySem.W.Frag) : Sp := fun vs H Q _ => ∃ b, ∃ many : Int, vs = [.ref b, .int many] ∧ BoxAt H b ∧ 0 < many ∧ many ≤ 10000000000 ∧ ∀ (r : Int) H', 0 ≤ r → r < many → BoxAt H' b → SameBut b H H' → Q (.int r) H'
abbrev N_L_take : List Str := ["_law_box_here", "_law_many", "_law_digit", "_law_number"]
theorem sc_L_take : FnScope ["_law_box_here", "_law_many", "_law_digit", "_law_number"] ["_law_box_here", "_law_many"] (defScope s_L_take) := ⟨rfl, rfl, rfl, by decide +kernel, rfl, by decide +kernel, by decide +kernel⟩
theorem ok_L_take {f : Addr} {fd : FuncData} (T : Tx K mg)  (F : FunP K "_law_take" "_law_take" s_L_take f fd) : FnOk P w K mg base (L2.CX P w) 1 f fd ["_law_box_here", "_law_many"] (sp_L_take K) := by
  refine F.ok sc_L_take (fun vs H Q E h => ?_) (fun cdv A outer s H vs Q E hr h => ?_)
  · repeat first | (obtain ⟨e, _⟩ := h; subst e; rfl; done) | (obtain ⟨_, h⟩ := h)
  refine ⟨_, (pss_cons (ps_if (pt_cmpR op_gt (pe_ix ix_list (pv 0) pe_int (fun _ _ => rfl)) pe_int (nomark _)) (pss_cons (ps_set (i := 2) sc_L_take.nd rfl (Or.inl rfl) (pe_op op_mod (pe_ix ix_list (pv 0) pe_int (fun _ _ => rfl)) (pv 1)))
  (pss_cons (ps_asg (pe_op op_fdivW (pe_ix ix_list (pv 0) pe_int (fun _ _ => rfl)) (pv 1)) (pg_sub (pv 0) pe_int set_list))
  (pss_one (ps_ret (pv 2))))) pss_nil)
  (pss_cons (ps_asg (pe_op op_add (pe_ix ix_list (pv 0) pe_int (fun _ _ => rfl)) pe_int) (pg_sub (pv 0) pe_int set_list))
  (pss_cons (ps_set (i := 3) sc_L_take.nd rfl (Or.inl rfl) (pe_op op_mod (pe_op op_mul (pe_op op_add (pe_op op_add (pe_ix ix_list (pv 0) pe_int (fun _ _ => rfl)) (pe_op op_mul pe_int (pe_ix ix_list (pv 0) pe_int (fun _ _ => rfl)))) pe_int) pe_int) pe_int))
  (pss_cons (ps_set (i := 3) sc_L_take.nd rfl (Or.inl rfl) (pe_op op_mod (pe_op op_add (pe_op op_add (pe_op op_mul (pv 3) (pv 3)) (pe_op op_mul pe_int (pe_ix ix_list (pv 0) pe_int (fun _ _ => rfl)))) pe_int) pe_int))
  (pss_one (ps_ret (pe_op op_mod (pe_op op_fdivW (pe_op op_mod (pe_op op_mul (pv 3) (pe_op op_add (pv 3) pe_int)) pe_int) pe_int) (pv 1)))))))), ?_⟩
  try dsimp only [cxK]
  obtain ⟨b, many, rfl, ⟨x, y, z, hb⟩, m0, m1, kq⟩ := h
  walk_at "rd"
  refine r_ixL (SqL.of hb) at0 ?_
  walk_at "rd"
  refine r_iteD (fun h1 => ?_) (fun h1 => ?_)
  · walk_at "rd"
    refine r_ixL (SqL.of hb) at0 ?_
    walk_at "rd"
    refine r_I m0 ?_
    walk_at "rd"
    refine r_ixL (SqL.of hb) at0 ?_
    walk_at "rd"
    refine r_I (wide_div (b := 40) m0 (by omega) (by decide) (by decide)) ?_
    refine ⟨_, rfl, ?_⟩
    refine ⟨b, _, 0, 0, rfl, rfl, hb, rfl, ?_⟩
    walk_at "rd"
    exact kq _ _ (Int.emod_nonneg _ (by omega)) (Int.emod_lt_of_pos _ m0) ⟨_, _, _, upd_same⟩ fun c o hc e => by rw [upd_ne hc]; exact e
  · walk_at "rd"
    refine r_ixL (SqL.of hb) at2 ?_
    walk_at "rd"
    refine ⟨_, rfl, ?_⟩
    refine ⟨b, _, 2, 2, rfl, rfl, hb, rfl, ?_⟩
    have hb2 : upd H b (.lst (List.set [V.int x, V.int y, V.int z] 2 (.int (z + 1)))) b = some (.lst [.int x, .int y, .int (z + 1)]) := upd_same
    have f2 : ∀ c o, c ≠ b → H c = some o → upd H b (.lst (List.set [V.int x, V.int y, V.int z] 2 (.int (z + 1)))) c = some o := fun c o hc e => by rw [upd_ne hc]; exact e
    generalize upd H b (.lst (List.set [V.int x, V.int y, V.int z] 2 (.int (z + 1)))) = H2 at *
    walk_at "rd"
    refine r_ixL (SqL.of hb2) at1 ?_
    walk_at "rd"
    refine r_ixL (SqL.of hb2) at2 ?_
    refine r_I (.inl ⟨by decide, by decide⟩) ?_
    walk_at "rd"
    refine r_I (.inr ⟨by decide, by decide⟩) ?_
    walk_at "rd"
    refine r_I (by decide) ?_
    walk_at "rd"
    have n1 := Int.emod_nonneg ((y + 7919 * (z + 1) + 17) * 48271) (show (2147483629 : Int) ≠ 0 by decide)
    have n2 := Int.emod_lt_of_pos ((y + 7919 * (z + 1) + 17) * 48271) (show (0 : Int) < 2147483629 by decide)
    generalize (y + 7919 * (z + 1) + 17) * 48271 % 2147483629 = nn at *
    refine r_I (.inl ⟨by omega, by omega⟩) ?_
    walk_at "rd"
    refine r_ixL (SqL.of hb2) at2 ?_
    refine r_I (.inl ⟨by decide, by decide⟩) ?_
    walk_at "rd"
    refine r_I (by decide) ?_
    walk_at "rd"
    have n3 := Int.emod_nonneg (nn * nn + 16807 * (z + 1) + 3) (show (2147483587 : Int) ≠ 0 by decide)
    have n4 := Int.emod_lt_of_pos (nn * nn + 16807 * (z + 1) + 3) (show (0 : Int) < 2147483587 by decide)
    generalize (nn * nn + 16807 * (z + 1) + 3) % 2147483587 = mm at *
    refine r_I (.inl ⟨by omega, by omega⟩) ?_
    walk_at "rd"
    refine r_I (by decide) ?_
    walk_at "rd"
    refine r_I ⟨by decide, by decide⟩ ?_
    walk_at "rd"
    refine r_I m0 ?_
    exact kq _ _ (Int.emod_nonneg _ (by omega)) (Int.emod_lt_of_pos _ m0) ⟨_, _, _, hb2⟩ f2
theorem cal_L_take (T : Tx K mg) : CalX P w K mg base 1 "_law_take" (sp_L_take K) [] := by
  obtain ⟨fd, F⟩ := fn_L_take T
  exact ⟨_, fd, _, [], ok_L_take T F, g__law_take T, F.kp, F.bindsN fun _ _ _ _ _ _ us hl => match us, hl with | [_, _], _ => rfl, .nil⟩

end
section
variable {P : Program} {w : World} {K : PySem.W.Frag} {mg : Str → Option Value} {base : Heap}
theorem and_le {x y : Int} (hx : 0 ≤ x) (hy : 0 ≤ y) : 0 ≤ Builtin.bitAnd x y ∧ Builtin.bitAnd x y ≤ y := by
  rw [PyProof.Rows.bitAnd_pp hx hy]
  have := Nat.and_le_right (n := x.toNat) (m := y.toNat)
  omega
def sp_L_bits (K : PySem.W.Frag) : Sp := fun vs H Q _ => ∃ b, ∃ w : Int, vs = [.ref b, .int w] ∧ BoxAt H b ∧ 4 ≤ w ∧ w ≤ 32 ∧ ∀ (r : Int) H', 0 ≤ r → r < 2 ^ w.toNat → BoxAt H' b → SameBut b H H' → Q (.int r) H'
abbrev N_L_bits : List Str := ["_law_box_here", "_law_width", "_law_way", "_law_half", "_law_top"]
theorem sc_L_bits : FnScope ["_law_box_here", "_law_width", "_law_way", "_law_half", "_law_top"] ["_law_box_here", "_law_width"] (defScope s_L_bits) := ⟨rfl, rfl, rfl, by decide +kernel, rfl, by decide +kernel, by decide +kernel⟩
theorem ok_L_bits {f : Addr} {fd : FuncData} (T : Tx K mg)  (F : FunP K "_law_bits" "_law_bits" s_L_bits f fd) : FnOk P w K mg base (L2.CX P w) 2 f fd ["_law_box_here", "_law_width"] (sp_L_bits K) := by
  refine F.ok sc_L_bits (fun vs H Q E h => ?_) (fun cdv A outer s H vs Q E hr h => ?_)
  · repeat first | (obtain ⟨e, _⟩ := h; subst e; rfl; done) | (obtain ⟨_, h⟩ := h)
  refine ⟨_, (pss_cons (ps_set (i := 2) sc_L_bits.nd rfl (Or.inl rfl) (pe_cX (cal_L_take T) hr (by decide) rfl pU (pa_cons (pv 0) (pa_cons pe_int pa_nil))))
  (pss_cons (ps_if (pt_cmpR op_lt (pv 2) pe_int (nomark _)) (pss_cons (ps_set (i := 3) sc_L_bits.nd rfl (Or.inl rfl) (pe_op op_shl pe_int (pe_op op_sub (pv 1) pe_int)))
  (pss_one (ps_ret (pe_ix ix_list (pe_lst (pa_cons pe_int (pa_cons (pe_op op_sub (pe_op op_mul pe_int (pv 3)) pe_int) (pa_cons (pv 3) (pa_cons (pe_op op_sub (pv 3) pe_int) (pa_cons (pe_op op_shl pe_int (pe_cX (cal_L_take T) hr (by decide) rfl pU (pa_cons (pv 0) (pa_cons (pv 1) pa_nil)))) pa_nil)))))) (pv 2) (fun _ _ => rfl))))) pss_nil)
  (pss_cons (ps_if (pt_cmpR op_eq (pv 2) pe_int (nomark _)) (pss_one (ps_ret (pe_cX (cal_L_take T) hr (by decide) rfl pU (pa_cons (pv 0) (pa_cons pe_int pa_nil))))) pss_nil)
  (pss_cons (ps_if (pt_cmpR op_gt (pe_ix ix_list (pv 0) pe_int (fun _ _ => rfl)) pe_int (nomark _)) (pss_one (ps_ret (pe_cX (cal_L_take T) hr (by decide) rfl pU (pa_cons (pv 0) (pa_cons (pe_op op_shl pe_int (pv 1)) pa_nil))))) pss_nil)
  (pss_cons (ps_set (i := 4) sc_L_bits.nd rfl (Or.inl rfl) (pe_cX (cal_L_take T) hr (by decide) rfl pU (pa_cons (pv 0) (pa_cons pe_int pa_nil))))
  (pss_one (ps_ret (pe_op op_and (pe_op op_or (pe_op op_shl (pv 4) pe_int) (pe_cX (cal_L_take T) hr (by decide) rfl pU (pa_cons (pv 0) (pa_cons pe_int pa_nil)))) (pe_op op_sub (pe_op op_shl pe_int (pv 1)) pe_int))))))))), ?_⟩
  try dsimp only [cxK]
  obtain ⟨b, w, rfl, hb, h4, h32, kq⟩ := h
  have hp := pow_wd h4 h32
  have eh : (2 : Int) ^ w.toNat = 2 * 2 ^ (w - 1).toNat := by
    rw [show w.toNat = (w - 1).toNat + 1 by omega, Int.pow_succ]; omega
  walk_at "rd"
  refine ⟨b, 8, rfl, hb, by decide, by decide, fun r H1 r0 r8 b1 f1 => ?_⟩
  walk_at "rd"
  refine r_iteD (fun c1 => ?_) (fun c1 => ?_)
  · walk_at "rd"
    refine r_I ⟨by omega, by omega, by decide⟩ ?_
    rw [Int.one_mul]
    generalize hh : (2 : Int) ^ (w - 1).toNat = hf at *
    walk_at "rd"
    refine r_I (.inl ⟨by decide, by decide⟩) ?_
    walk_at "rd"
    refine ⟨b, w, rfl, b1, by omega, by omega, fun t H2 t0 tw b2 f2 => ?_⟩
    walk_at "rd"
    refine r_I ⟨by omega, by omega, by decide⟩ ?_
    rw [Int.one_mul]
    have ht := pow_pos' t.toNat
    have ht2 : (2 : Int) ^ t.toNat ≤ hf := by
      rw [← hh]
      have : (2 : Nat) ^ t.toNat ≤ 2 ^ (w - 1).toNat := Nat.pow_le_pow_right (by decide) (by omega)
      have e1 : ((2 ^ t.toNat : Nat) : Int) = (2 : Int) ^ t.toNat := by simp
      have e2 : ((2 ^ (w - 1).toNat : Nat) : Int) = (2 : Int) ^ (w - 1).toNat := by simp
      omega
    generalize (2 : Int) ^ t.toNat = tt at *
    generalize (2 : Int) ^ w.toNat = B at *
    walk_at "rd"
    refine r_newL fun q hq => ?_
    have s3 := Same.new (o := .lst [V.int 0, V.int (2 * hf - 1), V.int hf, V.int (hf - 1), V.int tt]) hq
    have e3 : upd H2 q (.lst [V.int 0, V.int (2 * hf - 1), V.int hf, V.int (hf - 1), V.int tt]) q = some (.lst [V.int 0, V.int (2 * hf - 1), V.int hf, V.int (hf - 1), V.int tt]) := upd_same
    have b3 : BoxAt (upd H2 q (.lst [V.int 0, V.int (2 * hf - 1), V.int hf, V.int (hf - 1), V.int tt])) b := by
      obtain ⟨x, y, z, e⟩ := b2
      exact ⟨x, y, z, s3 _ _ e⟩
    have f3 : SameBut b H (upd H2 q (.lst [V.int 0, V.int (2 * hf - 1), V.int hf, V.int (hf - 1), V.int tt])) := fun c o hc e => s3 _ _ (f2 c o hc (f1 c o hc e))
    generalize upd H2 q (.lst [V.int 0, V.int (2 * hf - 1), V.int hf, V.int (hf - 1), V.int tt]) = H3 at *
    walk_at "rd"
    obtain rfl | rfl | rfl | rfl | rfl : r = 0 ∨ r = 1 ∨ r = 2 ∨ r = 3 ∨ r = 4 := by omega
    · exact r_ixL (SqL.of e3) (show atI [V.int 0, V.int (2 * hf - 1), V.int hf, V.int (hf - 1), V.int tt] 0 = some _ from rfl) (kq _ _ (by omega) (by omega) b3 f3)
    · exact r_ixL (SqL.of e3) (show atI [V.int 0, V.int (2 * hf - 1), V.int hf, V.int (hf - 1), V.int tt] 1 = some _ from rfl) (kq _ _ (by omega) (by omega) b3 f3)
    · exact r_ixL (SqL.of e3) (show atI [V.int 0, V.int (2 * hf - 1), V.int hf, V.int (hf - 1), V.int tt] 2 = some _ from rfl) (kq _ _ (by omega) (by omega) b3 f3)
    · exact r_ixL (SqL.of e3) (show atI [V.int 0, V.int (2 * hf - 1), V.int hf, V.int (hf - 1), V.int tt] 3 = some _ from rfl) (kq _ _ (by omega) (by omega) b3 f3)
    · exact r_ixL (SqL.of e3) (show atI [V.int 0, V.int (2 * hf - 1), V.int hf, V.int (hf - 1), V.int tt] 4 = some _ from rfl) (kq _ _ (by omega) (by omega) b3 f3)
  walk_at "rd"
  refine r_iteD (fun c2 => ?_) (fun c2 => ?_)
  · walk_at "rd"
    refine ⟨b, 12, rfl, b1, by decide, by decide, fun t H2 t0 tw b2 f2 => ?_⟩
    exact kq _ _ t0 (by omega) b2 fun c o hc e => f2 c o hc (f1 c o hc e)
  obtain ⟨bx, byy, bz, be⟩ := b1
  walk_at "rd"
  refine r_ixL (SqL.of be) at0 ?_
  walk_at "rd"
  refine r_iteD (fun c3 => ?_) (fun c3 => ?_)
  · walk_at "rd"
    refine r_I ⟨by omega, by omega, by decide⟩ ?_
    rw [Int.one_mul]
    walk_at "rd"
    refine ⟨b, 2 ^ w.toNat, rfl, ⟨bx, byy, bz, be⟩, by omega, by omega, fun t H2 t0 tw b2 f2 => ?_⟩
    exact kq _ _ t0 tw b2 fun c o hc e => f2 c o hc (f1 c o hc e)
  · walk_at "rd"
    refine ⟨b, 65536, rfl, ⟨bx, byy, bz, be⟩, by decide, by decide, fun t H2 t0 tw b2 f2 => ?_⟩
    walk_at "rd"
    refine r_I ⟨by decide, by decide, by omega⟩ ?_
    walk_at "rd"
    refine ⟨b, 65536, rfl, b2, by decide, by decide, fun t2 H3 t20 tw2 b3 f3 => ?_⟩
    walk_at "rd"
    refine r_I ⟨by omega, by omega, by decide⟩ ?_
    rw [Int.one_mul]
    walk_at "rd"
    have q := and_le (x := Builtin.bitOr (t * 2 ^ (16 : Int).toNat) t2) (y := 2 ^ w.toNat - 1) (Bits.bitOr_nonneg (Int.mul_nonneg t0 (by decide)) t20) (by omega)
    exact kq _ _ q.1 (by omega) b3 fun c o hc e => f3 c o hc (f2 c o hc (f1 c o hc e))
theorem cal_L_bits (T : Tx K mg) : CalX P w K mg base 2 "_law_bits" (sp_L_bits K) [] := by
  obtain ⟨fd, F⟩ := fn_L_bits T
  exact ⟨_, fd, _, [], ok_L_bits T F, g__law_bits T, F.kp, F.bindsN fun _ _ _ _ _ _ us hl => match us, hl with | [_, _], _ => rfl, .nil⟩

end
section
variable {P : Program} {w : World} {K : PySem.W.Frag} {mg : Str → Option Value} {base : Heap}
def SpecAt (H : Hp) (s : Addr) (kd : KindM) : Prop := H s = some (.tup [.str kd.tag.word, .int kd.w, .int kd.p])
theorem SpecAt.on {H H' : Hp} {s : Addr} {kd : KindM} (h : SpecAt H s kd) (f : Same H H') : SpecAt H' s kd := f _ _ h
theorem word_plain {t : KTag} : t.word = "plain" ↔ t = .plain := by cases t <;> decide +kernel
def sp_L_count (K : PySem.W.Frag) : Sp := fun vs H Q _ => ∃ s kd b, vs = [.ref s, .int b] ∧ SpecAt H s kd ∧ kd.Good ∧ 0 ≤ b ∧ b < kd.B ∧ Q (.int (kd.countOf b)) H
end
section
variable {P : Program} {w : World} {K : PySem.W.Frag} {mg : Str → Option Value} {base : Heap}
def kwT (kd : KindM) : Str := kd.tag.word ++ (if kd.p = 0 then ("" : Str) else (" " : Str) ++ num kd.p)
def sp_L_kind_words (K : PySem.W.Frag) : Sp := fun vs H Q _ => ∃ s kd, vs = [.ref s] ∧ SpecAt H s kd ∧ kd.Good ∧ Rt H Q (.str (kwT kd))
abbrev N_L_kind_words : List Str := ["_law_spec_here"]
theorem sc_L_kind_words : FnScope ["_law_spec_here"] ["_law_spec_here"] (defScope s_L_kind_words) := ⟨rfl, rfl, rfl, by decide +kernel, rfl, by decide +kernel, by decide +kernel⟩
theorem ok_L_kind_words {f : Addr} {fd : FuncData} (T : Tx K mg)  (F : FunP K "_law_kind_words" "_law_kind_words" s_L_kind_words f fd) : FnOk P w K mg base (L2.CX P w) 1 f fd ["_law_spec_here"] (sp_L_kind_words K) := by
  refine F.ok sc_L_kind_words (fun vs H Q E h => ?_) (fun cdv A outer s H vs Q E hr h => ?_)
  · repeat first | (obtain ⟨e, _⟩ := h; subst e; rfl; done) | (obtain ⟨_, h⟩ := h)
  refine ⟨_, (pss_one (ps_ret (pe_op op_add_str (pe_ix ix_tup (pv 0) pe_int (fun _ _ => rfl)) (pe_ix ix_list (pe_lst (pa_cons (pe_op op_add_str pe_str (pe_callTy call_str_int (by rfl) (fr_str T) (by decide +kernel) (pa_cons (pe_ix ix_tup (pv 0) pe_int (fun _ _ => rfl)) pa_nil))) (pa_cons pe_str pa_nil))) (pe_callTy call_int1 (by rfl) (fr_int T) (by decide +kernel) (pa_cons (pe_cmpR op_eq (pe_ix ix_tup (pv 0) pe_int (fun _ _ => rfl)) pe_int (nomark _)) pa_nil)) (fun _ _ => rfl))))), ?_⟩
  try dsimp only [cxK]
  obtain ⟨s, kd, rfl, hs, g, kq⟩ := h
  have hp := g.pp
  walk_at "rd"
  refine r_ixT (SqT.of hs) at0 ?_
  walk_at "rd"
  refine r_ixT (SqT.of hs) at2 ?_
  walk_at "rd"
  refine r_strI (log_ok' (by omega) (by omega)) ?_
  walk_at "rd"
  have hn : (Str.ofString (toString kd.p)).length ≤ 10 := num_small (i := kd.p) (by omega) (by omega)
  have l1 : (" " : Str).length = 1 := by decide +kernel
  have ek : kwT kd = kd.tag.word ++ (if kd.p = 0 then ("" : Str) else (" " : Str) ++ Str.ofString (toString kd.p)) := rfl
  generalize Str.ofString (toString kd.p) = ns at *
  refine ⟨line_le (by rw [l1]; omega), ?_⟩
  walk_at "rd"
  refine r_newL fun q hq => ?_
  have s1 := Same.new (o := .lst [V.str ((" " : Str) ++ ns), V.str ""]) hq
  have e1 : upd H q (.lst [V.str ((" " : Str) ++ ns), V.str ""]) q = some (.lst [V.str ((" " : Str) ++ ns), V.str ""]) := upd_same
  have hs1 := hs.on s1
  generalize upd H q (.lst [V.str ((" " : Str) ++ ns), V.str ""]) = H1 at *
  walk_at "rd"
  refine r_ixT (SqT.of hs1) at2 ?_
  walk_at "rd"
  refine r_intB ?_
  have wl : kd.tag.word.length ≤ 10 := by cases kd.tag <;> decide +kernel
  by_cases c : kd.p = 0
  · rw [decide_eq_true c]
    rw [if_pos c] at ek
    refine r_ixL (SqL.of e1) at1 ?_
    refine ⟨_, _, rfl, rfl, line_le (by show kd.tag.word.length + 0 ≤ 100000; omega), ?_⟩
    rw [← ek]
    exact kq _ s1
  · rw [decide_eq_false c]
    rw [if_neg c] at ek
    refine r_ixL (SqL.of e1) at0 ?_
    refine ⟨_, _, rfl, rfl, line_le (by rw [TL.len_tl ((" " : Str) ++ ns), TL.tl_append, List.length_append, ← TL.len_tl, ← TL.len_tl, l1]; omega), ?_⟩
    rw [← ek]
    exact kq _ s1
theorem cal_L_kind_words (T : Tx K mg) : CalX P w K mg base 1 "_law_kind_words" (sp_L_kind_words K) [] := by
  obtain ⟨fd, F⟩ := fn_L_kind_words T
  exact ⟨_, fd, _, [], ok_L_kind_words T F, g__law_kind_words T, F.kp, F.bindsN fun _ _ _ _ _ _ us hl => match us, hl with | [_], _ => rfl, .nil⟩

end
section
variable {P : Program} {w : World} {K : PySem.W.Frag} {mg : Str → Option Value} {base : Heap}
/-! ### for the laws' own helpers -/
theorem r_cat {H : Hp} {p q : Addr} {xs zs : List V} {Q : VK} (e : H p = some (.lst xs)) (e2 : H q = some (.lst zs)) (hz : xs.length + zs.length ≤ 100000) (h : ∀ a, H a = none → Q (.ref a) (upd H a (.lst (xs ++ zs)))) : rCat (.ref p) (.ref q) H Q :=
  ⟨p, q, xs, zs, rfl, rfl, e, e2, line_le hz, h⟩
theorem flat_rep1 {x : V} : ∀ k : Nat, (List.replicate k [x]).flatten = List.replicate k x
  | 0 => rfl
  | k + 1 => by rw [List.replicate_succ, List.flatten_cons, flat_rep1 k]; rfl
theorem r_rep1 {H : Hp} {p : Addr} {x : V} {k : Int} {Q : VK} (e : H p = some (.lst [x])) (h0 : 0 ≤ k) (h1 : k ≤ 1000) (h : ∀ q, H q = none → Q (.ref q) (upd H q (.lst (List.replicate k.toNat x)))) : rRep (.ref p) (.int k) H Q :=
  ⟨p, k, _, rfl, rfl, e, by omega, by omega, line_le (by show 1 * k.toNat ≤ 100000; omega), fun q hq => by rw [flat_rep1]; exact h q hq⟩
theorem BoxAt.same {H H' : Hp} {b : Addr} (h : BoxAt H b) (s : Same H H') : BoxAt H' b := by
  obtain ⟨x, y, z, e⟩ := h
  exact ⟨x, y, z, s _ _ e⟩
theorem BoxAt.ne {H : Hp} {b x : Addr} {o : HO} (h : BoxAt H b) (hx : H x = some o) (hn : ∀ i j k : Int, o ≠ .lst [.int i, .int j, .int k]) : x ≠ b := fun z => by
  obtain ⟨i, j, k, e⟩ := h
  rw [z, e] at hx
  exact hn i j k (Option.some.inj hx).symm
theorem BoxAt.fresh {H : Hp} {b x : Addr} (h : BoxAt H b) (hx : H x = none) : x ≠ b := fun z => by
  obtain ⟨i, j, k, e⟩ := h
  rw [z, e] at hx; cases hx
theorem _root_.L2.Same.seqL {K : PySem.W.Frag} {H H' : Hp} {a : Addr} {xs : List V} (e : Same H H') (h : SqL K H a xs) : SqL K H' a xs := by
  rcases h with h | h
  · rcases h with h | ⟨o, h⟩
    · exact Or.inl (Or.inl (e a _ h))
    · exact Or.inl (Or.inr ⟨o, e a _ h⟩)
  · exact Or.inr h
/-! loops over a list that is evaluated -/
def LsGo (K : PySem.W.Frag) (j : Nat) (tb : TS) (D : Ends) (σ : L2.St) (a : Addr) (H : Hp) : Prop := (∃ xs, SqL K H a xs) ∧ ∃ W : Nat → Nat → L2.St → Hp → Prop, (∃ m, W 0 m σ H) ∧ ∀ i m σ H, W i m σ H →
      ((Itl K a).stop i H ∧ D.nx σ H) ∨ ((Itl K a).go i H ∧ ∃ N : L2.St → Hp → Prop, (∀ σ' H', N σ' H' → ∃ m', m' < m ∧ W (i + 1) m' σ' H') ∧ ∀ x H', (Itl K a).yld i H x H' → gName j x σ H' fun σ2 H2 => tb { D with nx := N, ct := N, bk := D.nx } σ2 H2)
theorem r_forLI {K : PySem.W.Frag} {te : TE} {tb : TS} {j : Nat} {D : Ends} {σ : L2.St} {H : Hp} (h : te σ H fun x H1 => ∃ a, x = .ref a ∧ LsGo K j tb D σ a H1) : tFor (iList K te) (gName j) tb D σ H := h
theorem LsGo.of {K : PySem.W.Frag} {tb : TS} {j : Nat} {D : Ends} {σ : L2.St} {H : Hp} {p : Addr} {xs : List V} (hs : SqL K H p xs) (h : ForL K tb j p xs D σ H) : LsGo K j tb D σ p H := ⟨⟨xs, hs⟩, h.go⟩
/-! for .. in enumerate(list), any target -/
def EnG (K : PySem.W.Frag) (tb : TS) (g : TG) (D : Ends) (σ : L2.St) (p : Addr) (H : Hp) : Prop := ∃ W : Nat → Nat → L2.St → Hp → Prop, (∃ m, W 0 m σ H) ∧ ∀ i m σ H, W i m σ H →
  ((Ite K p).stop i H ∧ D.nx σ H) ∨ ((Ite K p).go i H ∧ ∃ N : L2.St → Hp → Prop, (∀ σ' H', N σ' H' → ∃ m', m' < m ∧ W (i + 1) m' σ' H') ∧ ∀ x H', (Ite K p).yld i H x H' → g x σ H' fun σ2 H2 => tb { D with nx := N, ct := N, bk := D.nx } σ2 H2)
theorem r_forEG {K : PySem.W.Frag} {ta : TA} {tb : TS} {g : TG} {D : Ends} {σ : L2.St} {H : Hp} (h : ta σ H fun vs H1 => ∃ a xs, vs = [.ref a] ∧ SqL K H1 a xs ∧ EnG K tb g D σ a H1) : tFor (iEnum K ta) g tb D σ H := h
theorem r_enG {K : PySem.W.Frag} {tb : TS} {g : TG} {D : Ends} {σ : L2.St} {H : Hp} {p : Addr} {xs : List V} (Pv : Nat → L2.St → Hp → Prop) (h0 : Pv 0 σ H) (hG : ∀ i σ' H', Pv i σ' H' → SqL K H' p xs)
    (hs : ∀ i x T σ' H' D', xs[i]? = some x → Pv i σ' H' → H' T = none → (∀ σ2 H2, Pv (i + 1) σ2 H2 → D'.nx σ2 H2) → g (.ref T) σ' (upd H' T (.tup [.int (i : Nat), x])) fun σ2 H2 => tb D' σ2 H2)
    (hd : ∀ σ' H', Pv xs.length σ' H' → D.nx σ' H') : EnG K tb g D σ p H := by
  refine for_it (walk_enum (xs := xs)) Pv h0 (fun i σ' H' _ q => hG i σ' H' q) (fun i x σ' H' H'' hi q y => ?_) hd
  obtain ⟨T, a, b, rfl, hT, rfl, ha, hb⟩ := y
  obtain rfl := Option.some.inj ha
  exact hs i b T σ' H' _ hb q hT fun _ _ h => h
/-- (a, (b, c)) -/
theorem r_gTP {K : PySem.W.Frag} {σ : L2.St} {H : Hp} {p q : Addr} {x y z : V} {n m l : Nat} {N : L2.St → Hp → Prop} (hs : SqT K H p [x, .ref q]) (hq : SqT K H q [y, z]) (h : N (((σ.set n (some x)).set m (some y)).set l (some z)) H) : gTup K 2 (gCons (gName n) (gCons (gTup K 2 (gCons (gName m) (gCons (gName l) gNil))) gNil)) (.ref p) σ H N :=
  ⟨p, _, rfl, hs, rfl, x, _, rfl, .ref q, _, rfl, q, _, rfl, hq, rfl, y, _, rfl, z, _, rfl, rfl, rfl, h⟩
/-- [.. for c in "text"] -/
theorem r_lcS {σ : L2.St} {H : Hp} {j : Nat} {Q : VK} {te : TE} {vs : List Nat} {x : Str} (Pv : Addr → Nat → Hp → Prop) (hw : ∀ q, wipe ((wipe σ vs).set j q) vs = wipe σ vs) (h0 : ∀ E, H E = none → Pv E 0 (upd H E (.lst [])))
    (hs : ∀ E i c H', x.cps[i]? = some c → Pv E i H' → te ((wipe σ vs).set j (some (.str ⟨#[c]⟩))) H' fun z H4 => ∃ acc, H4 E = some (.lst acc) ∧ acc.length < sizeLine ∧ Pv E (i + 1) (upd H4 E (.lst (acc ++ [z])))) (hd : ∀ E H', Pv E x.cps.size H' → Q (.ref E) H') : tLc (iStr (tC (.str x))) (gName j) tYes te vs σ H Q := by
  refine ⟨x, rfl, fun E hE => ?_⟩
  refine lc_it (walk_str (z := x)) (Pv E) (h0 E hE) (fun _ _ _ _ => trivial) (fun i v H' H'' hi q y => ?_) (fun H' q => hd E H' q)
  obtain ⟨rfl, c, hc, rfl⟩ := y
  exact ⟨hw _, hs E i c _ hc q⟩
/-- what a comprehension over range(n) asks, n evaluated -/
def LcRg (j : Nat) (te : TE) (vs : List Nat) (τ : L2.St) (Q : VK) (n : Nat) (H : Hp) : Prop := ∀ D, H D = none → ∃ W : Nat → Nat → Hp → Prop, (∃ m, W 0 m (upd H D (.lst []))) ∧ ∀ i m H, W i m H →
      ((Itr 0 n).stop i H ∧ Q (.ref D) H) ∨ ((Itr 0 n).go i H ∧ ∃ N : Hp → Prop, (∀ H', N H' → ∃ m', m' < m ∧ W (i + 1) m' H') ∧ ∀ x H', (Itr 0 n).yld i H x H' → gName j x (wipe τ vs) H' fun σ2 H2 => wipe σ2 vs = wipe τ vs ∧ tYes σ2 H2 fun b H3 =>
        if b = true then te σ2 H3 fun y H4 => ∃ acc, H4 D = some (.lst acc) ∧ acc.length < sizeLine ∧ N (upd H4 D (.lst (acc ++ [y]))) else N H3)
theorem r_lcRI {ta : TA} {σ : L2.St} {H : Hp} {j : Nat} {Q : VK} {te : TE} {vs : List Nat} (h : ta σ H fun us H1 => ∃ i : Int, us = [.int i] ∧ -(2 ^ 62) ≤ i ∧ i < 2 ^ 62 ∧ LcRg j te vs σ Q i.toNat H1) : tLc (iRng1 ta) (gName j) tYes te vs σ H Q := h
theorem r_lcRg {τ : L2.St} {H : Hp} {j : Nat} {Q : VK} {te : TE} {vs : List Nat} {m : Nat} (Pv : Addr → Nat → Hp → Prop) (hw : ∀ q, wipe ((wipe τ vs).set j q) vs = wipe τ vs)
    (h0 : ∀ E, H E = none → Pv E 0 (upd H E (.lst []))) (hs : ∀ E i H', i < m → Pv E i H' → te ((wipe τ vs).set j (some (.int (i : Nat)))) H' fun z H4 => ∃ acc, H4 E = some (.lst acc) ∧ acc.length < sizeLine ∧ Pv E (i + 1) (upd H4 E (.lst (acc ++ [z]))))
    (hd : ∀ E H', Pv E m H' → Q (.ref E) H') : LcRg j te vs τ Q m H := by
  intro E hE
  refine lc_range (lo := 0) (n := m) (Pv E) (h0 E hE) (fun i H' hi q => ?_) (fun H' q => hd E H' q)
  rw [Int.zero_add]
  exact ⟨hw _, hs E i H' hi q⟩
theorem take_map {α β : Type} {f : α → β} {l : List α} {i : Nat} {x : α} (h : l[i]? = some x) : (l.take (i + 1)).map f = (l.take i).map f ++ [f x] := by
  rw [List.take_add_one, h, List.map_append]; rfl
/-! ### lists of pairs of texts -/
def PairsAt (H : Hp) : List (Str × Str) → List V → Prop
  | [], vs => vs = []
  | (a, b) :: l, vs => ∃ t vs', vs = .ref t :: vs' ∧ H t = some (.tup [.str a, .str b]) ∧ PairsAt H l vs'
theorem PairsAt.move {F H : Hp} (ht : ∀ x us, F x = some (.tup us) → H x = some (.tup us)) : ∀ {l : List (Str × Str)} {vs : List V}, PairsAt F l vs → PairsAt H l vs
  | [], _, h => h
  | (_, _) :: _, _, ⟨t, vs', e, h1, h3⟩ => ⟨t, vs', e, ht _ _ h1, PairsAt.move ht h3⟩
theorem PairsAt.on {F H : Hp} (s : Same F H) {l : List (Str × Str)} {vs : List V} (h : PairsAt F l vs) : PairsAt H l vs := h.move fun x us e => s _ _ e
theorem PairsAt.app {H : Hp} {l2 : List (Str × Str)} {us : List V} (h2 : PairsAt H l2 us) : ∀ {l : List (Str × Str)} {vs : List V}, PairsAt H l vs → PairsAt H (l ++ l2) (vs ++ us)
  | [], _, h => by subst h; exact h2
  | (_, _) :: _, _, ⟨t', vs', e, h1, h3⟩ => ⟨t', vs' ++ us, by rw [e]; rfl, h1, PairsAt.app h2 h3⟩
theorem PairsAt.len {H : Hp} : ∀ {l : List (Str × Str)} {vs : List V}, PairsAt H l vs → vs.length = l.length
  | [], _, h => by rw [h]; rfl
  | (_, _) :: _, _, ⟨t', vs', e, h1, h3⟩ => by rw [e, List.length_cons, PairsAt.len h3]; rfl
theorem PairsAt.item {H : Hp} : ∀ {l : List (Str × Str)} {vs : List V} {i : Nat} {x : V}, PairsAt H l vs → vs[i]? = some x → ∃ a b t, l[i]? = some (a, b) ∧ x = .ref t ∧ H t = some (.tup [.str a, .str b])
  | [], _, i, x, h, e => by rw [h] at e; exact absurd e (by simp)
  | (a, b) :: l, _, 0, x, ⟨t, vs', e1, h1, h3⟩, e => by
    rw [e1] at e
    exact ⟨a, b, t, rfl, (Option.some.inj e).symm, h1⟩
  | (a, b) :: l, _, i + 1, x, ⟨t, vs', e1, h1, h3⟩, e => by
    rw [e1] at e
    have := PairsAt.item (l := l) (i := i) h3 e
    exact this
theorem tup_updL {H : Hp} {p : Addr} {xs : List V} {o' : HO} (hp : H p = some (.lst xs)) : ∀ x us, H x = some (.tup us) → upd H p o' x = some (.tup us) := fun x us e => by
  rw [upd_ne (fun z => by rw [z, hp] at e; cases e)]; exact e
theorem tup_box {b : Addr} {H H' : Hp} (hb : BoxAt H b) (f : SameBut b H H') : ∀ x us, H x = some (.tup us) → H' x = some (.tup us) := fun x us e => f _ _ (hb.ne e fun _ _ _ z => nomatch z) e
/-! ### lines as texts -/
theorem join2 (a b : Str) : Txt.join " " [a, b] = a ++ ((" " : Str) ++ b) := by
  rw [TL.join_eq]
  exact TL.ext_tl (by show TL.tl (a ++ " " ++ b) = _; simp only [TL.tl_append, List.append_assoc])
theorem join_cons (a b : Str) (r : List Str) : Txt.join " " (a :: b :: r) = a ++ ((" " : Str) ++ Txt.join " " (b :: r)) := by
  rw [TL.join_eq, TL.join_eq]
  exact TL.ext_tl (by show TL.tl (a ++ " " ++ Str.join " " (b :: r)) = _; simp only [TL.tl_append, List.append_assoc])
theorem join_one (a : Str) : Txt.join " " [a] = a := by rw [TL.join_eq]; rfl
theorem app_nil (a : Str) : a ++ ("" : Str) = a := TL.ext_tl (by rw [TL.tl_append, show TL.tl ("" : Str) = [] by decide +kernel, List.append_nil])
theorem kw_join {kd : KindM} (g : kd.Good) : kwT kd = Txt.join " " kd.words := by
  unfold kwT KindM.words
  cases h : kd.tag with
  | plain => rw [if_pos (g.p0 (by rw [h]; decide)), join_one, app_nil]; rfl
  | signed => rw [if_pos (g.p0 (by rw [h]; decide)), join_one, app_nil]; rfl
  | point =>
    have := g.p1 h
    rw [if_neg (by omega), join2]; rfl
theorem kw_len {kd : KindM} (g : kd.Good) : (kwT kd).length ≤ 62 := by
  rw [kw_join g]
  have q := join_len (y := " ") (k := 30) fun w hw => (word_kind g w hw).len
  have e : (" " : Str).length = 1 := by decide +kernel
  have e2 : kd.words.length ≤ 2 := by unfold KindM.words; cases kd.tag <;> simp
  rw [e] at q
  have := Nat.mul_le_mul_right 30 e2
  omega
theorem lits_in : ("width " : Str) = "width" ++ (" " : Str) ∧ ("out " : Str) = "out" ++ (" " : Str) ∧ ("in " : Str) = "in" ++ (" " : Str) := by decide +kernel
theorem ln_width (w : Int) : ("width " : Str) ++ num w = lnT (.width w) := by
  show _ = Txt.join " " ["width", num w]
  rw [join2, lits_in.1]
  exact TL.ext_tl (by simp only [TL.tl_append, List.append_assoc])
theorem ln_in {nm : Str} {kd : KindM} (g : kd.Good) : (("in" : Str) ++ ((" " : Str) ++ (nm ++ (" " : Str)))) ++ kwT kd = lnT (.inp nm kd) := by
  show _ = Txt.join " " ("in" :: nm :: kd.words)
  obtain ⟨w, r, e⟩ : ∃ w r, kd.words = w :: r := by unfold KindM.words; cases kd.tag <;> exact ⟨_, _, rfl⟩
  rw [kw_join g, e, join_cons, join_cons]
  exact TL.ext_tl (by simp only [TL.tl_append, List.append_assoc])
theorem ln_out (n : Str) : ("out " : Str) ++ n = lnT (.out n) := by
  show _ = Txt.join " " ["out", n]
  rw [join2, lits_in.2.1]
  exact TL.ext_tl (by simp only [TL.tl_append, List.append_assoc])
theorem lines_small {wd : Int} {ins : List (Str × KindM)} {rs : List RowT} {outs : List Str} (S : StarProg wd ins rs outs) : (((flatL wd ins rs outs).map lnT).map (·.length)).sum + ((flatL wd ins rs outs).map lnT).length * ("\n" : Str).length ≤ 16777216 := by
  have hn := S.hn
  have hl : (flatL wd ins rs outs).length ≤ 60 := by
    unfold flatL
    simp only [List.length_cons, List.length_append, List.length_map]
    omega
  have e : ("\n" : Str).length = 1 := by decide +kernel
  have q := sum_le2 (f := fun x : Str => x.length) (k := 310) (l := (flatL wd ins rs outs).map lnT) fun w hw => by
    obtain ⟨l, h, rfl⟩ := List.mem_map.mp hw
    exact lnT_len (S.lns l h)
  rw [List.length_map] at q
  have := Nat.mul_le_mul_right 310 hl
  rw [e, List.length_map]
  omega
/-! ### marks -/
theorem MarksAt.item {H : Hp} : ∀ {l : List (Int × Str)} {vs : List V} {i : Nat} {x : V}, MarksAt H l vs → vs[i]? = some x → ∃ ln m t, l[i]? = some (ln, m) ∧ x = .ref t ∧ H t = some (.tup [.int ln, .str m])
  | [], _, i, x, h, e => by rw [h] at e; exact absurd e (by simp)
  | (a, b) :: l, _, 0, x, ⟨t, vs', e1, h1, h3⟩, e => by
    rw [e1] at e
    exact ⟨a, b, t, rfl, (Option.some.inj e).symm, h1⟩
  | (a, b) :: l, _, i + 1, x, ⟨t, vs', e1, h1, h3⟩, e => by
    rw [e1] at e
    have := MarksAt.item (l := l) (i := i) h3 e
    exact this
theorem MarksAt.paired {K : PySem.W.Frag} {H : Hp} : ∀ {l : List (Int × Str)} {vs : List V}, MarksAt H l vs → ∃ ps : List Addr, vs = ps.map V.ref ∧ Paired (fun p (kv : Key × V) => SqT K H p [kV kv.1, kv.2]) ps (l.map fun x => ((Sum.inl x.1 : Key), V.str x.2))
  | [], _, h => ⟨[], h, .nil⟩
  | (a, b) :: l, _, ⟨t, vs', e, h1, h3⟩ => by
    obtain ⟨ps, e2, q⟩ := MarksAt.paired (K := K) h3
    exact ⟨t :: ps, by rw [e, e2]; rfl, .cons (SqT.of h1) q⟩
theorem merge_some (k : Key) : ∀ (kvs a : List (Key × V)), (valV (mergeK a kvs) k).isSome = ((valV a k).isSome || kvs.any fun kv => decide (kv.1 = k))
  | [], a => by show (valV a k).isSome = _; rw [List.any_nil, Bool.or_false]
  | (j, v) :: r, a => by
    show (valV (mergeK (putK a j v) r) k).isSome = _
    rw [merge_some k r, valV_put, List.any_cons]
    by_cases h : k = j
    · subst h
      rw [if_pos rfl, decide_eq_true rfl]
      simp
    · rw [if_neg h, decide_eq_false (fun z => h z.symm), Bool.false_or]
def markD (l : List (Int × Str)) : List PyData := l.map fun x => .tuple [.int x.1, .str x.2]
theorem MarksAt.data {K : PySem.W.Frag} {H : Hp} : ∀ {l : List (Int × Str)} {vs : List V}, MarksAt H l vs → DpAll K H vs (markD l)
  | [], _, h => by rw [h]; exact .nil
  | (a, b) :: l, _, ⟨t, vs', e, h1, h3⟩ => by
    rw [e]
    exact .cons (.tup (SqT.of h1) (.cons (.int a) (.cons (.str b) .nil))) (MarksAt.data h3)
theorem shaped_marks : ∀ {l : List (Int × Str)}, (∀ x ∈ l, lowS x.2) → SeqAt.shaped (.list (markD l)) = true
  | [], _ => by decide +kernel
  | (a, b) :: l, h => by
    have ih := shaped_marks (l := l) fun x hx => h x (List.mem_cons_of_mem _ hx)
    have c := strOk_low (h (a, b) List.mem_cons_self)
    unfold SeqAt.shaped at ih ⊢
    rw [Bool.and_eq_true] at ih ⊢
    have d2 := of_decide_eq_true ih.2
    have c2 := ih.1
    simp only [markD, List.map_cons, PyData.canLay0, PyData.canLayAll0, PyData.depth, PyData.depthAll, Bool.and_true, Bool.true_and] at c c2 d2 ⊢
    refine ⟨by rw [c, c2]; rfl, decide_eq_true (by omega)⟩
theorem eqv_marks (l : List (Int × Str)) : PyData.eqv (.list (markD l)) (.list (markD l)) = true := by
  have : ∀ l : List (Int × Str), PyData.eqvAll (markD l) (markD l) = true := by
    intro l
    induction l with
    | nil => rfl
    | cons x l ih => simp only [markD, List.map_cons] at ih ⊢; simp [PyData.eqvAll, PyData.eqv, ih]
  rw [PyData.eqv]; exact this l
/-- == of two lists of marks -/
theorem r_eqMarks {K : PySem.W.Frag} {H : Hp} {Q : VK} {p q : Addr} {l : List (Int × Str)} {vs us : List V} (h1 : H p = some (.lst vs)) (h2 : MarksAt H l vs) (h3 : H q = some (.lst us)) (h4 : MarksAt H l us) (hl : ∀ x ∈ l, lowS x.2) (h : Q (.bl true) H) : rEqD K (.ref p) (.ref q) H Q :=
  ⟨_, _, .lst (SqL.of h1) h2.data, .lst (SqL.of h3) h4.data, shaped_marks hl, shaped_marks hl, by rw [eqv_marks]; exact h⟩

end
section
variable {P : Program} {w : World} {K : PySem.W.Frag} {mg : Str → Option Value} {base : Heap}
def tags3 : List V := [V.str "plain", V.str "signed", V.str "point"]
theorem tags3_at {r : Int} (r0 : 0 ≤ r) (r3 : r < 3) : ∃ t : KTag, atI tags3 r = some (V.str t.word) := by
  obtain rfl | rfl | rfl : r = 0 ∨ r = 1 ∨ r = 2 := by omega
  · exact ⟨.plain, rfl⟩
  · exact ⟨.signed, rfl⟩
  · exact ⟨.point, rfl⟩
theorem word_point {t : KTag} : t.word = "point" ↔ t = .point := by cases t <;> decide +kernel
def sp_L_spec (K : PySem.W.Frag) : Sp := fun vs H Q _ => ∃ b, ∃ w : Int, vs = [.ref b, .int w] ∧ BoxAt H b ∧ 4 ≤ w ∧ w ≤ 32 ∧ ∀ s kd H', kd.Good → kd.w = w → BoxAt H' b → SameBut b H H' → SpecAt H' s kd → Q (.ref s) H'
abbrev N_L_spec : List Str := ["_law_box_here", "_law_width", "_law_word"]
theorem sc_L_spec : FnScope ["_law_box_here", "_law_width", "_law_word"] ["_law_box_here", "_law_width"] (defScope s_L_spec) := ⟨rfl, rfl, rfl, by decide +kernel, rfl, by decide +kernel, by decide +kernel⟩
theorem ok_L_spec {f : Addr} {fd : FuncData} (T : Tx K mg)  (F : FunP K "_law_spec" "_law_spec" s_L_spec f fd) : FnOk P w K mg base (L2.CX P w) 2 f fd ["_law_box_here", "_law_width"] (sp_L_spec K) := by
  refine F.ok sc_L_spec (fun vs H Q E h => ?_) (fun cdv A outer s H vs Q E hr h => ?_)
  · repeat first | (obtain ⟨e, _⟩ := h; subst e; rfl; done) | (obtain ⟨_, h⟩ := h)
  refine ⟨_, (pss_cons (ps_set (i := 2) sc_L_spec.nd rfl (Or.inl rfl) (pe_ix ix_list (pe_lst (pa_cons pe_str (pa_cons pe_str (pa_cons pe_str pa_nil)))) (pe_cX (cal_L_take T) hr (by decide) rfl pU (pa_cons (pv 0) (pa_cons pe_int pa_nil))) (fun _ _ => rfl)))
  (pss_cons (ps_if (pt_cmpR op_eq (pv 2) pe_str (nomark _)) (pss_one (ps_ret (pe_tup (pa_cons (pv 2) (pa_cons (pv 1) (pa_cons (pe_op op_add pe_int (pe_cX (cal_L_take T) hr (by decide) rfl pU (pa_cons (pv 0) (pa_cons (pe_op op_sub (pv 1) pe_int) pa_nil)))) pa_nil)))))) pss_nil)
  (pss_one (ps_ret (pe_tup (pa_cons (pv 2) (pa_cons (pv 1) (pa_cons pe_int pa_nil)))))))), ?_⟩
  try dsimp only [cxK]
  obtain ⟨b, w, rfl, hb, h4, h32, kq⟩ := h
  walk_at "rd"
  refine r_newL fun q hq => ?_
  have n1 := Same.new (o := .lst tags3) hq
  have e1 : upd H q (.lst tags3) q = some (.lst tags3) := upd_same
  have b1 := hb.same n1
  have qb := hb.fresh hq
  rw [show upd H q (.lst [V.str "plain", V.str "signed", V.str "point"]) = upd H q (.lst tags3) from rfl]
  generalize upd H q (.lst tags3) = H1 at *
  walk_at "rd"
  refine ⟨b, 3, rfl, b1, by decide, by decide, fun r H2 r0 r3 b2 f2 => ?_⟩
  have e2 := f2 _ _ qb e1
  obtain ⟨t, ix⟩ := tags3_at r0 r3
  refine r_ixL (SqL.of e2) ix ?_
  walk_at "rd"
  have f02 : SameBut b H H2 := fun c o hc e => f2 c o hc (n1 _ _ e)
  refine r_iteD (fun c => ?_) (fun c => ?_)
  · have hp := word_point.mp c
    walk_at "rd"
    refine ⟨b, w - 1, rfl, b2, by omega, by omega, fun pt H3 p0 pw b3 f3 => ?_⟩
    walk_at "rd"
    refine r_newL fun s hs => ?_
    have n4 := Same.new (o := .tup [V.str t.word, V.int w, V.int (1 + pt)]) hs
    refine kq s ⟨.point, w, 1 + pt⟩ _ ⟨h4, h32, fun z => absurd rfl z, fun _ => ⟨by show 1 ≤ 1 + pt; omega, by show 1 + pt < w; omega⟩⟩ rfl (b3.same n4) (fun c o hc e => n4 _ _ (f3 c o hc (f02 c o hc e))) ?_
    show upd _ s _ s = _
    rw [upd_same, hp]
  · have np : t ≠ .point := fun z => c (word_point.mpr z)
    walk_at "rd"
    refine r_newL fun s hs => ?_
    have n4 := Same.new (o := .tup [V.str t.word, V.int w, V.int 0]) hs
    exact kq s ⟨t, w, 0⟩ _ ⟨h4, h32, fun _ => rfl, fun z => absurd z np⟩ rfl (b2.same n4) (fun c o hc e => n4 _ _ (f02 c o hc e)) upd_same
theorem cal_L_spec (T : Tx K mg) : CalX P w K mg base 2 "_law_spec" (sp_L_spec K) [] := by
  obtain ⟨fd, F⟩ := fn_L_spec T
  exact ⟨_, fd, _, [], ok_L_spec T F, g__law_spec T, F.kp, F.bindsN fun _ _ _ _ _ _ us hl => match us, hl with | [_, _], _ => rfl, .nil⟩

end
section
variable {P : Program} {w : World} {K : PySem.W.Frag} {mg : Str → Option Value} {base : Heap}
def sp_L_odd (K : PySem.W.Frag) : Sp := fun vs H Q _ => ∃ b, ∃ z : List Addr, ∃ w : Int, vs = [.ref b, .int w] ∧ BoxAt H b ∧ 4 ≤ w ∧ w ≤ 32 ∧ (∀ y ∈ z, H y ≠ none) ∧ ∀ v H', BoxAt H' b → SameBut b H H' → OddV H' w z v → Q v H'
abbrev N_L_odd : List Str := ["_law_box_here", "_law_width", "_law_far", "_law_some"]
theorem sc_L_odd : FnScope ["_law_box_here", "_law_width", "_law_far", "_law_some"] ["_law_box_here", "_law_width"] (defScope s_L_odd) := ⟨rfl, rfl, rfl, by decide +kernel, rfl, by decide +kernel, by decide +kernel⟩
theorem ok_L_odd {f : Addr} {fd : FuncData} (T : Tx K mg)  (F : FunP K "_law_odd" "_law_odd" s_L_odd f fd) : FnOk P w K mg base (L2.CX P w) 2 f fd ["_law_box_here", "_law_width"] (sp_L_odd K) := by
  refine F.ok sc_L_odd (fun vs H Q E h => ?_) (fun cdv A outer s H vs Q E hr h => ?_)
  · repeat first | (obtain ⟨e, _⟩ := h; subst e; rfl; done) | (obtain ⟨_, h⟩ := h)
  refine ⟨_, (pss_cons (ps_set (i := 2) sc_L_odd.nd rfl (Or.inl rfl) (pe_op op_add pe_int (pe_cX (cal_L_take T) hr (by decide) rfl pU (pa_cons (pv 0) (pa_cons (pe_op op_pow pe_int pe_int) pa_nil)))))
  (pss_cons (ps_set (i := 3) sc_L_odd.nd rfl (Or.inl rfl) (pe_lst (pa_cons (pe_op op_shl pe_int (pv 1)) (pa_cons (pe_un un_neg pe_int) (pa_cons (pe_op op_add (pe_op op_shl pe_int (pv 1)) (pv 2)) (pa_cons (pe_op op_sub pe_int (pv 2)) (pa_cons (pe_op op_mul (pv 2) (pe_op op_pow pe_int pe_int)) (pa_cons pe_bl (pa_cons pe_bl (pa_cons pe_non (pa_cons pe_str (pa_cons (pe_lst (pa_cons pe_int pa_nil)) (pa_cons (pe_tup (pa_cons pe_int pa_nil)) (pa_cons pe_dnewK pa_nil))))))))))))))
  (pss_one (ps_ret (pe_ix ix_list (pv 3) (pe_cX (cal_L_take T) hr (by decide) rfl pU (pa_cons (pv 0) (pa_cons pe_int pa_nil))) (fun _ _ => rfl)))))), ?_⟩
  try dsimp only [cxK]
  obtain ⟨b, z, w, rfl, hb, h4, h32, hz, kq⟩ := h
  have zz : ∀ {A : Hp}, SameBut b H A → A b ≠ none → ∀ {x : Addr}, A x = none → x ∉ z := fun f hb' x hx e => by
    by_cases c : x = b
    · rw [c] at hx; exact hb' hx
    · cases eh : H x with
      | none => exact hz _ e eh
      | some o => rw [f _ _ c eh] at hx; cases hx
  walk_at "rd"
  refine r_I ⟨by decide, by decide, by decide⟩ ?_
  rw [show (10 : Int) ^ (9 : Int).toNat = 1000000000 by decide]
  refine ⟨b, 1000000000, rfl, hb, by decide, by decide, fun t H1 t0 t1 b1 f1 => ?_⟩
  walk_at "rd"
  have hp := pow_pos' w.toNat
  have hp2 : (2 : Int) ^ w.toNat ≤ 4294967296 := pow_le32 (by omega)
  refine r_I ⟨by omega, by omega, by decide⟩ ?_
  rw [Int.one_mul]
  walk_at "rd"
  refine r_I ⟨by omega, by omega, by decide⟩ ?_
  rw [Int.one_mul]
  walk_at "rd"
  refine r_I ⟨by decide, by decide, by decide⟩ ?_
  refine r_I (.inl ⟨by omega, by omega⟩) ?_
  rw [show (10 : Int) ^ (30 : Int).toNat = 1000000000000000000000000000000 by decide]
  have big : 2 ^ w.toNat ≤ (1 + t) * 1000000000000000000000000000000 := by omega
  generalize (1 + t) * 1000000000000000000000000000000 = far at *
  walk_at "rd"
  refine r_newL fun q1 h1 => ?_
  have n1 := Same.new (o := .lst [V.int 1]) h1
  have e1 : upd H1 q1 (.lst [V.int 1]) q1 = some (.lst [V.int 1]) := upd_same
  have z1 := zz f1 (by obtain ⟨x, y, u, e⟩ := b1; rw [e]; exact fun y => nomatch y) h1
  have b2 := b1.same n1
  have f2 : SameBut b H (upd H1 q1 (.lst [V.int 1])) := fun c o hc e => n1 _ _ (f1 c o hc e)
  have q1b := b1.fresh h1
  generalize upd H1 q1 (.lst [V.int 1]) = H2 at *
  walk_at "rd"
  refine r_newL fun q2 h2 => ?_
  have n2 := Same.new (o := .tup [V.int 1]) h2
  have e2 : upd H2 q2 (.tup [V.int 1]) q2 = some (.tup [V.int 1]) := upd_same
  have z2 := zz f2 (by obtain ⟨x, y, u, e⟩ := b2; rw [e]; exact fun y => nomatch y) h2
  have b3 := b2.same n2
  have f3 : SameBut b H (upd H2 q2 (.tup [V.int 1])) := fun c o hc e => n2 _ _ (f2 c o hc e)
  have q2b := b2.fresh h2
  have e12 := n2 _ _ e1
  generalize upd H2 q2 (.tup [V.int 1]) = H3 at *
  walk_at "rd"
  intro q3 h3
  have n3 := Same.new (o := .dK []) h3
  have e3 : upd H3 q3 (.dK []) q3 = some (.dK []) := upd_same
  have z3 := zz f3 (by obtain ⟨x, y, u, e⟩ := b3; rw [e]; exact fun y => nomatch y) h3
  have b4 := b3.same n3
  have f4 : SameBut b H (upd H3 q3 (.dK [])) := fun c o hc e => n3 _ _ (f3 c o hc e)
  have q3b := b3.fresh h3
  have e13 := n3 _ _ e12
  have e23 := n3 _ _ e2
  generalize upd H3 q3 (.dK []) = H4 at *
  walk_at "rd"
  refine r_newL fun q4 h4' => ?_
  generalize hL : [V.int (2 ^ w.toNat), V.int (-1), V.int (2 ^ w.toNat + (1 + t)), V.int (0 - (1 + t)), V.int far, V.bl true, V.bl false, V.non, V.str "1", V.ref q1, V.ref q2, V.ref q3] = L
  have n4 := Same.new (o := .lst L) h4'
  have e4 : upd H4 q4 (.lst L) q4 = some (.lst L) := upd_same
  have b5 := b4.same n4
  have f5 : SameBut b H (upd H4 q4 (.lst L)) := fun c o hc e => n4 _ _ (f4 c o hc e)
  have q4b := b4.fresh h4'
  have e14 := n4 _ _ e13
  have e24 := n4 _ _ e23
  have e34 := n4 _ _ e3
  generalize upd H4 q4 (.lst L) = H5 at *
  walk_at "rd"
  refine ⟨b, 12, rfl, b5, by decide, by decide, fun r H6 r0 r1 b6 f6 => ?_⟩
  have a1 := f6 _ _ q1b e14
  have a2 := f6 _ _ q2b e24
  have a3 := f6 _ _ q3b e34
  have a4 := f6 _ _ q4b e4
  have all : ∃ v, atI L r = some v ∧ OddV H6 w z v := by
    rw [← hL]
    obtain rfl | rfl | rfl | rfl | rfl | rfl | rfl | rfl | rfl | rfl | rfl | rfl : r = 0 ∨ r = 1 ∨ r = 2 ∨ r = 3 ∨ r = 4 ∨ r = 5 ∨ r = 6 ∨ r = 7 ∨ r = 8 ∨ r = 9 ∨ r = 10 ∨ r = 11 := by omega
    · exact ⟨_, rfl, .inl ⟨_, rfl, .inr (Int.le_refl _)⟩⟩
    · exact ⟨_, rfl, .inl ⟨_, rfl, .inl (by omega)⟩⟩
    · exact ⟨_, rfl, .inl ⟨_, rfl, .inr (by omega)⟩⟩
    · exact ⟨_, rfl, .inl ⟨_, rfl, .inl (by omega)⟩⟩
    · exact ⟨_, rfl, .inl ⟨_, rfl, .inr big⟩⟩
    · exact ⟨_, rfl, .inr (.inl ⟨_, rfl⟩)⟩
    · exact ⟨_, rfl, .inr (.inl ⟨_, rfl⟩)⟩
    · exact ⟨_, rfl, .inr (.inr (.inl rfl))⟩
    · exact ⟨_, rfl, .inr (.inr (.inr (.inl ⟨_, rfl⟩)))⟩
    · exact ⟨_, rfl, .inr (.inr (.inr (.inr ⟨q1, _, rfl, z1, a1, .inl ⟨_, rfl, fun _ _ _ y => nomatch y⟩⟩)))⟩
    · exact ⟨_, rfl, .inr (.inr (.inr (.inr ⟨q2, _, rfl, z2, a2, .inr (.inl ⟨_, rfl⟩)⟩)))⟩
    · exact ⟨_, rfl, .inr (.inr (.inr (.inr ⟨q3, _, rfl, z3, a3, .inr (.inr ⟨_, rfl⟩)⟩)))⟩
  obtain ⟨v, ev, ov⟩ := all
  refine r_ixL (SqL.of a4) ev ?_
  exact kq v H6 b6 (fun c o hc e => f6 c o hc (f5 c o hc e)) ov
theorem cal_L_odd (T : Tx K mg) : CalX P w K mg base 2 "_law_odd" (sp_L_odd K) [] := by
  obtain ⟨fd, F⟩ := fn_L_odd T
  exact ⟨_, fd, _, [], ok_L_odd T F, g__law_odd T, F.kp, F.bindsN fun _ _ _ _ _ _ us hl => match us, hl with | [_, _], _ => rfl, .nil⟩

end
section
variable {P : Program} {w : World} {K : PySem.W.Frag} {mg : Str → Option Value} {base : Heap}
def KeysNd (kvs : List (Key × V)) : Prop := (kvs.map (·.1)).Nodup
theorem valV_none {kvs : List (Key × V)} {k : Key} (h : k ∉ kvs.map (·.1)) : valV kvs k = none := by
  induction kvs with
  | nil => rfl
  | cons p r ih =>
    rw [List.map_cons, List.mem_cons, not_or] at h
    rw [valV_neg fun z => h.1 z.symm]; exact ih h.2
theorem valV_mem {kvs : List (Key × V)} {k : Key} (h : valV kvs k = none) : k ∉ kvs.map (·.1) := by
  induction kvs with
  | nil => exact List.not_mem_nil
  | cons p r ih =>
    by_cases e : p.1 = k
    · rw [valV_pos e] at h; cases h
    · rw [valV_neg e] at h
      rw [List.map_cons, List.mem_cons, not_or]
      exact ⟨fun z => e z.symm, ih h⟩
theorem keys_put {kvs : List (Key × V)} {k : Key} {v : V} (h : KeysNd kvs) : KeysNd (putK kvs k v) := by
  unfold KeysNd at *
  cases e : valV kvs k with
  | none =>
    rw [putK_new v e, List.map_append]
    refine List.nodup_append.mpr ⟨h, by simp, fun a ha c hc => ?_⟩
    rw [List.mem_singleton.mp hc]
    rintro rfl
    exact valV_mem e ha
  | some x =>
    unfold putK
    rw [if_pos (by rw [valV_any, e]; rfl), List.map_map]
    rw [show ((fun x : Key × V => x.1) ∘ fun kv : Key × V => if kv.1 = k then (kv.1, v) else kv) = fun x => x.1 from funext fun p => by
      show (if p.1 = k then (p.1, v) else p).1 = p.1
      split <;> rfl]
    exact h
theorem mem_put {kvs : List (Key × V)} {k : Key} {v : V} {p : Key × V} (h : p ∈ putK kvs k v) : p ∈ kvs ∨ p.2 = v := by
  unfold putK at h
  split at h
  · obtain ⟨q, hq, rfl⟩ := List.mem_map.mp h
    split
    · exact .inr rfl
    · exact .inl hq
  · rcases List.mem_append.mp h with h | h
    · exact .inl h
    · rw [List.mem_singleton.mp h]; exact .inr rfl
theorem keys_drop {kvs : List (Key × V)} {k : Key} (h : KeysNd kvs) : KeysNd (dropK kvs k) := List.Nodup.sublist (List.Sublist.map _ List.filter_sublist) h
theorem val_drop {kvs : List (Key × V)} {k j : Key} : valV (dropK kvs k) j = if j = k then none else valV kvs j := by
  induction kvs with
  | nil => split <;> rfl
  | cons p r ih =>
    unfold dropK at ih ⊢
    rw [List.filter_cons]
    by_cases e : p.1 = k
    · rw [if_neg (by simpa using e), ih]
      by_cases e2 : j = k
      · rw [if_pos e2, if_pos e2]
      · rw [if_neg e2, if_neg e2, valV_neg fun z => e2 (z.symm.trans e)]
    · rw [if_pos (by simpa using e)]
      by_cases e3 : p.1 = j
      · rw [valV_pos e3, valV_pos e3, if_neg fun z => e (e3.trans z)]
      · rw [valV_neg e3, valV_neg e3, ih]
theorem r_dpop2 {td ty tx : TE} {σ : L2.St} {H : Hp} {Q : VK} (h : td σ H fun x H1 => ∃ a, x = .ref a ∧ IsD H1 a ∧ ty σ H1 fun y H2 => tx σ H2 fun z H3 => ∃ kvs k, H3 a = some (.dK kvs) ∧ y = kV k ∧ (∀ v, valV kvs k = some v → Q v (upd H3 a (.dK (dropK kvs k)))) ∧ (valV kvs k = none → Q z H3)) : tDPop2 td ty tx σ H Q := h
/-- what was spoilt: the dict then, the names -/
structure SpI (H : Hp) (w : Int) (pin : List Addr) (kvi kvs : List (Key × V)) (ns sp : List Str) : Prop where
  sub : ∀ n ∈ sp, n ∈ ns
  nd : KeysNd kvs
  fl : ∀ p ∈ kvs, flatR p.2
  old : ∀ n, n ∉ sp → valV kvs (Sum.inr n) = valV kvi (Sum.inr n)
  odd : ∀ n ∈ sp, OddV H w pin ((valV kvs (Sum.inr n)).getD .non)
theorem SpI.move {H H' : Hp} {w : Int} {pin : List Addr} {kvi kvs : List (Key × V)} {ns sp : List Str} (h : SpI H w pin kvi kvs ns sp) (f : ∀ c o, c ∉ pin → OddO o → H c = some o → H' c = some o) : SpI H' w pin kvi kvs ns sp :=
  ⟨h.sub, h.nd, h.fl, h.old, fun n hn => (h.odd n hn).move f⟩
def stSp (b wz : Addr) (w : Int) (pin pn ps : Addr) (z1 z2 : Option V) : L2.St := [some (.ref b), some (.ref wz), some (.int w), some (.ref pin), some (.ref pn), some (.ref ps), z1, z2]
def sp_L_spoilt (K : PySem.W.Frag) : Sp := fun vs H Q _ => ∃ b wz w kvi ns, vs = [.ref b, .ref wz, .int w] ∧ BoxAt H b ∧ 4 ≤ w ∧ w ≤ 32 ∧ H wz = some (.dK kvi) ∧ kvi.map (·.1) = ns.map Sum.inr ∧ ns ≠ [] ∧ ns.length ≤ 5 ∧ KeysNd kvi ∧ (∀ p ∈ kvi, flatR p.2) ∧
  ∀ t pin ps kvs sp H', BoxAt H' b → SameBut b H H' → H' t = some (.tup [.ref pin, .ref ps]) → H' pin = some (.dK kvs) → H' ps = some (.lst (sp.map V.str)) → H pin = none → kvs.length ≤ 100 → sp ≠ [] → SpI H' w [pin, ps] kvi kvs ns sp → Q (.ref t) H'
abbrev N_L_spoilt : List Str := ["_law_box_here", "_law_words", "_law_width", "_law_inputs", "_law_names", "_law_spoilt_here", "_law_k", "_law_name"]
theorem sc_L_spoilt : FnScope ["_law_box_here", "_law_words", "_law_width", "_law_inputs", "_law_names", "_law_spoilt_here", "_law_k", "_law_name"] ["_law_box_here", "_law_words", "_law_width"] (defScope s_L_spoilt) := ⟨rfl, rfl, rfl, by decide +kernel, rfl, by decide +kernel, by decide +kernel⟩
theorem ok_L_spoilt {f : Addr} {fd : FuncData} (T : Tx K mg)  (F : FunP K "_law_spoilt" "_law_spoilt" s_L_spoilt f fd) : FnOk P w K mg base (L2.CX P w) 3 f fd ["_law_box_here", "_law_words", "_law_width"] (sp_L_spoilt K) := by
  refine F.ok sc_L_spoilt (fun vs H Q E h => ?_) (fun cdv A outer s H vs Q E hr h => ?_)
  · repeat first | (obtain ⟨e, _⟩ := h; subst e; rfl; done) | (obtain ⟨_, h⟩ := h)
  refine ⟨_, (pss_cons (ps_set (i := 3) sc_L_spoilt.nd rfl (Or.inl rfl) (pe_callTy call_dictD (by rfl) (fr_dict T) (by decide +kernel) (pa_cons (pv 1) pa_nil)))
  (pss_cons (ps_set (i := 4) sc_L_spoilt.nd rfl (Or.inl rfl) (pe_callB (call_sortedD rfl) (by rfl) (fr_sorted T) (by decide +kernel) (pa_cons (pv 1) pa_nil)))
  (pss_cons (ps_set (i := 5) sc_L_spoilt.nd rfl (Or.inl rfl) (pe_lst pa_nil))
  (pss_cons (ps_for oU rfl (pi_range1 rfl (fr_range T) (pa_cons (pe_op op_add pe_int (pe_cX (cal_L_take T) hr (by decide) rfl pU (pa_cons (pv 0) (pa_cons pe_int pa_nil)))) pa_nil)) (pg_name (i := 6) sc_L_spoilt.nd rfl (Or.inl rfl))
  (pss_cons (ps_set (i := 7) sc_L_spoilt.nd rfl (Or.inl rfl) (pe_ix ix_list (pv 4) (pe_cX (cal_L_take T) hr (by decide) rfl pU (pa_cons (pv 0) (pa_cons (pe_callB call_len_seq (by rfl) (fr_len T) (by decide +kernel) (pa_cons (pv 4) pa_nil)) pa_nil))) (fun _ _ => rfl)))
  (pss_cons (ps_expr (pe_bm PySem.F.plainAttrs_list PySem.F.slot_list_append PySem.F.type_list_append mt_append (pv 5) (pa_cons (pv 7) pa_nil)))
  (pss_one (ps_if (pt_cmpR op_eq (pe_cX (cal_L_take T) hr (by decide) rfl pU (pa_cons (pv 0) (pa_cons pe_int pa_nil))) pe_int (nomark _)) (pss_one (ps_expr (pe_dpop2 (pv 3) (pv 7) pe_non ⟨by rfl, by rfl, by rfl, by rfl⟩))) (pss_one (ps_dput (hu_of hr) (pv 3) (pv 7) (pe_cX (cal_L_odd T) hr (by decide) rfl pU (pa_cons (pv 0) (pa_cons (pv 2) pa_nil))) rfl)))))))
  (pss_one (ps_ret (pe_tup (pa_cons (pv 3) (pa_cons (pv 5) pa_nil))))))))), ?_⟩
  try dsimp only [cxK]
  obtain ⟨b, wz, w, kvi, ns, rfl, hb, h4, h32, hw, hk, n0, n5, nd, fl, kq⟩ := h
  have kl : kvi.length = ns.length := by have := congrArg List.length hk; simpa using this
  walk_at "rd"
  refine ⟨wz, kvi, rfl, .inl hw, fun pin hpin => ?_⟩
  have n1 := Same.new (o := .dK kvi) hpin
  have e1 : upd H pin (.dK kvi) pin = some (.dK kvi) := upd_same
  have pb := hb.fresh hpin
  have b1 := hb.same n1
  have hw1 := n1 _ _ hw
  generalize upd H pin (.dK kvi) = H1 at *
  walk_at "rd"
  refine ⟨wz, kvi, ns, rfl, .inl hw1, hk, by omega, fun ys pn perm _ hpn => ?_⟩
  have yl : ys.length = ns.length := perm.length_eq
  have n2 := Same.new (o := .lst (ys.map V.str)) hpn
  have e2 : upd H1 pn (.lst (ys.map V.str)) pn = some (.lst (ys.map V.str)) := upd_same
  have pnb := b1.fresh hpn
  have b2 := b1.same n2
  have e12 := n2 _ _ e1
  have s2 := n1.trans n2
  have pnpin : pn ≠ pin := fun z => by rw [z, e1] at hpn; cases hpn
  generalize upd H1 pn (.lst (ys.map V.str)) = H2 at *
  walk_at "rd"
  refine r_newL fun ps hps => ?_
  have n3 := Same.new (o := .lst []) hps
  have e3 : upd H2 ps (.lst []) ps = some (.lst []) := upd_same
  have psb := b2.fresh hps
  have b3 := b2.same n3
  have e13 := n3 _ _ e12
  have e23 := n3 _ _ e2
  have s3 := s2.trans n3
  have pspin : ps ≠ pin := fun z => by rw [z, e12] at hps; cases hps
  have pspn : ps ≠ pn := fun z => by rw [z, e2] at hps; cases hps
  have psH : ∀ x o, H x = some o → x ≠ ps := fun x o e => ne_of_none (s2 _ _ e) hps
  have pinH : ∀ x o, H x = some o → x ≠ pin := fun x o e => ne_of_none e hpin
  generalize upd H2 ps (.lst []) = H3 at *
  clear n1 n2 n3 e1 e2 e12 b1 b2 hb hw1 hpn hps
  walk_at "rd"
  refine r_forI ?_
  walk_at "rd"
  refine ⟨b, 3, rfl, b3, by decide, by decide, fun r H4 r0 r3 b4 f4 => ?_⟩
  walk_at "rd"
  refine ⟨1 + r, rfl, by omega, by omega, ?_⟩
  have sp0 : SpI H4 w [pin, ps] kvi kvi ns [] := ⟨(fun n h => by cases h), nd, fl, (fun _ _ => rfl), (fun n h => by cases h)⟩
  have f34 : SameBut b H H4 := fun c o hc e => f4 c o hc (s3 _ _ e)
  refine r_frGo (fun i σ' H' => (∃ z1 z2, σ' = stSp b wz w pin pn ps z1 z2) ∧ BoxAt H' b ∧ SameBut b H H' ∧ H' pn = some (.lst (ys.map V.str)) ∧ ∃ kvs sp, H' pin = some (.dK kvs) ∧ H' ps = some (.lst (sp.map V.str)) ∧ sp.length = i ∧ kvs.length ≤ 5 + i ∧ SpI H' w [pin, ps] kvi kvs ns sp)
    ⟨⟨none, none, rfl⟩, b4, f34, f4 _ _ pnb e23, kvi, [], f4 _ _ pb e13, f4 _ _ psb e3, rfl, by omega, sp0⟩ ?_ ?_
  · rintro i σ' H5 hi ⟨⟨z1, z2, rfl⟩, b5, f5, hn5, kvs, sp, hp5, hs5, sl, kvl, S5⟩
    unfold stSp
    walk_at "rd"
    refine r_lenL (SqL.of hn5) ?_
    rw [List.length_map, yl]
    have npos : 0 < ns.length := Nat.pos_of_ne_zero fun z => n0 (List.eq_nil_of_length_eq_zero z)
    walk_at "rd"
    refine ⟨b, _, rfl, b5, by omega, by omega, fun j H6 j0 j1 b6 f6 => ?_⟩
    obtain ⟨m, rfl⟩ : ∃ m : Nat, j = (m : Int) := ⟨j.toNat, by omega⟩
    have hm : m < ys.length := by omega
    have nmi : ys[m] ∈ ns := perm.mem_iff.mp (List.getElem_mem hm)
    generalize hnm : ys[m] = nm at nmi
    have bo : ∀ {A B : Hp}, BoxAt A b → SameBut b A B → ∀ c o, c ∉ [pin, ps] → OddO o → A c = some o → B c = some o := fun hb f c o _ ho e => f c o (fun z => by
      obtain ⟨x, y, u, eb⟩ := hb
      rw [z, eb] at e
      rcases ho with ⟨xs, rfl, h⟩ | ⟨xs, rfl⟩ | ⟨k, rfl⟩
      · exact h x y u (Option.some.inj e).symm
      · cases e
      · cases e) e
    have S6 := S5.move (bo b5 f6)
    have hn6 := f6 _ _ pnb hn5
    have hp6 := f6 _ _ pb hp5
    have hs6 := f6 _ _ psb hs5
    have g6 : SameBut b H H6 := fun c o hc e => f6 c o hc (f5 c o hc e)
    refine r_ixL (SqL.of hn6) (atNat (n := m) (x := V.str nm) (by rw [List.getElem?_map, List.getElem?_eq_getElem hm, hnm]; rfl)) ?_
    clear b5 f5 hn5 hp5 hs5 S5 f6
    walk_at "rd"
    refine r_tyL (SqL.of hs6) ?_
    walk_at "rd"
    refine r_app hs6 (by rw [List.length_map]; omega) ?_
    have hs7 : upd H6 ps (.lst (sp.map V.str ++ [V.str nm])) ps = some (.lst ((sp ++ [nm]).map V.str)) := by rw [upd_same, List.map_append]; rfl
    have k7 : ∀ x o, x ≠ ps → H6 x = some o → upd H6 ps (.lst (sp.map V.str ++ [V.str nm])) x = some o := fun x o hx e => by rw [upd_ne hx]; exact e
    have g7 : SameBut b H (upd H6 ps (.lst (sp.map V.str ++ [V.str nm]))) := fun c o hc e => k7 _ _ (psH c o e) (g6 c o hc e)
    have b7 : BoxAt (upd H6 ps (.lst (sp.map V.str ++ [V.str nm]))) b := by
      obtain ⟨x, y, u, e⟩ := b6
      exact ⟨x, y, u, k7 _ _ psb.symm e⟩
    have hn7 := k7 _ _ pspn.symm hn6
    have hp7 := k7 _ _ pspin.symm hp6
    have S7 := S6.move (H' := upd H6 ps (.lst (sp.map V.str ++ [V.str nm]))) fun c o hc _ e => k7 c o (fun z => hc (by rw [z]; simp)) e
    generalize upd H6 ps (.lst (sp.map V.str ++ [V.str nm])) = H7 at *
    clear k7 hs6 hn6 hp6 S6 g6 b6
    walk_at "rd"
    refine ⟨b, 3, rfl, b7, by decide, by decide, fun r2 H8 _ _ b8 f8 => ?_⟩
    have S8 := S7.move (bo b7 f8)
    have hn8 := f8 _ _ pnb hn7
    have hp8 := f8 _ _ pb hp7
    have hs8 := f8 _ _ psb hs7
    have g8 : SameBut b H H8 := fun c o hc e => f8 c o hc (g7 c o hc e)
    clear b7 f8 hn7 hp7 hs7 S7 g7
    walk_at "rd"
    refine r_iteD (fun c => ?_) (fun c => ?_)
    · walk_at "rd"
      refine r_dpop2 ?_
      walk_at "rd"
      refine ⟨.inl ⟨kvs, .inl hp8⟩, ?_⟩
      walk_at "rd"
      have nxt : ∀ kvs' H9, H9 pin = some (.dK kvs') → (∀ x o, x ≠ pin → H8 x = some o → H9 x = some o) → kvs' = dropK kvs (Sum.inr nm) → (∃ z1 z2, [some (V.ref b), some (.ref wz), some (.int w), some (.ref pin), some (.ref pn), some (.ref ps), some (.int (i : Nat)), some (.str nm)] = stSp b wz w pin pn ps z1 z2) ∧ BoxAt H9 b ∧ SameBut b H H9 ∧ H9 pn = some (.lst (ys.map V.str)) ∧
          ∃ kvs sp', H9 pin = some (.dK kvs) ∧ H9 ps = some (.lst (sp'.map V.str)) ∧ sp'.length = i + 1 ∧ kvs.length ≤ 5 + (i + 1) ∧ SpI H9 w [pin, ps] kvi kvs ns sp' := by
        rintro kvs' H9 hp9 k9 rfl
        have S9 := S8.move (H' := H9) fun c o hc _ e => k9 c o (fun z => hc (by rw [z]; simp)) e
        obtain ⟨x, y, u, eb⟩ := b8
        refine ⟨⟨_, _, rfl⟩, ⟨x, y, u, k9 _ _ pb.symm eb⟩, fun c o hc e => k9 _ _ (pinH c o e) (g8 c o hc e), k9 _ _ pnpin hn8, _, sp ++ [nm], hp9, k9 _ _ pspin hs8, by rw [List.length_append, sl]; rfl, by have := dropK_le kvs (Sum.inr nm); omega, ?_⟩
        refine ⟨fun n hn => ?_, keys_drop S9.nd, fun p hp => S9.fl p (List.mem_filter.mp hp).1, fun n hn => ?_, fun n hn => ?_⟩
        · rcases List.mem_append.mp hn with hn | hn
          · exact S9.sub n hn
          · rw [List.mem_singleton.mp hn]; exact nmi
        · rw [List.mem_append, not_or] at hn
          rw [val_drop, if_neg (fun z => hn.2 (by rw [Sum.inr.inj z]; simp))]
          exact S9.old n hn.1
        · rw [val_drop]
          by_cases e : n = nm
          · rw [if_pos (by rw [e])]
            exact .inr (.inr (.inl rfl))
          · rw [if_neg (fun z => e (Sum.inr.inj z))]
            exact S9.odd n ((List.mem_append.mp hn).resolve_right fun z => e (List.mem_singleton.mp z))
      refine ⟨kvs, Sum.inr nm, hp8, rfl, fun v _ => ?_, fun hv => ?_⟩
      · walk_at "rd"
        exact nxt _ _ upd_same (fun x o hx e => by rw [upd_ne hx]; exact e) rfl
      · walk_at "rd"
        refine nxt kvs _ hp8 (fun x o _ e => e) ?_
        unfold dropK
        refine (List.filter_eq_self.mpr fun p hp => ?_).symm
        have := valV_mem hv
        simp only [decide_eq_true_eq]
        exact fun z => this (List.mem_map.mpr ⟨p, hp, z⟩)
    · walk_at "rd"
      refine ⟨b, [pin, ps], w, rfl, b8, h4, h32, fun y hy => ?_, fun v H9 b9 f9 ov => ?_⟩
      · rcases List.mem_cons.mp hy with rfl | hy
        · rw [hp8]; exact fun z => nomatch z
        · rw [List.mem_singleton.mp hy, hs8]; exact fun z => nomatch z
      have S9 := S8.move (bo b8 f9)
      have hn9 := f9 _ _ pnb hn8
      have hp9 := f9 _ _ pb hp8
      have hs9 := f9 _ _ psb hs8
      have g9 : SameBut b H H9 := fun c o hc e => f9 c o hc (g8 c o hc e)
      walk_at "rd"
      refine r_dputS hp9 (by omega) ?_
      have k9 : ∀ x o, x ≠ pin → H9 x = some o → upd H9 pin (.dK (putK kvs (Sum.inr nm) v)) x = some o := fun x o hx e => by rw [upd_ne hx]; exact e
      have ov2 := ov.move (H' := upd H9 pin (.dK (putK kvs (Sum.inr nm) v))) fun c o hc _ e => k9 c o (fun z => hc (by rw [z]; simp)) e
      have S10 := S9.move (H' := upd H9 pin (.dK (putK kvs (Sum.inr nm) v))) fun c o hc _ e => k9 c o (fun z => hc (by rw [z]; simp)) e
      obtain ⟨x, y, u, eb⟩ := b9
      refine ⟨⟨_, _, rfl⟩, ⟨x, y, u, k9 _ _ pb.symm eb⟩, fun c o hc e => k9 _ _ (pinH c o e) (g9 c o hc e), k9 _ _ pnpin hn9, _, sp ++ [nm], upd_same, k9 _ _ pspin hs9, by rw [List.length_append, sl]; rfl, by have := length_putK kvs (Sum.inr nm) v; omega, ?_⟩
      refine ⟨fun n hn => ?_, keys_put S10.nd, fun p hp => ?_, fun n hn => ?_, fun n hn => ?_⟩
      · rcases List.mem_append.mp hn with hn | hn
        · exact S10.sub n hn
        · rw [List.mem_singleton.mp hn]; exact nmi
      · rcases mem_put hp with hp | hp
        · exact S10.fl p hp
        · rw [hp]; exact ov.flat
      · rw [List.mem_append, not_or] at hn
        rw [valV_put, if_neg (fun z => hn.2 (by rw [Sum.inr.inj z]; simp))]
        exact S10.old n hn.1
      · rw [valV_put]
        by_cases e : n = nm
        · rw [if_pos (by rw [e])]; exact ov2
        · rw [if_neg (fun z => e (Sum.inr.inj z))]
          exact S10.odd n ((List.mem_append.mp hn).resolve_right fun z => e (List.mem_singleton.mp z))
  · rintro σ' H5 ⟨⟨z1, z2, rfl⟩, b5, f5, hn5, kvs, sp, hp5, hs5, sl, kvl, S5⟩
    unfold stSp
    walk_at "rd"
    refine r_newL fun t ht => ?_
    have n6 := Same.new (o := .tup [V.ref pin, V.ref ps]) ht
    exact kq t pin ps kvs sp _ (b5.same n6) (fun c o hc e => n6 _ _ (f5 c o hc e)) upd_same (n6 _ _ hp5) (n6 _ _ hs5) hpin (by omega) (fun z => by rw [z] at sl; simp only [List.length_nil] at sl; omega) (S5.move fun c o _ _ e => n6 _ _ e)
theorem cal_L_spoilt (T : Tx K mg) : CalX P w K mg base 3 "_law_spoilt" (sp_L_spoilt K) [] := by
  obtain ⟨fd, F⟩ := fn_L_spoilt T
  exact ⟨_, fd, _, [], ok_L_spoilt T F, g__law_spoilt T, F.kp, F.bindsN fun _ _ _ _ _ _ us hl => match us, hl with | [_, _, _], _ => rfl, .nil⟩

end
section
variable {P : Program} {w : World} {K : PySem.W.Frag} {mg : Str → Option Value} {base : Heap}
/-! ### k67: the program -/
structure C67 (w : Int) (n0 : Str) (k0 : KindM) (r : List (Str × KindM)) : Prop where
  w4 : 4 ≤ w
  w32 : w ≤ 32
  hi : ∀ x ∈ (n0, k0) :: r, isName x.1 = true ∧ x.1 ≠ "zz" ∧ x.2.Good ∧ x.2.w = w
  nd : (((n0, k0) :: r).map Prod.fst).Nodup
  l5 : r.length ≤ 4
def rowZ (n0 : Str) : RowT := ⟨["zz"], "copy", [.nm n0]⟩
section
variable {w : Int} {n0 : Str} {k0 : KindM} {r : List (Str × KindM)} {ib : Str → Int}
theorem rev_mem : ∀ {l : List (Str × KindM)} {n : Str} {k : KindM}, l.lookup n = some k → (n, k) ∈ l
  | [], _, _, h => by cases h
  | (m, j) :: l, n, k, h => by
    rw [lookup_cons'] at h
    by_cases e : n = m
    · rw [if_pos e] at h; rw [e, Option.some.inj h]; exact List.mem_cons_self
    · rw [if_neg e] at h; exact List.mem_cons_of_mem _ (rev_mem h)
theorem rev_look {l : List (Str × KindM)} {n : Str} {k : KindM} (h : (n, k) ∈ l) (nd : (l.map Prod.fst).Nodup) : l.lookup n = some k := by
  induction l with
  | nil => cases h
  | cons x l ih =>
    obtain ⟨m, j⟩ := x
    rw [List.map_cons, List.nodup_cons] at nd
    rw [lookup_cons']
    rcases List.mem_cons.mp h with h | h
    · injection h with h1 h2
      rw [if_pos h1, h2]
    · have : n ≠ m := fun z => nd.1 (by rw [← z]; exact List.mem_map.mpr ⟨(n, k), h, rfl⟩)
      rw [if_neg this]; exact ih h nd.2
theorem rev_nd {l : List (Str × KindM)} (nd : (l.map Prod.fst).Nodup) : (l.reverse.map Prod.fst).Nodup := by
  rw [List.map_reverse]; exact by unfold List.Nodup at *; rw [List.pairwise_reverse]; exact nd.imp fun h => Ne.symm h
theorem in67 (C : C67 w n0 k0 r) {x : Str × KindM} (h : x ∈ (n0, k0) :: r) : ((n0, k0) :: r).reverse.lookup x.1 = some x.2 := rev_look (List.mem_reverse.mpr h) (rev_nd C.nd)
theorem in67_zz (C : C67 w n0 k0 r) : ((n0, k0) :: r).reverse.lookup ("zz" : Str) = none := by
  cases e : ((n0, k0) :: r).reverse.lookup ("zz" : Str) with
  | none => rfl
  | some k => exact absurd rfl (C.hi _ (List.mem_reverse.mp (rev_mem e))).2.1
theorem wd67 (C : C67 w n0 k0 r) (hib : ∀ x ∈ (n0, k0) :: r, 0 ≤ ib x.1 ∧ ib x.1 < x.2.B) : Wd ((n0, k0) :: r).reverse ib n0 k0 :=
  ⟨(C.hi (n0, k0) List.mem_cons_self).1, in67 C List.mem_cons_self, (C.hi (n0, k0) List.mem_cons_self).2.2.1, (hib (n0, k0) List.mem_cons_self).1, (hib (n0, k0) List.mem_cons_self).2⟩
theorem rf67 (C : C67 w n0 k0 r) (hib : ∀ x ∈ (n0, k0) :: r, 0 ≤ ib x.1 ∧ ib x.1 < x.2.B) : RF w ((n0, k0) :: r).reverse ib (rowZ n0) (ib n0) "" := rf_copy (C.hi (n0, k0) List.mem_cons_self).2.2.2 (wd67 C hib) (by decide +kernel)
def z0 : Str → Int := fun _ => 0
theorem ib0 (C : C67 w n0 k0 r) : ∀ x ∈ (n0, k0) :: r, (0 : Int) ≤ z0 x.1 ∧ z0 x.1 < x.2.B := fun x h => ⟨Int.le_refl _, (C.hi x h).2.2.1.Bpos⟩
theorem star67 (C : C67 w n0 k0 r) : StarProg w ((n0, k0) :: r) [rowZ n0] ["zz"] := by
  have l5 := C.l5
  have q := rf67 (ib := z0) C (ib0 C)
  refine ⟨C.w4, C.w32, by simp only [List.length_cons, List.length_nil]; omega, by show (r.length + 1) + 1 ≤ 30; omega, fun x h => ⟨(C.hi x h).1, (C.hi x h).2.2⟩, fun x h => ?_, fun n h => ?_, (fun z => nomatch z), fun x h => ?_, by show (["zz"] : List Str).Nodup; simp, fun g h => ?_, C.nd, by simp, fun n h => h⟩
  · rw [List.mem_singleton.mp h]; exact q.ok
  · rw [List.mem_singleton.mp h]; decide +kernel
  · rw [List.mem_singleton.mp h]; exact q.st
  · rw [List.mem_singleton.mp (show g ∈ (["zz"] : List Str) from h)]; exact in67_zz C
def outs67 (n0 : Str) (r : List (Str × KindM)) : List Str := "zz" :: n0 :: r.map Prod.fst
abbrev PM67 (w : Int) (n0 : Str) (k0 : KindM) (r : List (Str × KindM)) : ProgM := starPM w ((n0, k0) :: r) [rowZ n0] (outs67 n0 r)
theorem outs67_nd (C : C67 w n0 k0 r) : (outs67 n0 r).Nodup := by
  have h := C.nd
  rw [List.map_cons] at h
  refine List.nodup_cons.mpr ⟨fun z => ?_, h⟩
  have z : ("zz" : Str) ∈ ((n0, k0) :: r).map Prod.fst := z
  obtain ⟨x, hx, e⟩ := List.mem_map.mp z
  exact (C.hi x hx).2.1 e
theorem outs67_mem {n : Str} (h : n ∈ outs67 n0 r) : n = "zz" ∨ ∃ x ∈ (n0, k0) :: r, x.1 = n := by
  rcases List.mem_cons.mp h with h | h
  · exact .inl h
  · obtain ⟨x, hx, e⟩ := List.mem_map.mp (show n ∈ ((n0, k0) :: r).map Prod.fst from h)
    exact .inr ⟨x, hx, e⟩
theorem reads67 (C : C67 w n0 k0 r) : SoundAll 0 DM0 (flatL w ((n0, k0) :: r) [rowZ n0] (outs67 n0 r)) ∧ (readM 0 DM0 (flatL w ((n0, k0) :: r) [rowZ n0] (outs67 n0 r))).Fin ∧ (readM 0 DM0 (flatL w ((n0, k0) :: r) [rowZ n0] (outs67 n0 r))).prog = PM67 w n0 k0 r := by
  have S := star67 C
  have l5 := C.l5
  have lo : (outs67 n0 r).length = r.length + 2 := by unfold outs67; simp
  obtain ⟨h1, kn, h2⟩ := flat_read (outs := outs67 n0 r) S.w4 S.w32 (by simp only [List.length_cons, List.length_nil] at *; omega) S.hk S.hi S.hr (fun n h => by
    rcases outs67_mem (k0 := k0) h with rfl | ⟨x, hx, rfl⟩
    · decide +kernel
    · exact (C.hi x hx).1) (fun z => nomatch z)
  rw [h2]
  have ep : (⟨w, numb 1 ((n0, k0) :: r), chain (1 + ((n0, k0) :: r).length) ([rowZ n0].map RowT.q), numb (1 + ((n0, k0) :: r).length + [rowZ n0].length) (outs67 n0 r), [], kn, []⟩ : DM).prog = PM67 w n0 k0 r := by
    unfold DM.prog PM67 starPM DM.ks0
    simp only [numb_snd]
  obtain ⟨c1, c2, c3, c4⟩ := chain_facts ([rowZ n0].map RowT.q) (1 + ((n0, k0) :: r).length)
  obtain ⟨l1, l2, l3⟩ := S.look
  have ek : (⟨w, numb 1 ((n0, k0) :: r), chain (1 + ((n0, k0) :: r).length) ([rowZ n0].map RowT.q), numb (1 + ((n0, k0) :: r).length + [rowZ n0].length) (outs67 n0 r), [], kn, []⟩ : DM).ks0 = ((n0, k0) :: r).reverse := by
    unfold DM.ks0
    simp only [numb_snd]
  refine ⟨h1, ⟨S.w4, S.w32, ?_, ?_, ?_, ?_, c2, ?_, ?_, ?_, ?_, ?_⟩, ep⟩
  · show ((numb 1 ((n0, k0) :: r)).map fun x => x.2.1).Nodup
    have : ((numb 1 ((n0, k0) :: r)).map fun x => x.2.1) = ((n0, k0) :: r).map Prod.fst := by
      conv => rhs; rw [← numb_snd ((n0, k0) :: r) 1, List.map_map]
      rfl
    rw [this]; exact C.nd
  · show (numb 1 ((n0, k0) :: r)).length ≤ 1000
    rw [numb_len, List.length_cons]; omega
  · show (numb _ (outs67 n0 r)).length ≤ 1000
    rw [numb_len]; omega
  · show (chain _ _).depth < 9
    rw [c1]; decide
  · show (chain _ _).count ≤ 600
    rw [c3]; show (1 : Int) ≤ 600; decide
  · show (chain _ _).lookOk w [] _
    rw [ek]; exact l1
  · show (numb 1 ((n0, k0) :: r)).length + 3 * (chain _ _).total ≤ 50000
    rw [numb_len, c4, List.length_cons]
    show r.length + 1 + 3 * 1 ≤ 50000
    omega
  · show ((numb _ (outs67 n0 r)).map Prod.snd).Nodup
    rw [numb_snd]; exact outs67_nd C
  · rw [ep]
    show ∀ n ∈ (numb _ (outs67 n0 r)).map Prod.snd, _
    rw [numb_snd]
    intro n hn
    rcases outs67_mem (k0 := k0) hn with rfl | ⟨x, hx, rfl⟩
    · show (List.lookup ("zz" : Str) (starPM w ((n0, k0) :: r) [rowZ n0] ["zz"]).ks).isSome = true
      rw [l3 (rowZ n0) (by simp) "zz" (by show ("zz" : Str) ∈ (["zz"] : List Str); simp)]; rfl
    · show (List.lookup x.1 (starPM w ((n0, k0) :: r) [rowZ n0] ["zz"]).ks).isSome = true
      rw [l2 x.1 (fun z => (C.hi x hx).2.1 (List.mem_singleton.mp (show x.1 ∈ (["zz"] : List Str) from z))), in67 C hx]; rfl
/-- the run -/
structure Runs67 (w : Int) (n0 : Str) (k0 : KindM) (r : List (Str × KindM)) (ib : Str → Int) (s : RS) : Prop where
  mks : s.marks = []
  zz : s.env.lookup ("zz" : Str) = some (ib n0)
  ins : ∀ x ∈ (n0, k0) :: r, s.env.lookup x.1 = some (ib x.1)
  puts : s.puts = [(1 + (((n0, k0) :: r).length : Int), ("zz" : Str), ib n0)]
theorem runs67 (C : C67 w n0 k0 r) (hib : ∀ x ∈ (n0, k0) :: r, 0 ≤ ib x.1 ∧ ib x.1 < x.2.B) : StarRuns w ((n0, k0) :: r) [rowZ n0] ["zz"] ib ∧ Runs67 w n0 k0 r ib (goM (PM67 w n0 k0 r).ks (PM67 w n0 k0 r).rows ⟨env0 ((n0, k0) :: r) ib, [], []⟩) := by
  have S := star67 C
  have q := rf67 C hib
  have hb : ∀ n, (((n0, k0) :: r).reverse.lookup n).isSome = true → 0 ≤ ib n ∧ ib n < (getKd ((n0, k0) :: r).reverse n).B := fun n h => by
    obtain ⟨k, e⟩ := Option.isSome_iff_exists.mp h
    have := hib (n, k) (List.mem_reverse.mp (rev_mem e))
    unfold getKd
    rw [e]; exact this
  have R := S.runs (ib := ib) hb fun x h => by rw [List.mem_singleton.mp h]; exact q.run
  refine ⟨R, ?_⟩
  have v0 := R.v0 (rowZ n0) (by simp)
  rw [q.val] at v0
  have mk := R.mks
  have m0 : marksQ w ((n0, k0) :: r).reverse ib (1 + ((n0, k0) :: r).length) ([rowZ n0].map RowT.q) = [] := by
    show (if (wkQ w ((n0, k0) :: r).reverse ib (rowZ n0).q).2 = "" then _ else _) ++ [] = []
    rw [q.val]; rfl
  rw [m0] at mk
  have go : goM (PM67 w n0 k0 r).ks (PM67 w n0 k0 r).rows ⟨env0 ((n0, k0) :: r) ib, [], []⟩ = doM (PM67 w n0 k0 r).ks (1 + ((n0, k0) :: r).length) (rowZ n0).q ⟨env0 ((n0, k0) :: r) ib, [], []⟩ := rfl
  have go' : (goM (starPM w ((n0, k0) :: r) [rowZ n0] ["zz"]).ks (starPM w ((n0, k0) :: r) [rowZ n0] ["zz"]).rows ⟨env0 ((n0, k0) :: r) ib, [], []⟩) = goM (PM67 w n0 k0 r).ks (PM67 w n0 k0 r).rows ⟨env0 ((n0, k0) :: r) ib, [], []⟩ := rfl
  rw [go'] at v0 mk
  refine ⟨mk, v0, fun x hx => ?_, ?_⟩
  · rw [go, doM_env, if_neg (fun z => absurd (show ("copy" : Str) = "part" from z.1) (by decide +kernel)), if_neg (show ¬ x.1 = goal0 (rowZ n0).q from (C.hi x hx).2.1)]
    exact env0_lookup (by rw [in67 C hx]; rfl)
  · rw [go, doM_env, if_neg (fun z => absurd (show ("copy" : Str) = "part" from z.1) (by decide +kernel)), if_pos rfl] at v0
    rw [go]
    unfold doM
    rw [if_neg (show ¬ (rowZ n0).q.deed = "part" by show ¬ ("copy" : Str) = "part"; decide +kernel)]
    show [] ++ [(1 + (((n0, k0) :: r).length : Int), goal0 (rowZ n0).q, (workedM (rowZ n0).q _ _).1)] = _
    rw [Option.some.inj v0]; rfl
end

end
section
variable {P : Program} {w : World} {K : PySem.W.Frag} {mg : Str → Option Value} {base : Heap}
theorem xfc {K : PySem.W.Frag} {C : Addr} (c : He2.ExcC K C) : XfC K C := ⟨c.get, c.gtr, c.oex.exC, c.hdc⟩
theorem excc {K : PySem.W.Frag} {C : Addr} (c : He2.ExcC K C) (i : He2.IsiC K C) : L2.ExcC K C := ⟨c.get, c.gtr, c.oex.exC, c.hdc, i.ha, i.hn, i.htk, i.hm⟩
def sp_L_told (K : PySem.W.Frag) : Sp := fun vs H Q _ => ∃ p wz way PM kvi, ∃ bv : Str → V, ∃ nm z, vs = [.ref p, .ref wz, .int way] ∧ RunPre K H p wz PM kvi bv ∧ InBad H z PM bv nm ∧ ∀ q H', Same H H' → H q = none → H' q = some (.tup [.str "none", .str nm]) → Q (.ref q) H'
abbrev N_L_told : List Str := ["_law_program", "_law_inputs", "_law_way", "_law_told_here", "e"]
theorem sc_L_told : FnScope ["_law_program", "_law_inputs", "_law_way", "_law_told_here", "e"] ["_law_program", "_law_inputs", "_law_way"] (defScope s_L_told) := ⟨rfl, rfl, rfl, by decide +kernel, rfl, by decide +kernel, by decide +kernel⟩
theorem ok_L_told {f : Addr} {fd : FuncData} (T : Tx K mg)  (F : FunP K "_law_told" "_law_told" s_L_told f fd) : FnOk P w K mg base (L2.CX P w) 43 f fd ["_law_program", "_law_inputs", "_law_way"] (sp_L_told K) := by
  refine F.ok sc_L_told (fun vs H Q E h => ?_) (fun cdv A outer s H vs Q E hr h => ?_)
  · repeat first | (obtain ⟨e, _⟩ := h; subst e; rfl; done) | (obtain ⟨_, h⟩ := h)
  refine ⟨_, (pss_cons (ps_set (i := 3) sc_L_told.nd rfl (Or.inl rfl) pe_non)
  (pss_cons (ps_try_names (tb := fun W => tIfS (tTest (tOp rEq (tVar 2) (tC (.int 0)))) (tDrop (tCallS (sp_run K) (WE W) (tCons (tVar 0) (tCons (tVar 1) tNil)))) (tDrop (tCallS (sp_trace K) (WE W) (tCons (tVar 0) (tCons (tVar 1) tNil))))) rfl rfl tU (fun W pn xe tk po => pss_one (ps_if (pt_cmpR op_eq (pv 2) pe_int (nomark _)) (pss_one (ps_expr (pe_cXS (cal_run T) hr (by decide) rfl tk (pa_cons (pv 0) (pa_cons (pv 1) pa_nil))))) (pss_one (ps_expr (pe_cXS (cal_trace T) hr (by decide) rfl tk (pa_cons (pv 0) (pa_cons (pv 1) pa_nil)))))))
    (HdsN.named (i := 4) (ts := fun a cls d => tSeq (tAsg (tTup (tCons (tC (.str "another")) (tCons (tC (.str "")) tNil))) (gName 3)) (tIfS (tTest (tCB (rIsE2 K cls d a) (tCons (tVar 4) (tCons (tC (.ref (He.ga K "NoInput"))) tNil)))) (tAsg (tTup (tCons (tC (.str "none")) (tCons (tXf a cls d (He.ga K "NoInput") "name" (tVar 4)) tNil))) (gName 3)) tNext)) ⟨rfl, by decide, .inl (g_WiseError T)⟩ sc_L_told.nd rfl rfl (fun a oe cls d pn hz hf => pss_cons (ps_set (i := 3) sc_L_told.nd rfl (Or.inl rfl) (pe_tup (pa_cons pe_str (pa_cons pe_str pa_nil)))) (pss_one (ps_if (pt_val (pe_callB (call_isE2 hz hf) (by rfl) (fr_isinstance T) (by decide +kernel) (pa_cons (pv 4) (pa_cons (pe_gref rfl (g_NoInput T)) pa_nil)))) (pss_one (ps_set (i := 3) sc_L_told.nd rfl (Or.inl rfl) (pe_tup (pa_cons pe_str (pa_cons (pe_xf (xfc (xc_NoInput T)) (na_NoInput_name T) hz hf (pv 4)) pa_nil))))) pss_nil))) HdsN.nil))
  (pss_one (ps_ret (pv 3))))), ?_⟩
  try dsimp only [cxK]
  obtain ⟨p, wz, way, PM, kvi, bv, nm, z, rfl, RP, hb, kq⟩ := h
  walk_at "rd"
  refine r_iteD (fun c => ?_) (fun c => ?_)
  · walk_at "rd"
    refine r_callS ?_
    walk_at "rd"
    refine ⟨p, wz, PM, kvi, bv, rfl, RP, .inr ⟨nm, z, hb, ?_⟩⟩
    intro dd H' s1 hd e
    refine ⟨true, xm_NoInput_WiseError T, fun _ a ha => ?_, (fun z => nomatch z)⟩
    walk_at "rd"
    refine r_newL fun q1 h1 => ?_
    have n1 := Same.new (o := .tup [V.str "another", V.str ""]) h1
    have e1 := n1 _ _ e
    have s2 := s1.trans n1
    generalize upd H' q1 (.tup [V.str "another", V.str ""]) = H2 at *
    walk_at "rd"
    refine ⟨_, _, _, true, dd, _, rfl, rfl, e1, excc (xc_NoInput T) (is_NoInput T), rfl, fun u r => r, ki_NoInput_NoInput T, ?_⟩
    walk_at "rd"
    refine r_xf ?_
    walk_at "rd"
    refine ⟨rfl, rfl, dd, _, _, rfl, e1, rfl, ?_⟩
    walk_at "rd"
    refine r_newL fun q hq => ?_
    walk_at "rd"
    exact kq q _ (s2.new' hq) (s2.free hq) upd_same
  · walk_at "rd"
    refine r_callS ?_
    walk_at "rd"
    refine ⟨p, wz, PM, kvi, bv, rfl, RP, .inr ⟨nm, z, hb, ?_⟩⟩
    intro dd H' s1 hd e
    refine ⟨true, xm_NoInput_WiseError T, fun _ a ha => ?_, (fun z => nomatch z)⟩
    walk_at "rd"
    refine r_newL fun q1 h1 => ?_
    have n1 := Same.new (o := .tup [V.str "another", V.str ""]) h1
    have e1 := n1 _ _ e
    have s2 := s1.trans n1
    generalize upd H' q1 (.tup [V.str "another", V.str ""]) = H2 at *
    walk_at "rd"
    refine ⟨_, _, _, true, dd, _, rfl, rfl, e1, excc (xc_NoInput T) (is_NoInput T), rfl, fun u r => r, ki_NoInput_NoInput T, ?_⟩
    walk_at "rd"
    refine r_xf ?_
    walk_at "rd"
    refine ⟨rfl, rfl, dd, _, _, rfl, e1, rfl, ?_⟩
    walk_at "rd"
    refine r_newL fun q hq => ?_
    walk_at "rd"
    exact kq q _ (s2.new' hq) (s2.free hq) upd_same
theorem cal_L_told (T : Tx K mg) : CalX P w K mg base 43 "_law_told" (sp_L_told K) [] := by
  obtain ⟨fd, F⟩ := fn_L_told T
  exact ⟨_, fd, _, [], ok_L_told T F, g__law_told T, F.kp, F.bindsN fun _ _ _ _ _ _ us hl => match us, hl with | [_, _, _], _ => rfl, .nil⟩

end
section
variable {P : Program} {w : World} {K : PySem.W.Frag} {mg : Str → Option Value} {base : Heap}
/-- for x in d.values(): the heap stays -/
theorem r_forV {σ : L2.St} {H : Hp} {D : Ends} {tb : TS} {n j : Nat} {a : Addr} {kvs : List (Key × V)} (e : σ[n]? = some (some (.ref a))) (ha : H a = some (.dK kvs)) (Pv : Nat → L2.St → Prop) (h0 : Pv 0 σ)
    (hs : ∀ od i k x σ' D', kvs[i]? = some (k, x) → Pv i σ' → (∀ σ2, Pv (i + 1) σ2 → D'.nx σ2 (upd H a (.frz od (.dK kvs)))) → tb D' (σ'.set j (some x)) (upd H a (.frz od (.dK kvs)))) (hd : ∀ σ', Pv kvs.length σ' → D.nx σ' H) : tLock (tFor (iVals (tVar n)) (gName j) tb) D σ H := by
  refine ⟨a, .dK kvs, ha, trivial, fun od => ?_⟩
  refine ⟨_, e, a, od, kvs, rfl, upd_same, ?_⟩
  refine for_it (walk_values (kvs := kvs)) (fun i σ' H' => Pv i σ' ∧ H' = upd H a (.frz od (.dK kvs))) ⟨h0, rfl⟩ (fun i σ' H' _ q => by rw [q.2]; exact upd_same) (fun i x σ' H' H'' hi q y => ?_) (fun σ' H' q => ?_)
  · obtain ⟨rfl, k, hx⟩ := y
    obtain ⟨q1, rfl⟩ := q
    exact hs od i k x σ' _ hx q1 fun σ2 h => ⟨h, rfl⟩
  · obtain ⟨q1, rfl⟩ := q
    refine ⟨upd_same, ?_⟩
    rw [upd_upd, show upd H a (.dK kvs) = H from funext fun b => by
      by_cases h : b = a
      · rw [h, upd_same, ha]
      · rw [upd_ne h]]
    exact hd _ q1
def putD (l : List (Int × Str × Int)) : List PyData := l.map fun x => .tuple [.int x.1, .str x.2.1, .int x.2.2]
theorem PutsAt.data {K : PySem.W.Frag} {H : Hp} : ∀ {l : List (Int × Str × Int)} {vs : List V}, PutsAt H l vs → DpAll K H vs (putD l)
  | [], _, h => by rw [h]; exact .nil
  | (a, b, c) :: l, _, ⟨t, vs', e, h1, h3⟩ => by
    rw [e]
    exact .cons (.tup (SqT.of h1) (.cons (.int a) (.cons (.str b) (.cons (.int c) .nil)))) (PutsAt.data h3)
theorem shaped_puts : ∀ {l : List (Int × Str × Int)}, (∀ x ∈ l, lowS x.2.1) → SeqAt.shaped (.list (putD l)) = true
  | [], _ => by decide +kernel
  | (a, b, d) :: l, h => by
    have ih := shaped_puts (l := l) fun x hx => h x (List.mem_cons_of_mem _ hx)
    have c := strOk_low (h (a, b, d) List.mem_cons_self)
    unfold SeqAt.shaped at ih ⊢
    rw [Bool.and_eq_true] at ih ⊢
    have d2 := of_decide_eq_true ih.2
    have c2 := ih.1
    simp only [putD, List.map_cons, PyData.canLay0, PyData.canLayAll0, PyData.depth, PyData.depthAll, Bool.and_true, Bool.true_and] at c c2 d2 ⊢
    refine ⟨by rw [c, c2]; rfl, decide_eq_true (by omega)⟩
theorem eqv_puts (l : List (Int × Str × Int)) : PyData.eqv (.list (putD l)) (.list (putD l)) = true := by
  have : ∀ l : List (Int × Str × Int), PyData.eqvAll (putD l) (putD l) = true := by
    intro l
    induction l with
    | nil => rfl
    | cons x l ih => simp only [putD, List.map_cons] at ih ⊢; simp [PyData.eqvAll, PyData.eqv, ih]
  rw [PyData.eqv]; exact this l
/-- == of two lists of puttings -/
theorem r_eqPuts {K : PySem.W.Frag} {H : Hp} {Q : VK} {p q : Addr} {l : List (Int × Str × Int)} {vs us : List V} (h1 : H p = some (.lst vs)) (h2 : PutsAt H l vs) (h3 : H q = some (.lst us)) (h4 : PutsAt H l us) (hl : ∀ x ∈ l, lowS x.2.1) (h : Q (.bl true) H) : rEqD K (.ref p) (.ref q) H Q :=
  ⟨_, _, .lst (SqL.of h1) h2.data, .lst (SqL.of h3) h4.data, shaped_puts hl, shaped_puts hl, by rw [eqv_puts]; exact h⟩
def dueK (ib : Str → Int) (ns : List Str) : List (Key × V) := ns.map fun n => ((Sum.inr n : Key), V.int (ib n))
theorem dueK_none {ib : Str → Int} {n : Str} : ∀ {ns : List Str}, n ∉ ns → valV (dueK ib ns) (Sum.inr n) = none
  | [], _ => rfl
  | x :: ns, h => by
    rw [List.mem_cons, not_or] at h
    show valV ((_, _) :: dueK ib ns) _ = none
    rw [valV_neg (fun z => h.1 (Sum.inr.inj z).symm)]
    exact dueK_none h.2
theorem dueK_val {ib : Str → Int} {n : Str} : ∀ {ns : List Str}, n ∈ ns → valV (dueK ib ns) (Sum.inr n) = some (.int (ib n))
  | [], h => by cases h
  | x :: ns, h => by
    show valV ((_, _) :: dueK ib ns) _ = _
    by_cases c : x = n
    · subst c; rw [valV_pos rfl]
    · rw [valV_neg (fun z => c (Sum.inr.inj z))]
      exact dueK_val ((List.mem_cons.mp h).resolve_left fun z => c z.symm)
def stG (p pn wz : Addr) (ln : Int) (z1 z2 z3 : Option V) : L2.St := [some (.ref p), some (.ref pn), some (.ref wz), some (.int ln), z1, z2, z3]
def sp_L_good (K : PySem.W.Frag) : Sp := fun vs H Q _ => ∃ p pn wz w n0 k0 r kvi, ∃ ib : Str → Int, vs = [.ref p, .ref pn, .ref wz, .int (1 + (((n0, k0) :: r).length : Int))] ∧ C67 w n0 k0 r ∧ ProgAt K H p (PM67 w n0 k0 r) ∧ H pn = some (.lst ((n0 :: r.map Prod.fst).map V.str)) ∧ H wz = some (.dK kvi) ∧ (∀ p ∈ kvi, ∃ i, p.2 = V.int i) ∧
  (∀ x ∈ (n0, k0) :: r, valV kvi (Sum.inr x.1) = some (.int (ib x.1)) ∧ 0 ≤ ib x.1 ∧ ib x.1 < x.2.B) ∧ Rt H Q (.bl true)
abbrev N_L_good : List Str := ["_law_program", "_law_names", "_law_words", "_law_line", "_law_word", "_law_due", "_law_name"]
theorem sc_L_good : FnScope ["_law_program", "_law_names", "_law_words", "_law_line", "_law_word", "_law_due", "_law_name"] ["_law_program", "_law_names", "_law_words", "_law_line"] (defScope s_L_good) := ⟨rfl, rfl, rfl, by decide +kernel, rfl, by decide +kernel, by decide +kernel⟩
theorem ok_L_good {f : Addr} {fd : FuncData} (T : Tx K mg)  (F : FunP K "_law_good" "_law_good" s_L_good f fd) : FnOk P w K mg base (L2.CX P w) 43 f fd ["_law_program", "_law_names", "_law_words", "_law_line"] (sp_L_good K) := by
  refine F.ok sc_L_good (fun vs H Q E h => ?_) (fun cdv A outer s H vs Q E hr h => ?_)
  · repeat first | (obtain ⟨e, _⟩ := h; subst e; rfl; done) | (obtain ⟨_, h⟩ := h)
  refine ⟨_, (C8.pss_cut (ps_lock (ps_for oU rfl (pi_values (pv 2)) (pg_name (i := 4) sc_L_good.nd rfl (Or.inl rfl))
  (pss_one (ps_if (PW.pt (pw_or (pt_not (pt_val (pe_callB call_isi (by rfl) (fr_isinstance T) (by decide +kernel) (pa_cons (pv 4) (pa_cons (pe_ty (n := "int") rfl (fr_int T) (by decide +kernel)) pa_nil))))) (pw_or1 (pt_val (pe_callB call_isi (by rfl) (fr_isinstance T) (by decide +kernel) (pa_cons (pv 4) (pa_cons (pe_ty (n := "bool") rfl (fr_bool T) (by decide +kernel)) pa_nil))))))) (pss_one (ps_ret pe_bl)) pss_nil))))
  (pss_cons (ps_set (i := 5) sc_L_good.nd rfl (Or.inl rfl) pe_dnewK)
  (C8.pss_cut (ps_for oU rfl (pi_list (pv 1)) (pg_name (i := 6) sc_L_good.nd rfl (Or.inl rfl))
  (pss_one (ps_dput (hu_of hr) (pv 5) (pv 6) (pe_dget (hu_of hr) (pv 2) (pv 6) (fun _ _ => rfl)) rfl)))
  (pss_cons (ps_dput (hu_of hr) (pv 5) pe_str (pe_dget (hu_of hr) (pv 2) (pe_ix ix_list (pv 1) pe_int (fun _ _ => rfl)) (fun _ _ => rfl)) rfl)
  (pss_one (ps_ret (pe_and (pe_cmpR (op_eqTV (hu64 hr)) (pe_cX (cal_run T) hr (by decide) rfl pU (pa_cons (pv 0) (pa_cons (pv 2) pa_nil))) (pe_tup (pa_cons (pv 5) (pa_cons (pe_lst pa_nil) pa_nil))) (nomark _)) (pe_one (pe_cmpR (op_eqD (hu64 hr)) (pe_cX (cal_trace T) hr (by decide) rfl pU (pa_cons (pv 0) (pa_cons (pv 2) pa_nil))) (pe_lst (pa_cons (pe_tup (pa_cons (pv 3) (pa_cons pe_str (pa_cons (pe_dget (hu_of hr) (pv 2) (pe_ix ix_list (pv 1) pe_int (fun _ _ => rfl)) (fun _ _ => rfl)) pa_nil)))) pa_nil)) (nomark _)))))))))), ?_⟩
  try dsimp only [cxK]
  obtain ⟨p, pn, wz, w, n0, k0, r, kvi, ib, rfl, C, hP, hn, hw, hint, hib, kq⟩ := h
  have hib2 : ∀ x ∈ (n0, k0) :: r, 0 ≤ ib x.1 ∧ ib x.1 < x.2.B := fun x hx => (hib x hx).2
  obtain ⟨R, R2⟩ := runs67 C hib2
  have l5 := C.l5
  have nd := outs67_nd C
  generalize hln : (1 + (((n0, k0) :: r).length : Int)) = ln at *
  refine r_cut (fun σ' H' => H' = H ∧ ∃ z, σ' = stG p pn wz ln z none none) ?_ ?_
  · refine r_forV (n := 2) rfl hw (fun i σ' => ∃ z, σ' = stG p pn wz ln z none none) ⟨none, rfl⟩ (fun od i k x σ' D' hx q nx => ?_) (fun σ' q => ⟨rfl, q⟩)
    unfold stG at q
    obtain ⟨z, rfl⟩ := q
    obtain ⟨v, ev⟩ := hint (k, x) (List.mem_of_getElem? hx)
    obtain rfl : x = V.int v := ev
    walk_at "rd"
    refine ⟨.int v, .ty "int", _, _, true, rfl, .ty _, .base (.int v), kit_ty (show kitB "int" "int" = some true by decide +kernel), ?_⟩
    walk_at "rd"
    refine ⟨.int v, .ty "bool", _, _, false, rfl, .ty _, .base (.int v), kit_ty (show kitB "int" "bool" = some false by decide +kernel), ?_⟩
    walk_at "rd"
    exact nx _ ⟨_, rfl⟩
  rintro σ' H' ⟨rfl, q⟩
  unfold stG at q
  obtain ⟨z, rfl⟩ := q
  walk_at "rd"
  intro pd hpd
  have n1 := Same.new (o := .dK []) hpd
  have e1 : upd H' pd (.dK []) pd = some (.dK []) := upd_same
  have hn1 := n1 _ _ hn
  have hw1 := n1 _ _ hw
  have pdH : ∀ x o, H' x = some o → x ≠ pd := fun x o e => ne_of_none e hpd
  generalize upd H' pd (.dK []) = H1 at *
  walk_at "rd"
  have pnd : pn ≠ pd := pdH _ _ hn
  have wzd : wz ≠ pd := pdH _ _ hw
  refine r_cut (fun σ' H2 => (∃ z z2, σ' = stG p pn wz ln z (some (.ref pd)) z2) ∧ (∀ x o, x ≠ pd → H1 x = some o → H2 x = some o) ∧ H2 pd = some (.dK (dueK ib (n0 :: r.map Prod.fst)))) ?_ ?_
  · refine r_forLv rfl (SqL.of hn1) ⟨fun i σ' H2 => (∃ z z2, σ' = stG p pn wz ln z (some (.ref pd)) z2) ∧ (∀ x o, x ≠ pd → H1 x = some o → H2 x = some o) ∧ H2 pd = some (.dK (dueK ib ((n0 :: r.map Prod.fst).take i))), ⟨⟨_, _, rfl⟩, fun x o _ e => e, e1⟩, fun i σ' H2 q => SqL.of (q.2.1 _ _ pnd hn1), fun i y σ' H2 hy q => ?_, fun σ' H2 q => ?_⟩
    · obtain ⟨⟨z, z2, rfl⟩, q1, q2⟩ := q
      unfold stG
      obtain ⟨nm, hb, rfl⟩ : ∃ b, (n0 :: r.map Prod.fst)[i]? = some b ∧ y = V.str b := by
        rw [List.getElem?_map] at hy
        cases e : (n0 :: r.map Prod.fst)[i]? with
        | none => rw [e] at hy; cases hy
        | some y => rw [e] at hy; exact ⟨y, rfl, (Option.some.inj hy).symm⟩
      have hmem : nm ∈ ((n0, k0) :: r).map Prod.fst := List.mem_of_getElem? hb
      obtain ⟨xx, hxx, exx⟩ := List.mem_map.mp hmem
      have hv := (hib xx hxx).1
      rw [exx] at hv
      have hil := (List.getElem?_eq_some_iff.mp hb).1
      simp only [List.length_cons, List.length_map] at hil
      walk_at "rd"
      refine r_dget ?_
      walk_at "rd"
      refine r_dgetS (q1 _ _ wzd hw1) hv ?_
      walk_at "rd"
      refine r_dputS q2 (by unfold dueK; rw [List.length_map, List.length_take]; omega) ?_
      have nin : nm ∉ (n0 :: r.map Prod.fst).take i := outs_take (List.nodup_cons.mp nd).2 hb
      rw [putK_new _ (dueK_none nin)]
      refine ⟨⟨_, _, rfl⟩, fun x o hx e => by rw [upd_ne hx]; exact q1 x o hx e, ?_⟩
      rw [upd_same]
      unfold dueK
      rw [take_map hb]
    · obtain ⟨q0, q1, q2⟩ := q
      rw [List.length_map, List.take_length] at q2
      exact ⟨q0, q1, q2⟩
  rintro σ' H2 ⟨⟨z, z2, rfl⟩, q1, q2⟩
  unfold stG
  have hn2 := q1 _ _ pnd hn1
  have hw2 := q1 _ _ wzd hw1
  have hv0 := (hib (n0, k0) List.mem_cons_self).1
  have hv0 : valV kvi (Sum.inr n0) = some (.int (ib n0)) := hv0
  walk_at "rd"
  refine r_dget ?_
  walk_at "rd"
  refine r_ixL (SqL.of hn2) (show atI ((n0 :: r.map Prod.fst).map V.str) 0 = some (V.str n0) from at0) ?_
  refine r_dgetS hw2 hv0 ?_
  walk_at "rd"
  have dl : (dueK ib (n0 :: r.map Prod.fst)).length ≤ 5 := by unfold dueK; simp only [List.length_map, List.length_cons]; omega
  refine r_dputS q2 (by omega) ?_
  have zn : ("zz" : Str) ∉ n0 :: r.map Prod.fst := (List.nodup_cons.mp nd).1
  rw [putK_new _ (dueK_none zn)]
  generalize hdk : dueK ib (n0 :: r.map Prod.fst) ++ [((Sum.inr "zz" : Key), V.int (ib n0))] = dk
  have dkl : dk.length = r.length + 2 := by rw [← hdk]; unfold dueK; simp
  have dkv : ∀ n ∈ outs67 n0 r, valV dk (Sum.inr n) = some (.int (if n = "zz" then ib n0 else ib n)) := fun n hn => by
    rw [← hdk, valV_snoc _ _ _ _ (dueK_none zn)]
    by_cases c : n = "zz"
    · rw [if_pos (by rw [c]), if_pos c]
    · rw [if_neg (fun y => c (Sum.inr.inj y)), if_neg c]
      exact dueK_val ((List.mem_cons.mp hn).resolve_left c)
  have e3 : upd H2 pd (.dK dk) pd = some (.dK dk) := upd_same
  have s3 : Same H' (upd H2 pd (.dK dk)) := fun x o e => by rw [upd_ne (pdH x o e)]; exact q1 _ _ (pdH x o e) (n1 _ _ e)
  generalize upd H2 pd (.dK dk) = H3 at *
  clear q1 q2 n1 e1 hn1 hw1 hn2 hw2 pdH pnd wzd hpd hdk dl zn
  have RP : RunPre K H3 p wz (PM67 w n0 k0 r) kvi (fun n => .int (ib n)) := ⟨hP.on s3, s3 _ _ hw, C.w4, C.w32, by show r.length + 1 ≤ 1000; omega, fun x hx => by rw [(hib x hx).1]; rfl⟩
  have IG : InGood (PM67 w n0 k0 r) (fun n => .int (ib n)) := fun x hx => ⟨ib x.1, rfl, (hib2 x hx).1, by
    have := (hib2 x hx).2
    unfold KindM.B at this
    rw [(C.hi x hx).2.2.2] at this
    exact this⟩
  have ol : (outs67 n0 r).length = r.length + 2 := by unfold outs67; simp
  walk_at "rd"
  refine ⟨p, wz, _, kvi, _, rfl, RP, .inl ⟨IG, R.go, R.sm, R.dp, R.ct, by show (outs67 n0 r).length ≤ 1000; omega, nd, fun n hn => ?_, fun t o m vm H4 s4 et eo em hm => ?_⟩⟩
  · rcases outs67_mem (k0 := k0) hn with rfl | ⟨x, hx, rfl⟩
    · have := R2.zz; exact this ▸ rfl
    · have := R2.ins x hx; exact this ▸ rfl
  have hm0 : (goM (PM67 w n0 k0 r).ks (PM67 w n0 k0 r).rows ⟨env0 (PM67 w n0 k0 r).ins (ibV fun n => .int (ib n)), [], []⟩).marks = [] := R2.mks
  rw [hm0] at hm
  obtain rfl : vm = [] := hm
  have eo : H4 o = some (.dK (outK (goM (PM67 w n0 k0 r).ks (PM67 w n0 k0 r).rows ⟨env0 ((n0, k0) :: r) ib, [], []⟩).env (outs67 n0 r))) := eo
  have gv : ∀ n ∈ outs67 n0 r, getB (goM (PM67 w n0 k0 r).ks (PM67 w n0 k0 r).rows ⟨env0 ((n0, k0) :: r) ib, [], []⟩).env n = if n = "zz" then ib n0 else ib n := fun n hn => by
    unfold getB
    rcases outs67_mem (k0 := k0) hn with rfl | ⟨x, hx, rfl⟩
    · rw [R2.zz, if_pos rfl]; rfl
    · rw [R2.ins x hx, if_neg (C.hi x hx).2.1]; rfl
  generalize (goM (PM67 w n0 k0 r).ks (PM67 w n0 k0 r).rows ⟨env0 ((n0, k0) :: r) ib, [], []⟩).env = env at *
  walk_at "rd"
  refine r_newL fun l hl => ?_
  have n5 := Same.new (o := .lst []) hl
  have e5 : upd H4 l (.lst []) l = some (.lst []) := upd_same
  have s5 := s4.trans n5
  have et5 := n5 _ _ et
  have eo5 := n5 _ _ eo
  have em5 := n5 _ _ em
  generalize upd H4 l (.lst []) = H5 at *
  walk_at "rd"
  refine r_newL fun t2 ht2 => ?_
  have n6 := Same.new (o := .tup [V.ref pd, V.ref l]) ht2
  have e6 : upd H5 t2 (.tup [V.ref pd, V.ref l]) t2 = some (.tup [V.ref pd, V.ref l]) := upd_same
  have s6 := s5.trans n6
  have et6 := n6 _ _ et5
  have eo6 := n6 _ _ eo5
  have em6 := n6 _ _ em5
  have e56 := n6 _ _ e5
  have ed6 := s6 _ _ e3
  generalize upd H5 t2 (.tup [V.ref pd, V.ref l]) = H6 at *
  have eqd : EqV K H6 2 (.ref o) (.ref pd) := .inr (.inr (.inr ⟨o, pd, _, dk, rfl, rfl, eo6, ed6, by rw [dkl]; unfold outK; rw [List.length_map, ol], fun q hq => by
    unfold outK at hq
    obtain ⟨n, hn, rfl⟩ := List.mem_map.mp hq
    exact ⟨_, dkv n hn, .inl ⟨by rw [gv n hn], rfl⟩⟩⟩))
  have eql : EqV K H6 2 (.ref m) (.ref l) := .inr (.inr (.inl ⟨m, l, [], [], rfl, rfl, SqL.of em6, SqL.of e56, .nil⟩))
  refine ⟨2, t, t2, _, _, by decide, rfl, rfl, SqT.of et6, SqT.of e6, .cons eqd (.cons eql .nil), ?_⟩
  have RP6 := RP.on s6
  have s06 := s3.trans s6
  clear n5 n6 e5 et5 eo5 em5 et eo em et6 eo6 em6 e56 ed6 e6 eqd eql s5 s6 s4
  walk_at "rd"
  refine ⟨p, wz, _, kvi, _, rfl, RP6, .inl ⟨IG, R.go, R.sm, R.dp, R.ct, fun u vu H7 s7 eu hu => ?_⟩⟩
  have hp0 : (goM (PM67 w n0 k0 r).ks (PM67 w n0 k0 r).rows ⟨env0 (PM67 w n0 k0 r).ins (ibV fun n => .int (ib n)), [], []⟩).puts = [(1 + (((n0, k0) :: r).length : Int), ("zz" : Str), ib n0)] := R2.puts
  rw [hp0, hln] at hu
  walk_at "rd"
  refine r_dget ?_
  walk_at "rd"
  refine r_ixL (SqL.of (s7 _ _ (s06 _ _ hn))) (show atI ((n0 :: r.map Prod.fst).map V.str) 0 = some (V.str n0) from at0) ?_
  refine r_dgetS (s7 _ _ (s06 _ _ hw)) hv0 ?_
  walk_at "rd"
  refine r_newL fun t3 ht3 => ?_
  have n8 := Same.new (o := .tup [V.int ln, V.str "zz", V.int (ib n0)]) ht3
  have e8 : upd H7 t3 (.tup [V.int ln, V.str "zz", V.int (ib n0)]) t3 = some (.tup [V.int ln, V.str "zz", V.int (ib n0)]) := upd_same
  have eu8 := n8 _ _ eu
  have hu8 : PutsAt (upd H7 t3 (.tup [V.int ln, V.str "zz", V.int (ib n0)])) _ vu := hu.move fun x us e => n8 _ _ e
  have s8 := (s06.trans s7).trans n8
  generalize upd H7 t3 (.tup [V.int ln, V.str "zz", V.int (ib n0)]) = H8 at *
  walk_at "rd"
  refine r_newL fun l9 hl9 => ?_
  have n9 := Same.new (o := .lst [V.ref t3]) hl9
  refine r_eqPuts (n9 _ _ eu8) (hu8.move fun x us e => n9 _ _ e) upd_same ⟨t3, [], rfl, n9 _ _ e8, rfl⟩ (fun x hx => ?_) ?_
  · rw [List.mem_singleton.mp hx]
    show lowS ("zz" : Str)
    unfold lowS
    decide +kernel
  · exact kq _ (s8.trans n9)
theorem cal_L_good (T : Tx K mg) : CalX P w K mg base 43 "_law_good" (sp_L_good K) [] := by
  obtain ⟨fd, F⟩ := fn_L_good T
  exact ⟨_, fd, _, [], ok_L_good T F, g__law_good T, F.kp, F.bindsN fun _ _ _ _ _ _ us hl => match us, hl with | [_, _, _, _], _ => rfl, .nil⟩

end
section
variable {P : Program} {w : World} {K : PySem.W.Frag} {mg : Str → Option Value} {base : Heap}
/-! ### k67: names and lines -/
def N5 : List Str := ["b", "bb", "inq", "z", "y"]
def nms (k m : Nat) : List Str := (List.range m).map fun j => N5.getD ((k + 2 * j) % 5) ""
theorem nms_next (k m : Nat) : nms k (m + 1) = nms k m ++ [N5.getD ((k + 2 * m) % 5) ""] := by unfold nms; rw [List.range_succ, List.map_append]; rfl
theorem nms_len (k m : Nat) : (nms k m).length = m := by unfold nms; simp
theorem nms_all : ((List.range 5).all fun k => (List.range 6).all fun m => decide (nms k m).Nodup && (nms k m).all fun n => isName n && (decide (n ≠ "zz") && decide (n ≠ "out"))) = true := by decide +kernel
theorem nms_ok {k m : Nat} (hk : k < 5) (hm : m ≤ 5) : (nms k m).Nodup ∧ ∀ n ∈ nms k m, isName n = true ∧ n ≠ "zz" ∧ n ≠ "out" := by
  have h := List.all_eq_true.mp (List.all_eq_true.mp nms_all k (List.mem_range.mpr hk)) m (List.mem_range.mpr (by omega))
  rw [Bool.and_eq_true] at h
  refine ⟨of_decide_eq_true h.1, fun n hn => ?_⟩
  have q := List.all_eq_true.mp h.2 n hn
  simp only [Bool.and_eq_true, decide_eq_true_eq] at q
  exact q
theorem N5_at {i : Int} (h0 : 0 ≤ i) (h5 : i < 5) : atI (N5.map V.str) i = some (V.str (N5.getD i.toNat "")) := by
  obtain rfl | rfl | rfl | rfl | rfl : i = 0 ∨ i = 1 ∨ i = 2 ∨ i = 3 ∨ i = 4 := by omega
  all_goals rfl
theorem lits67 : ("in " : Str) = "in" ++ (" " : Str) ∧ ("zz = copy " : Str) = "zz" ++ ((" " : Str) ++ ("=" ++ ((" " : Str) ++ ("copy" ++ (" " : Str))))) ∧ ("in " : Str).length = 3 ∧ (" " : Str).length = 1 ∧ ("zz = copy " : Str).length = 10 ∧ ("out " : Str).length = 4 ∧ ("width " : Str).length = 6 := by decide +kernel
theorem ln_in67 {nm : Str} {kd : KindM} (g : kd.Good) : ((("in " : Str) ++ nm) ++ (" " : Str)) ++ kwT kd = lnT (.inp nm kd) := by
  rw [← ln_in g, lits67.1]
  exact TL.ext_tl (by simp only [TL.tl_append, List.append_assoc])
theorem ln_zz (n0 : Str) : ("zz = copy " : Str) ++ n0 = lnT (rowZ n0).ln := by
  show _ = Txt.join " " ["zz", "=", "copy", n0]
  rw [join_cons, join_cons, join2, lits67.2.1]
  exact TL.ext_tl (by simp only [TL.tl_append, List.append_assoc])
def insL (w : Int) (ins : List (Str × KindM)) : List Str := lnT (.width w) :: ins.map fun x => lnT (.inp x.1 x.2)
theorem lines67_eq {w : Int} {n0 : Str} {k0 : KindM} {r : List (Str × KindM)} : (flatL w ((n0, k0) :: r) [rowZ n0] (outs67 n0 r)).map lnT = (insL w ((n0, k0) :: r) ++ ([("zz = copy " : Str) ++ n0] : List Str)) ++ (outs67 n0 r).map fun n => ("out " : Str) ++ n := by
  have e : ((outs67 n0 r).map fun n => ("out " : Str) ++ n) = (outs67 n0 r).map fun n => lnT (.out n) := List.map_congr_left fun n _ => ln_out n
  rw [e, ln_zz]
  unfold flatL insL
  rw [List.map_cons, List.map_append, List.map_append, List.map_map, List.map_map, List.map_map]
  simp only [List.append_assoc, List.cons_append]
  rfl
theorem filter_head {α : Type} {p : α → Bool} {a : α} {t : List α} : ∀ {l : List α}, l.filter p = a :: t → ∃ j : Nat, l[j]? = some a ∧ p a = true ∧ ∀ (i : Nat) y, i < j → l[i]? = some y → p y = false
  | [], h => by cases h
  | x :: l, h => by
    rw [List.filter_cons] at h
    by_cases c : p x = true
    · rw [if_pos c] at h
      injection h with h1 h2
      subst h1
      exact ⟨0, rfl, c, fun i y hi => absurd hi (by omega)⟩
    · rw [if_neg c] at h
      obtain ⟨j, h1, h2, h3⟩ := filter_head h
      refine ⟨j + 1, h1, h2, fun i y hi e => ?_⟩
      cases i with
      | zero => obtain rfl := Option.some.inj e; simpa using c
      | succ i => exact h3 i y (by omega) e
/-- [.. for x in l if ..] -/
theorem r_lcLT {K : PySem.W.Frag} {σ : L2.St} {H : Hp} {n j : Nat} {p : Addr} {xs : List V} {Q : VK} {te : TE} {tt : TT} {vs : List Nat} (e : σ[n]? = some (some (.ref p))) (hq : SqL K H p xs) (Pv : Addr → Nat → Hp → Prop) (hw : ∀ q, wipe ((wipe σ vs).set j q) vs = wipe σ vs)
    (h0 : ∀ E, H E = none → Pv E 0 (upd H E (.lst []))) (hG : ∀ E i H', Pv E i H' → SqL K H' p xs)
    (hs : ∀ E i x H', xs[i]? = some x → Pv E i H' → tt ((wipe σ vs).set j (some x)) H' fun b H3 => if b = true then te ((wipe σ vs).set j (some x)) H3 fun z H4 => ∃ acc, H4 E = some (.lst acc) ∧ acc.length < sizeLine ∧ Pv E (i + 1) (upd H4 E (.lst (acc ++ [z]))) else Pv E (i + 1) H3)
    (hd : ∀ E H', Pv E xs.length H' → Q (.ref E) H') : tLc (iList K (tVar n)) (gName j) tt te vs σ H Q := by
  refine ⟨_, e, p, rfl, ⟨xs, hq⟩, fun E hE => ?_⟩
  refine lc_it (walk_list (xs := xs)) (Pv E) (h0 E hE) (fun i H' _ q => hG E i H' q) (fun i v H' H'' hi q y => ?_) (fun H' q => hd E H' q)
  obtain ⟨rfl, hx⟩ := y
  exact ⟨hw _, hs E i v _ hx q⟩
/-- != of two pairs of texts that are alike -/
theorem r_neTT {K : PySem.W.Frag} {H : Hp} {Q : VK} {p q : Addr} {x y : Str} (h1 : H p = some (.tup [.str x, .str y])) (h2 : H q = some (.tup [.str x, .str y])) (lx : lowS x) (ly : lowS y) (h : Q (.bl false) H) : rNeD K (.ref p) (.ref q) H Q := by
  have sh : SeqAt.shaped (.tuple [.str x, .str y]) = true := by
    have c1 := strOk_low lx
    have c2 := strOk_low ly
    unfold SeqAt.shaped
    rw [Bool.and_eq_true]
    simp only [PyData.canLay0, PyData.canLayAll0, PyData.depth, PyData.depthAll, Bool.and_true] at c1 c2 ⊢
    exact ⟨by rw [c1, c2]; rfl, rfl⟩
  have ee : PyData.eqv (.tuple [.str x, .str y]) (.tuple [.str x, .str y]) = true := by simp [PyData.eqv, PyData.eqvAll]
  exact ⟨_, _, .tup (SqT.of h1) (.cons (.str x) (.cons (.str y) .nil)), .tup (SqT.of h2) (.cons (.str x) (.cons (.str y) .nil)), sh, sh, by rw [ee]; exact h⟩

end
section
variable {P : Program} {w : World} {K : PySem.W.Frag} {mg : Str → Option Value} {base : Heap}
def sp_law (K : PySem.W.Frag) : Sp := fun vs H Q _ => ∃ (a : Addr) (ns : List Int), vs = [.ref a] ∧ SqL K H a (ns.map V.int) ∧ ns.length ≤ 63 ∧ ∀ H', Q (.bl true) H'
def s67 (a : Addr) (i : Nat) (b : Addr) (w k : Int) (pn : Addr) (z6 z7 z8 z9 z10 z11 z12 z13 z14 z15 z16 z17 : Option V) : L2.St := [some (.ref a), some (.int (i : Nat)), some (.ref b), some (.int w), some (.int k), some (.ref pn), z6, z7, z8, z9, z10, z11, z12, z13, z14, z15, z16, z17]
theorem few67 {w : Int} {n0 : Str} {k0 : KindM} {r : List (Str × KindM)} : (PM67 w n0 k0 r).rows.few := chain_few _ _ fun q hq => by
  rw [List.mem_singleton.mp (show q ∈ [(rowZ n0).q] from hq)]
  show ([] : List Int).length ≠ 3
  decide
theorem dueK_mem {ib : Str → Int} {ns : List Str} : ∀ p ∈ dueK ib ns, ∃ i, p.2 = V.int i := fun p hp => by
  obtain ⟨n, -, rfl⟩ := List.mem_map.mp hp
  exact ⟨_, rfl⟩
theorem dueK_keys {ib : Str → Int} {ns : List Str} : (dueK ib ns).map (·.1) = ns.map Sum.inr := by unfold dueK; rw [List.map_map]; rfl
theorem nd_inr {ns : List Str} (h : ns.Nodup) : (ns.map (Sum.inr : Str → Key)).Nodup := by
  unfold List.Nodup at *
  rw [List.pairwise_map]
  exact h.imp fun hn z => hn (Sum.inr.inj z)
abbrev N_law : List Str := ["_law_script", "_law_k", "_law_box_here", "_law_width", "_law_at", "_law_names", "_law_j", "_law_lines", "_law_name", "_law_line", "_law_program", "_law_words", "_law_inputs", "_law_spoilt_here", "_law_due", "_law_way", "_law_handed", "_law_beside"]
theorem sc_law : FnScope ["_law_script", "_law_k", "_law_box_here", "_law_width", "_law_at", "_law_names", "_law_j", "_law_lines", "_law_name", "_law_line", "_law_program", "_law_words", "_law_inputs", "_law_spoilt_here", "_law_due", "_law_way", "_law_handed", "_law_beside"] ["_law_script"] (defScope s_law) := ⟨rfl, rfl, rfl, by decide +kernel, rfl, by decide +kernel, by decide +kernel⟩
theorem ok_law {f : Addr} {fd : FuncData} (T : Tx K mg)  (F : FunP K "law" "law" s_law f fd) : FnOk P w K mg base CX0 44 f fd ["_law_script"] (sp_law K) := by
  refine F.ok sc_law (fun vs H Q E h => ?_) (fun cdv A outer s H vs Q E hr h => ?_)
  · repeat first | (obtain ⟨e, _⟩ := h; subst e; rfl; done) | (obtain ⟨_, h⟩ := h)
  refine ⟨_, (PSs.nox (pss_cons (ps_for PassesOwn.never rfl (pi_range1 rfl (fr_range T) (pa_cons (pe_callB (call_max2 rfl) (by rfl) (fr_max T) (by decide +kernel) (pa_cons pe_int (pa_cons (pe_callB (call_min2 rfl) (by rfl) (fr_min T) (by decide +kernel) (pa_cons (pe_callB call_len_seq (by rfl) (fr_len T) (by decide +kernel) (pa_cons (pv 0) pa_nil)) (pa_cons pe_int pa_nil))) pa_nil))) pa_nil)) (pg_name (i := 1) sc_law.nd rfl (Or.inl rfl))
  (pss_cons (ps_set (i := 2) sc_law.nd rfl (Or.inl rfl) (pe_cX (cal_L_box T) hr (by decide) rfl passL (pa_cons (pe_cX (cal_L_cell T) hr (by decide) rfl passL (pa_cons (pv 0) (pa_cons (pv 1) pa_nil))) pa_nil)))
  (pss_cons (ps_set (i := 3) sc_law.nd rfl (Or.inl rfl) (pe_op op_add pe_int (pe_cX (cal_L_take T) hr (by decide) rfl passL (pa_cons (pv 2) (pa_cons pe_int pa_nil)))))
  (pss_cons (ps_set (i := 4) sc_law.nd rfl (Or.inr rfl) (pe_cX (cal_L_take T) hr (by decide) rfl passL (pa_cons (pv 2) (pa_cons pe_int pa_nil))))
  (C8.pss_cut (ps_setLc (i := 5) (own := [("_law_j", 6)]) (te := tOp (rIxL K) _ _) (g := gName 6) (tt := tYes) rfl sc_law.nd rfl rfl (sw_true rfl rfl rfl (by decide +kernel)) (pi_range1 rfl (fr_range T) (pa_cons (pe_op op_add pe_int (pe_cX (cal_L_take T) hr (by decide) rfl passL (pa_cons (pv 2) (pa_cons pe_int pa_nil)))) pa_nil)) (blkOk_by (N := N_law) (sc := defScope s_law) (by decide +kernel)) (fun _ _ _ _ _ => (pg_name (i := 6) sc_law.nd rfl (Or.inl rfl))) (fun _ _ _ _ _ => pts_nil) (fun _ _ _ _ _ => (pe_ix ix_list (pe_lst (pa_cons pe_str (pa_cons pe_str (pa_cons pe_str (pa_cons pe_str (pa_cons pe_str pa_nil)))))) (pe_op op_mod (pe_op op_add (pv 4) (pe_op op_mul pe_int (pv 6))) pe_int) (fun _ _ => rfl))))
  (pss_cons (ps_set (i := 7) sc_law.nd rfl (Or.inl rfl) (pe_lst (pa_cons (pe_op op_add_str pe_str (pe_callTy call_str_int (by rfl) (fr_str T) (by decide +kernel) (pa_cons (pv 3) pa_nil))) pa_nil)))
  (C8.pss_cut (ps_for PassesOwn.never rfl (pi_list (pv 5)) (pg_name (i := 8) sc_law.nd rfl (Or.inl rfl))
  (pss_one (ps_expr (pe_bm PySem.F.plainAttrs_list PySem.F.slot_list_append PySem.F.type_list_append mt_append (pv 7) (pa_cons (pe_op op_add_str (pe_op op_add_str (pe_op op_add_str pe_str (pv 8)) pe_str) (pe_cX (cal_L_kind_words T) hr (by decide) rfl passL (pa_cons (pe_cX (cal_L_spec T) hr (by decide) rfl passL (pa_cons (pv 2) (pa_cons (pv 3) pa_nil))) pa_nil))) pa_nil)))))
  (pss_cons (ps_set (i := 9) sc_law.nd rfl (Or.inl rfl) (pe_callB call_len_seq (by rfl) (fr_len T) (by decide +kernel) (pa_cons (pv 7) pa_nil)))
  (C8.pss_cut (ps_set (i := 7) sc_law.nd rfl (Or.inl rfl) (pe_op op_cat (pe_op op_cat (pv 7) (pe_lst (pa_cons (pe_op op_add_str pe_str (pe_ix ix_list (pv 5) pe_int (fun _ _ => rfl))) pa_nil))) (pe_lc (own := [("_law_name", 8)]) (g := gName 8) (tt := tYes) rfl sc_law.nd (pi_list (pe_op op_cat (pe_lst (pa_cons pe_str pa_nil)) (pv 5))) (blkOk_by (N := N_law) (sc := defScope s_law) (by decide +kernel)) (fun _ _ _ _ _ => (pg_name (i := 8) sc_law.nd rfl (Or.inl rfl))) (fun _ _ _ _ _ => pts_nil) (fun _ _ _ _ _ => (pe_op op_add_str pe_str (pv 8))))))
  (C8.pss_cut (ps_set (i := 10) sc_law.nd rfl (Or.inl rfl) (pe_cX (cal_read_program T) hr (by decide) rfl passL (pa_cons (pe_bm PySem.F.plainAttrs_str PySem.F.slot_str_join PySem.F.type_str_join mt_join pe_str (pa_cons (pv 7) pa_nil)) pa_nil)))
  (pss_cons (ps_set (i := 11) sc_law.nd rfl (Or.inl rfl) pe_dnewK)
  (C8.pss_cut (ps_for PassesOwn.never rfl (pi_list (pv 5)) (pg_name (i := 8) sc_law.nd rfl (Or.inl rfl))
  (pss_one (ps_dput (hu_of hr) (pv 11) (pv 8) (pe_cX (cal_L_bits T) hr (by decide) rfl passL (pa_cons (pv 2) (pa_cons (pv 3) pa_nil))) rfl)))
  (pss_cons (ps_asg (pe_cX (cal_L_spoilt T) hr (by decide) rfl passL (pa_cons (pv 2) (pa_cons (pv 11) (pa_cons (pv 3) pa_nil)))) (pg_tup rfl (pgs_cons (pg_name (i := 12) sc_law.nd rfl (Or.inl rfl)) (pgs_cons (pg_name (i := 13) sc_law.nd rfl (Or.inr rfl)) pgs_nil))))
  (pss_cons (ps_dput (hu_of hr) (pv 12) pe_str pe_non rfl)
  (C8.pss_cut (ps_set (i := 14) sc_law.nd rfl (Or.inl rfl) (pe_ix ix_list (pe_lc (own := [("_law_name", 8)]) (te := tVar 8) (g := gName 8) (tt := tTest (tOp (rIn K false) (tVar 8) (tVar 13))) rfl sc_law.nd (pi_list (pv 5)) (blkOk_by (N := N_law) (sc := defScope s_law) (by decide +kernel)) (fun _ _ _ _ _ => (pg_name (i := 8) sc_law.nd rfl (Or.inl rfl))) (fun _ _ _ _ _ => (pts_one (pt_cmpR op_in_seq (pv 8) (pv 13) (by with_unfolding_all rfl)))) (fun _ _ _ _ _ => (pv 8))) pe_int (fun _ _ => rfl)))
  (C8.pss_cut (ps_for PassesOwn.never rfl (pi_list (pe_lst (pa_cons pe_int (pa_cons pe_int (pa_cons pe_int pa_nil))))) (pg_name (i := 15) sc_law.nd rfl (Or.inl rfl))
  (pss_cons (ps_set (i := 16) sc_law.nd rfl (Or.inl rfl) (pe_callTy call_dictD (by rfl) (fr_dict T) (by decide +kernel) (pa_cons (pv 12) pa_nil)))
  (pss_one (ps_if (PW.pt (pw_or (pt_cmpR (op_neD (hu64 hr)) (pe_cX (cal_L_told T) hr (by decide) rfl passL (pa_cons (pv 10) (pa_cons (pv 16) (pa_cons (pv 15) pa_nil)))) (pe_tup (pa_cons pe_str (pa_cons (pv 14) pa_nil))) (nomark _)) (pw_or1 (pt_cmpR (op_neDR (hu64 hr)) (pv 16) (pv 12) (nomark _))))) (pss_one (ps_ret pe_bl)) pss_nil))))
  (pss_cons (ps_set (i := 17) sc_law.nd rfl (Or.inl rfl) (pe_callTy call_dictD (by rfl) (fr_dict T) (by decide +kernel) (pa_cons (pv 11) pa_nil)))
  (pss_cons (ps_dput (hu_of hr) (pv 17) pe_str (pe_dget (hu_of hr) (pv 11) (pe_ix ix_list (pv 5) pe_int (fun _ _ => rfl)) (fun _ _ => rfl)) rfl)
  (pss_one (ps_if (PW.pt (pw_or (pt_not (pt_val (pe_cX (cal_L_good T) hr (by decide) rfl passL (pa_cons (pv 10) (pa_cons (pv 5) (pa_cons (pv 11) (pa_cons (pv 9) pa_nil))))))) (pw_or1 (pt_not (pt_val (pe_cX (cal_L_good T) hr (by decide) rfl passL (pa_cons (pv 10) (pa_cons (pv 5) (pa_cons (pv 17) (pa_cons (pv 9) pa_nil)))))))))) (pss_one (ps_ret pe_bl)) pss_nil))))))))))))))))))))
  (pss_one (ps_ret pe_bl)))), ?_⟩
  try dsimp only [cxK]
  obtain ⟨a, ns, rfl, ha, hlen, kq⟩ := h
  walk_at "rd"
  refine r_forI ?_
  walk_at "rd"
  refine r_lenL ha ?_
  walk_at "rd"
  refine ⟨_, _, rfl, ?_⟩
  walk_at "rd"
  refine ⟨_, _, rfl, ?_⟩
  walk_at "rd"
  generalize hcount : (if (if (15 : Int) < ((ns.map V.int).length : Int) then 15 else ((ns.map V.int).length : Int)) > 2 then (if (15 : Int) < ((ns.map V.int).length : Int) then 15 else ((ns.map V.int).length : Int)) else 2) = cc at *
  have c0 : 0 ≤ cc ∧ cc ≤ 15 := by
    rw [← hcount]
    constructor <;> split <;> (try split) <;> omega
  refine ⟨cc, rfl, by omega, by omega, ?_⟩
  refine r_frGo (fun i σ' H' => Same H H' ∧ ∃ o1 o2 o3 o4 o5 o6 o7 o8 o9 o10 o11 o12 o13 o14 o15 o16 o17 : Option V, σ' = [some (.ref a), o1, o2, o3, o4, o5, o6, o7, o8, o9, o10, o11, o12, o13, o14, o15, o16, o17]) ⟨Same.refl _, none, none, none, none, none, none, none, none, none, none, none, none, none, none, none, none, none, rfl⟩ ?_ ?_
  · rintro i σ' H1 hi ⟨s1, o1, o2, o3, o4, o5, o6, o7, o8, o9, o10, o11, o12, o13, o14, o15, o16, o17, rfl⟩
    walk_at "rd"
    refine ⟨a, ns, i, rfl, s1.seqL ha, fun z => ?_⟩
    walk_at "rd"
    refine ⟨z, rfl, fun b H2 hb s2 b2 => ?_⟩
    have keep : ∀ {A B : Hp}, Same H1 A → SameBut b A B → Same H1 B := fun f g c o e => g c o (ne_of_none e hb) (f c o e)
    walk_at "rd"
    refine ⟨b, 29, rfl, b2, by decide, by decide, fun r H3 r0 r29 b3 f3 => ?_⟩
    have s3 := keep s2 f3
    walk_at "rd"
    generalize hw : 4 + r = w
    have w4 : 4 ≤ w := by omega
    have w32 : w ≤ 32 := by omega
    clear hw r0 r29
    refine ⟨b, 5, rfl, b3, by decide, by decide, fun kk H4 k0 k5 b4 f4 => ?_⟩
    obtain ⟨k, rfl⟩ : ∃ k : Nat, kk = (k : Int) := ⟨kk.toNat, by omega⟩
    have s4 := keep s3 f4
    walk_at "rd"
    clear b2 b3 s2 s3 f3 f4
    -- the names
    refine r_cut (fun σ' H' => ∃ pn m, 1 ≤ m ∧ m ≤ 5 ∧ BoxAt H' b ∧ Same H1 H' ∧ H' pn = some (.lst ((nms k m).map V.str)) ∧ pn ≠ b ∧ σ' = s67 a i b w k pn o6 o7 o8 o9 o10 o11 o12 o13 o14 o15 o16 o17) ?_ ?_
    · walk_at "rd"
      refine r_lcRI ?_
      walk_at "rd"
      refine ⟨b, 5, rfl, b4, by decide, by decide, fun mm H5 m0 m5 b5 f5 => ?_⟩
      obtain ⟨m, rfl⟩ : ∃ m : Nat, mm = (m : Int) := ⟨mm.toNat, by omega⟩
      have s5 := keep s4 f5
      walk_at "rd"
      refine ⟨_, rfl, by omega, by omega, ?_⟩
      rw [show (1 + (m : Int)).toNat = m + 1 by omega]
      refine r_lcRg (fun E j H' => Same H5 H' ∧ H5 E = none ∧ H' E = some (.lst ((nms k j).map V.str))) (fun q => rfl) (fun E hE => ⟨Same.new hE, hE, upd_same⟩) (fun E j H' hj q => ?_) (fun pn H6 q => ?_)
      · obtain ⟨a1, a2, a3⟩ := q
        walk_at "rd"
        refine r_newL fun q hq => ?_
        have n1 := Same.new (o := .lst (N5.map V.str)) hq
        have e1 : upd H' q (.lst (N5.map V.str)) q = some (.lst (N5.map V.str)) := upd_same
        rw [show upd H' q (.lst [V.str "b", V.str "bb", V.str "inq", V.str "z", V.str "y"]) = upd H' q (.lst (N5.map V.str)) from rfl]
        have a3' := n1 _ _ a3
        have a1' := a1.trans n1
        generalize upd H' q (.lst (N5.map V.str)) = H7 at *
        walk_at "rd"
        refine r_I (.inl ⟨by decide, by decide⟩) ?_
        walk_at "rd"
        refine r_I (by decide) ?_
        refine r_ixL (SqL.of e1) (N5_at (Int.emod_nonneg _ (by decide)) (Int.emod_lt_of_pos _ (by decide))) ?_
        refine ⟨_, a3', line_lt (by rw [List.length_map, nms_len]; omega), same_updN a1' a2, a2, ?_⟩
        rw [upd_same, nms_next, List.map_append, show (((k : Int) + 2 * (j : Nat)) % 5).toNat = (k + 2 * j) % 5 by omega]
        rfl
      · obtain ⟨a1, a2, a3⟩ := q
        walk_at "rd"
        exact ⟨pn, m + 1, by omega, by omega, b5.same a1, s5.trans a1, a3, b5.fresh a2, rfl⟩
    clear s4 b4
    rintro σ' H4 ⟨pn, m, m1, m5, b4, s4, hn, pnb, q⟩
    unfold s67 at q
    subst q
    obtain ⟨nd, nok⟩ := nms_ok (k := k) (m := m) (by omega) m5
    have nl := nms_len k m
    generalize nms k m = nm at *
    -- the lines of the inputs
    walk_at "rd"
    refine r_strI (log_ok' (by omega) (by omega)) ?_
    walk_at "rd"
    obtain ⟨-, -, l3, l1, l10, l4, l6⟩ := lits67
    have lw : (Str.ofString (toString w)).length ≤ 10 := num_small (i := w) (by omega) (by omega)
    refine ⟨line_le (by omega), ?_⟩
    walk_at "rd"
    rw [show ("width " : Str) ++ Str.ofString (toString w) = lnT (.width w) from ln_width w]
    refine r_newL fun pl hpl => ?_
    have n5 := Same.new (o := .lst [V.str (lnT (.width w))]) hpl
    have e5 : upd H4 pl (.lst [V.str (lnT (.width w))]) pl = some (.lst [V.str (lnT (.width w))]) := upd_same
    have b5 := b4.same n5
    have hn5 := n5 _ _ hn
    have s5 := s4.trans n5
    have plb := b4.fresh hpl
    have pnl : pn ≠ pl := ne_of_none hn hpl
    have plH : ∀ x o, H1 x = some o → x ≠ pl := fun x o e => ne_of_none (s4 _ _ e) hpl
    have bH : ∀ x o, H1 x = some o → x ≠ b := fun x o e => ne_of_none e hb
    generalize upd H4 pl (.lst [V.str (lnT (.width w))]) = H5 at *
    clear n5 hpl
    walk_at "rd"
    refine r_cut (fun σ' H' => ∃ ins : List (Str × KindM), ins.map Prod.fst = nm ∧ (∀ x ∈ ins, x.2.Good ∧ x.2.w = w) ∧ BoxAt H' b ∧ Same H1 H' ∧ H' pn = some (.lst (nm.map V.str)) ∧ H' pl = some (.lst ((insL w ins).map V.str)) ∧ ∃ z8, σ' = s67 a i b w k pn o6 (some (.ref pl)) z8 o9 o10 o11 o12 o13 o14 o15 o16 o17) ?_ ?_
    · refine r_forLv rfl (SqL.of hn5) ⟨fun j σ' H' => ∃ ins : List (Str × KindM), ins.map Prod.fst = nm.take j ∧ (∀ x ∈ ins, x.2.Good ∧ x.2.w = w) ∧ BoxAt H' b ∧ Same H1 H' ∧ H' pn = some (.lst (nm.map V.str)) ∧ H' pl = some (.lst ((insL w ins).map V.str)) ∧ ∃ z8, σ' = s67 a i b w k pn o6 (some (.ref pl)) z8 o9 o10 o11 o12 o13 o14 o15 o16 o17,
        ⟨[], rfl, (fun x h => by cases h), b5, s5, hn5, e5, _, rfl⟩, fun j σ' H' ⟨ins, _, _, _, _, h, _⟩ => SqL.of h, fun j y σ' H' hy q => ?_, fun σ' H' q => ?_⟩
      · obtain ⟨ins, q1, q2, q3, q4, q5, q6, z8, q⟩ := q
        unfold s67 at q
        subst q
        obtain ⟨n, hn', rfl⟩ : ∃ n, nm[j]? = some n ∧ y = V.str n := by
          rw [List.getElem?_map] at hy
          cases e : nm[j]? with
          | none => rw [e] at hy; cases hy
          | some y => rw [e] at hy; exact ⟨y, rfl, (Option.some.inj hy).symm⟩
        have hjl := (List.getElem?_eq_some_iff.mp hn').1
        have nln := (name_signs (nok n (List.mem_of_getElem? hn')).1).1
        have il : ins.length = j := by have := congrArg List.length q1; rw [List.length_map, List.length_take] at this; omega
        walk_at "rd"
        refine r_tyL (SqL.of q6) ?_
        walk_at "rd"
        refine ⟨line_le (by omega), ?_⟩
        walk_at "rd"
        refine ⟨line_le (by rw [lenApp]; omega), ?_⟩
        walk_at "rd"
        refine ⟨b, w, rfl, q3, w4, w32, fun sa kd H6 hg hkw b6 f6 hS => ?_⟩
        walk_at "rd"
        refine ⟨sa, kd, rfl, hS, hg, fun H7 s7 => ?_⟩
        have lk := kw_len hg
        walk_at "rd"
        refine ⟨line_le (by rw [lenApp, lenApp]; omega), ?_⟩
        rw [ln_in67 hg]
        have q6' := s7 _ _ (f6 _ _ plb q6)
        have q5' := s7 _ _ (f6 _ _ pnb q5)
        have b7 := b6.same s7
        have q4' : Same H1 H7 := fun x o e => s7 _ _ (f6 _ _ (bH x o e) (q4 _ _ e))
        walk_at "rd"
        refine r_app q6' (by unfold insL; rw [List.length_map, List.length_cons, List.length_map]; omega) ?_
        walk_at "rd"
        obtain ⟨bx, by', bz, eb⟩ := b7
        refine ⟨ins ++ [(n, kd)], by rw [List.map_append, q1, List.take_add_one, hn']; rfl, fun x hx => ?_, ⟨bx, by', bz, by rw [upd_ne plb.symm]; exact eb⟩, fun x o e => by rw [upd_ne (plH x o e)]; exact q4' _ _ e, by rw [upd_ne pnl]; exact q5', ?_, _, rfl⟩
        · rcases List.mem_append.mp hx with hx | hx
          · exact q2 x hx
          · rw [List.mem_singleton.mp hx]; exact ⟨hg, hkw⟩
        · rw [upd_same]
          unfold insL
          simp only [List.map_append, List.map_cons, List.map_nil, List.cons_append]
      · obtain ⟨ins, q1, q⟩ := q
        rw [List.length_map, List.take_length] at q1
        exact ⟨ins, q1, q⟩
    clear b5 s5 hn5 e5 b4 s4 hn
    rintro σ' H5 ⟨ins, ins1, ins2, b5, s5, hn5, e5, z8, q⟩
    unfold s67 at q
    subst q
    have il : ins.length = m := by have := congrArg List.length ins1; rw [List.length_map] at this; omega
    obtain ⟨n0, kd0, rr, rfl⟩ : ∃ n0 kd0 rr, ins = (n0, kd0) :: rr := by
      cases ins with
      | nil => simp at il; omega
      | cons x rr => obtain ⟨n0, kd0⟩ := x; exact ⟨n0, kd0, rr, rfl⟩
    have enm : nm = n0 :: rr.map Prod.fst := ins1.symm
    subst enm
    have C : C67 w n0 kd0 rr := ⟨w4, w32, fun x hx => by
      have hm : x.1 ∈ n0 :: rr.map Prod.fst := List.mem_map (l := (n0, kd0) :: rr) |>.mpr ⟨x, hx, rfl⟩
      exact ⟨(nok _ hm).1, (nok _ hm).2.1, (ins2 x hx).1, (ins2 x hx).2⟩, nd, by simp only [List.length_cons] at il; omega⟩
    have S := star67 C
    have hl0 := (name_signs (nok n0 List.mem_cons_self).1).1
    have l5 := C.l5
    have ill : (insL w ((n0, kd0) :: rr)).length = rr.length + 2 := by unfold insL; simp
    walk_at "rd"
    refine r_lenL (SqL.of e5) ?_
    walk_at "rd"
    rw [List.length_map, ill, show ((rr.length + 2 : Nat) : Int) = 1 + (((n0, kd0) :: rr).length : Int) by simp only [List.length_cons]; omega]
    refine r_cut (fun σ' H' => ∃ pl2, BoxAt H' b ∧ Same H1 H' ∧ H' pn = some (.lst ((n0 :: rr.map Prod.fst).map V.str)) ∧ H' pl2 = some (.lst (((flatL w ((n0, kd0) :: rr) [rowZ n0] (outs67 n0 rr)).map lnT).map V.str)) ∧
      ∃ z8, σ' = s67 a i b w k pn o6 (some (.ref pl2)) z8 (some (.int (1 + (((n0, kd0) :: rr).length : Int)))) o10 o11 o12 o13 o14 o15 o16 o17) ?_ ?_
    · walk_at "rd"
      refine r_ixL (SqL.of hn5) (show atI ((n0 :: rr.map Prod.fst).map V.str) 0 = some (V.str n0) from at0) ?_
      walk_at "rd"
      refine ⟨line_le (by omega), ?_⟩
      walk_at "rd"
      refine r_newL fun q6 h6 => ?_
      have n6 := Same.new (o := .lst [V.str (("zz = copy " : Str) ++ n0)]) h6
      have e6 : upd H5 q6 (.lst [V.str (("zz = copy " : Str) ++ n0)]) q6 = some (.lst (([("zz = copy " : Str) ++ n0] : List Str).map V.str)) := upd_same
      have e56 := n6 _ _ e5
      have hn6 := n6 _ _ hn5
      have b6 := b5.same n6
      have s6 := s5.trans n6
      generalize upd H5 q6 (.lst [V.str (("zz = copy " : Str) ++ n0)]) = H6 at *
      refine r_cat e56 e6 (by rw [List.length_map, List.length_map, ill]; show rr.length + 2 + 1 ≤ _; omega) fun q7 h7 => ?_
      rw [← List.map_append]
      have n7 := Same.new (o := .lst ((insL w ((n0, kd0) :: rr) ++ ([("zz = copy " : Str) ++ n0] : List Str)).map V.str)) h7
      have e7 : upd H6 q7 (.lst ((insL w ((n0, kd0) :: rr) ++ ([("zz = copy " : Str) ++ n0] : List Str)).map V.str)) q7 = some (.lst ((insL w ((n0, kd0) :: rr) ++ ([("zz = copy " : Str) ++ n0] : List Str)).map V.str)) := upd_same
      have hn7 := n7 _ _ hn6
      have b7 := b6.same n7
      have s7 := s6.trans n7
      generalize upd H6 q7 (.lst ((insL w ((n0, kd0) :: rr) ++ ([("zz = copy " : Str) ++ n0] : List Str)).map V.str)) = H7 at *
      clear n6 n7 e6 e56 hn6 b6 s6 e5 hn5 b5 s5 h6 h7
      walk_at "rd"
      refine r_lcI ?_
      walk_at "rd"
      refine r_newL fun q8 h8 => ?_
      have n8 := Same.new (o := .lst [V.str "zz"]) h8
      have e8 : upd H7 q8 (.lst [V.str "zz"]) q8 = some (.lst ((["zz"] : List Str).map V.str)) := upd_same
      have e78 := n8 _ _ e7
      have hn8 := n8 _ _ hn7
      have b8 := b7.same n8
      have s8 := s7.trans n8
      generalize upd H7 q8 (.lst [V.str "zz"]) = H8 at *
      walk_at "rd"
      refine r_cat e8 hn8 (by simp only [List.length_map, List.length_cons, List.length_nil]; omega) fun q9 h9 => ?_
      rw [← List.map_append]
      have n9 := Same.new (o := .lst ((outs67 n0 rr).map V.str)) h9
      have e9 : upd H8 q9 (.lst ((outs67 n0 rr).map V.str)) q9 = some (.lst ((outs67 n0 rr).map V.str)) := upd_same
      rw [show (["zz"] : List Str) ++ (n0 :: rr.map Prod.fst) = outs67 n0 rr from rfl]
      have e79 := n9 _ _ e78
      have hn9 := n9 _ _ hn8
      have b9 := b8.same n9
      have s9 := s8.trans n9
      generalize upd H8 q9 (.lst ((outs67 n0 rr).map V.str)) = H9 at *
      clear n8 n9 e8 e78 hn8 b8 s8 e7 hn7 b7 s7 h8 h9
      have ol : (outs67 n0 rr).length = rr.length + 2 := by unfold outs67; simp
      refine ⟨q9, rfl, ?_⟩
      refine r_lcL (SqL.of e9) (fun E j H' => Same H9 H' ∧ H9 E = none ∧ H' E = some (.lst ((((outs67 n0 rr).take j).map (fun n => ("out " : Str) ++ n)).map V.str))) (fun q => rfl) (fun E hE => ⟨Same.new hE, hE, upd_same⟩) (fun E j H' q => SqL.of (q.1 _ _ e9)) (fun E j x H' hx q => ?_) (fun pO HO q => ?_)
      · obtain ⟨a1, a2, a3⟩ := q
        obtain ⟨n, hbn, rfl⟩ : ∃ n, (outs67 n0 rr)[j]? = some n ∧ x = V.str n := by
          rw [List.getElem?_map] at hx
          cases e : (outs67 n0 rr)[j]? with
          | none => rw [e] at hx; cases hx
          | some y => rw [e] at hx; exact ⟨y, rfl, (Option.some.inj hx).symm⟩
        have hjl := (List.getElem?_eq_some_iff.mp hbn).1
        have nln : n.length ≤ 6 := by
          rcases outs67_mem (k0 := kd0) (List.mem_of_getElem? hbn) with rfl | ⟨x2, hx2, rfl⟩
          · decide +kernel
          · exact (name_signs (C.hi x2 hx2).1).1
        walk_at "rd"
        refine ⟨line_le (by omega), ?_⟩
        refine ⟨_, a3, line_lt (by rw [List.length_map, List.length_map, List.length_take]; omega), same_updN a1 a2, a2, ?_⟩
        rw [upd_same, take_map hbn, List.map_append]; rfl
      · obtain ⟨sO, nO, eO⟩ := q
        rw [List.length_map, List.take_length] at eO
        refine r_cat (sO _ _ e79) eO (by simp only [List.length_map, List.length_append, List.length_cons, List.length_nil, ill, ol]; omega) fun q10 h10 => ?_
        rw [← List.map_append, ← lines67_eq]
        have n10 := Same.new (o := .lst (((flatL w ((n0, kd0) :: rr) [rowZ n0] (outs67 n0 rr)).map lnT).map V.str)) h10
        walk_at "rd"
        exact ⟨q10, (b9.same sO).same n10, (s9.trans sO).trans n10, n10 _ _ (sO _ _ hn9), upd_same, _, rfl⟩
    clear b5 s5 hn5 e5 z8
    rintro σ' H5 ⟨pl2, b5, s5, hn5, e5, z8, q⟩
    unfold s67 at q
    subst q
    refine r_cut (fun σ' H' => ∃ pg, BoxAt H' b ∧ Same H1 H' ∧ H' pn = some (.lst ((n0 :: rr.map Prod.fst).map V.str)) ∧ ProgAt K H' pg (PM67 w n0 kd0 rr) ∧
      ∃ z7 z8, σ' = s67 a i b w k pn o6 z7 z8 (some (.int (1 + (((n0, kd0) :: rr).length : Int)))) (some (.ref pg)) o11 o12 o13 o14 o15 o16 o17) ?_ ?_
    · obtain ⟨r1, r2, r3⟩ := reads67 C
      have lok : ∀ l ∈ flatL w ((n0, kd0) :: rr) [rowZ n0] (outs67 n0 rr), LnOk l := fun l hl => by
        unfold flatL at hl
        rcases List.mem_cons.mp hl with rfl | hl
        · exact S.lns _ (by unfold flatL; simp)
        rcases List.mem_append.mp hl with hl | hl
        · exact S.lns _ (by unfold flatL; exact List.mem_cons_of_mem _ (List.mem_append_left _ hl))
        rcases List.mem_append.mp hl with hl | hl
        · exact S.lns _ (by unfold flatL; exact List.mem_cons_of_mem _ (List.mem_append_right _ (List.mem_append_left _ hl)))
        · obtain ⟨n, hn', rfl⟩ := List.mem_map.mp hl
          have hname : isName n = true := by
            rcases outs67_mem (k0 := kd0) hn' with rfl | ⟨x, hx, rfl⟩
            · decide +kernel
            · exact (C.hi x hx).1
          refine ⟨fun w' hw' => ?_, (fun z => nomatch z), (by decide : 2 ≤ 10)⟩
          rcases List.mem_cons.mp hw' with rfl | hw'
          · exact wordOk_of (by decide +kernel)
          · rw [List.mem_singleton.mp hw']; exact word_name hname
      have fl : (flatL w ((n0, kd0) :: rr) [rowZ n0] (outs67 n0 rr)).length ≤ 60 := by
        unfold flatL outs67
        simp only [List.length_cons, List.length_append, List.length_map, List.length_nil]
        omega
      have TO := textOk lok (fun z => nomatch z) fl
      have q := sum_le2 (f := fun x : Str => x.length) (k := 310) (l := (flatL w ((n0, kd0) :: rr) [rowZ n0] (outs67 n0 rr)).map lnT) fun w' hw' => by
        obtain ⟨l, h, rfl⟩ := List.mem_map.mp hw'
        exact lnT_len (lok l h)
      have ll : ("\n" : Str).length = 1 := by decide +kernel
      rw [List.length_map] at q
      have q2 := Nat.mul_le_mul_right 310 fl
      walk_at "rd"
      refine ⟨rfl, ?_⟩
      walk_at "rd"
      refine ⟨"\n", pl2, _, rfl, rfl, .inl (SqL.of e5), by rw [ll, List.length_map]; omega, ?_⟩
      walk_at "rd"
      refine ⟨_, _, rfl, TO, r1, r2, fun pa H18 s18 _ hP => ?_⟩
      rw [r3] at hP
      walk_at "rd"
      exact ⟨pa, b5.same s18, s5.trans s18, s18 _ _ hn5, hP, _, _, rfl⟩
    clear b5 s5 hn5 e5
    rintro σ' H5 ⟨pg, b5, s5, hn5, hP5, z7, z8, q⟩
    unfold s67 at q
    subst q
    -- the words
    walk_at "rd"
    intro pw hpw
    have n6 := Same.new (o := .dK []) hpw
    have e6 : upd H5 pw (.dK []) pw = some (.dK []) := upd_same
    have b6 := b5.same n6
    have hn6 := n6 _ _ hn5
    have hP6 := hP5.on n6
    have s6 := s5.trans n6
    have pwb := b5.fresh hpw
    have pwn : pn ≠ pw := ne_of_none hn5 hpw
    have pwH : ∀ x o, H1 x = some o → x ≠ pw := fun x o e => ne_of_none (s5 _ _ e) hpw
    generalize upd H5 pw (.dK []) = H6 at *
    walk_at "rd"
    have k56 : Keeps H5 H6 := fun x o e _ => n6 x o e
    have pwK : ∀ x o, H5 x = some o → x ≠ pw := fun x o e => ne_of_none e hpw
    have kB : ∀ {A B : Hp}, Keeps H5 A → BoxAt A b → SameBut b A B → Keeps H5 B := fun k hb f x o e n => SameBut.keeps hb f x o (k x o e n) n
    have kS : ∀ {A B : Hp}, Keeps H5 A → Same A B → Keeps H5 B := fun k f x o e n => f x o (k x o e n)
    clear n6
    refine r_cut (fun σ' H' => ∃ ib : Str → Int, (∀ n ∈ n0 :: rr.map Prod.fst, 0 ≤ ib n ∧ ib n < 2 ^ w.toNat) ∧ BoxAt H' b ∧ Same H1 H' ∧ Keeps H5 H' ∧ H' pw = some (.dK (dueK ib (n0 :: rr.map Prod.fst))) ∧
      ∃ z8, σ' = s67 a i b w k pn o6 z7 z8 (some (.int (1 + (((n0, kd0) :: rr).length : Int)))) (some (.ref pg)) (some (.ref pw)) o12 o13 o14 o15 o16 o17) ?_ ?_
    · refine r_forLv rfl (SqL.of (k56 _ _ hn5 (nb_strs _))) ⟨fun j σ' H' => ∃ ib : Str → Int, (∀ n ∈ (n0 :: rr.map Prod.fst).take j, 0 ≤ ib n ∧ ib n < 2 ^ w.toNat) ∧ BoxAt H' b ∧ Same H1 H' ∧ Keeps H5 H' ∧ H' pw = some (.dK (dueK ib ((n0 :: rr.map Prod.fst).take j))) ∧
        ∃ z8, σ' = s67 a i b w k pn o6 z7 z8 (some (.int (1 + (((n0, kd0) :: rr).length : Int)))) (some (.ref pg)) (some (.ref pw)) o12 o13 o14 o15 o16 o17,
        ⟨fun _ => 0, (fun x h => by cases h), b6, s6, k56, e6, _, rfl⟩, fun j σ' H' ⟨ib, _, _, _, h, _⟩ => SqL.of (h _ _ hn5 (nb_strs _)), fun j y σ' H' hy q => ?_, fun σ' H' q => ?_⟩
      · obtain ⟨ib, q1, q2, q3, q4, q6, z8, q⟩ := q
        unfold s67 at q
        subst q
        obtain ⟨n, hn', rfl⟩ : ∃ n, (n0 :: rr.map Prod.fst)[j]? = some n ∧ y = V.str n := by
          rw [List.getElem?_map] at hy
          cases e : (n0 :: rr.map Prod.fst)[j]? with
          | none => rw [e] at hy; cases hy
          | some y => rw [e] at hy; exact ⟨y, rfl, (Option.some.inj hy).symm⟩
        have hjl := (List.getElem?_eq_some_iff.mp hn').1
        have nin := outs_take nd hn'
        walk_at "rd"
        refine ⟨b, w, rfl, q2, w4, w32, fun v H7 v0 vB b7 f7 => ?_⟩
        have q4' := kB q4 q2 f7
        have q6' := f7 _ _ pwb q6
        have q3' : Same H1 H7 := fun x o e => f7 _ _ (bH x o e) (q3 _ _ e)
        walk_at "rd"
        refine r_dputS q6' (by unfold dueK; rw [List.length_map, List.length_take]; simp only [List.length_cons, List.length_map]; omega) ?_
        rw [putK_new _ (dueK_none nin)]
        have ed : dueK ib ((n0 :: rr.map Prod.fst).take j) ++ [((Sum.inr n : Key), V.int v)] = dueK (fun x => if x = n then v else ib x) ((n0 :: rr.map Prod.fst).take (j + 1)) := by
          unfold dueK
          rw [take_map hn']
          congr 1
          · refine List.map_congr_left fun x hx => ?_
            show _ = ((Sum.inr x : Key), V.int (if x = n then v else ib x))
            rw [if_neg (fun z : x = n => nin (by rw [← z]; exact hx))]
          · show _ = [((Sum.inr n : Key), V.int (if n = n then v else ib n))]
            rw [if_pos rfl]
        rw [ed]
        obtain ⟨bx, by', bz, eb⟩ := b7
        refine ⟨fun x => if x = n then v else ib x, fun x hx => ?_, ⟨bx, by', bz, by rw [upd_ne pwb.symm]; exact eb⟩, fun x o e => by rw [upd_ne (pwH x o e)]; exact q3' _ _ e, fun x o e n => by rw [upd_ne (pwK x o e)]; exact q4' _ _ e n, upd_same, _, rfl⟩
        show 0 ≤ (if x = n then v else ib x) ∧ (if x = n then v else ib x) < _
        by_cases c : x = n
        · rw [if_pos c]; exact ⟨v0, vB⟩
        · rw [if_neg c]
          refine q1 x ?_
          rw [List.take_add_one, hn'] at hx
          exact (List.mem_append.mp hx).resolve_right fun z => c (List.mem_singleton.mp z)
      · obtain ⟨ib, q1, q2, q3, q4, q6, q7⟩ := q
        rw [List.length_map, List.take_length] at q1 q6
        exact ⟨ib, q1, q2, q3, q4, q6, q7⟩
    clear b6 s6 k56 e6 hn6 hP6 z8
    rintro σ' H6 ⟨ib, hib, b6, s6, k6, ew, z8, q⟩
    unfold s67 at q
    subst q
    -- spoilt
    walk_at "rd"
    refine ⟨b, pw, w, _, _, rfl, b6, w4, w32, ew, dueK_keys, (fun z => nomatch z), by simp only [List.length_cons, List.length_map]; omega, by unfold KeysNd; rw [dueK_keys]; exact nd_inr nd, fun p hp => (by obtain ⟨v, e⟩ := dueK_mem p hp; exact .inl (by rw [e]; rfl)), fun t pin ps kvs sp H7 b7 f7 et epin eps hpin kvl sp0 S7 => ?_⟩
    refine r_gT2 (SqT.of et) ?_
    have k7 := kB k6 b6 f7
    have ew7 := f7 _ _ pwb ew
    have s7 : Same H1 H7 := fun x o e => f7 _ _ (bH x o e) (s6 _ _ e)
    have pinK : ∀ x o, H5 x = some o → NotBox o → x ≠ pin := fun x o e n => ne_of_none (k6 x o e n) hpin
    have pinH : ∀ x o, H1 x = some o → x ≠ pin := fun x o e => ne_of_none (s6 x o e) hpin
    have pwpin : pw ≠ pin := ne_of_none ew hpin
    have pspin : ps ≠ pin := fun z => by rw [z, epin] at eps; cases eps
    walk_at "rd"
    refine r_dputS epin (by omega) ?_
    have k8 : Keeps H5 (upd H7 pin (.dK (putK kvs (Sum.inr "zz") .non))) := fun x o e n => by rw [upd_ne (pinK x o e n)]; exact k7 x o e n
    have s8 : Same H1 (upd H7 pin (.dK (putK kvs (Sum.inr "zz") .non))) := fun x o e => by rw [upd_ne (pinH x o e)]; exact s7 x o e
    have ew8 : upd H7 pin (.dK (putK kvs (Sum.inr "zz") .non)) pw = some (.dK (dueK ib (n0 :: rr.map Prod.fst))) := by rw [upd_ne pwpin]; exact ew7
    have eps8 : upd H7 pin (.dK (putK kvs (Sum.inr "zz") .non)) ps = some (.lst (sp.map V.str)) := by rw [upd_ne pspin]; exact eps
    have epin8 : upd H7 pin (.dK (putK kvs (Sum.inr "zz") .non)) pin = some (.dK (putK kvs (Sum.inr "zz") .non)) := upd_same
    have S8 := S7.move (H' := upd H7 pin (.dK (putK kvs (Sum.inr "zz") .non))) fun c o hc _ e => by rw [upd_ne (fun z => hc (by rw [z]; simp))]; exact e
    have zzn : ∀ n ∈ n0 :: rr.map Prod.fst, n ≠ "zz" := fun n hn => (nok n hn).2.1
    have vz : ∀ n : Str, n ≠ "zz" → valV (putK kvs (Sum.inr "zz") .non) (Sum.inr n) = valV kvs (Sum.inr n) := fun n hn => by rw [valV_put, if_neg fun z => hn (Sum.inr.inj z)]
    have nd8 : KeysNd (putK kvs (Sum.inr "zz") .non) := keys_put S8.nd
    have fl8 : ∀ p ∈ putK kvs (Sum.inr "zz") .non, flatR p.2 := fun p hp => by
      rcases mem_put hp with hp | hp
      · exact S8.fl p hp
      · rw [hp]; exact .inl rfl
    generalize upd H7 pin (.dK (putK kvs (Sum.inr "zz") .non)) = H8 at *
    generalize putK kvs (Sum.inr "zz") .non = kvz at *
    clear k7 ew7 s7 epin eps S7 et f7 b7 b6 s6 k6 ew hpin kvl
    have hn8 := k8 _ _ hn5 (nb_strs _)
    refine r_cut (fun σ' H' => ∃ due j kd, ((n0, kd0) :: rr)[j]? = some (due, kd) ∧ due ∈ sp ∧ (∀ (i' : Nat) (y : Str × KindM), i' < j → ((n0, kd0) :: rr)[i']? = some y → y.1 ∉ sp) ∧ Same H8 H' ∧
      ∃ z8, σ' = s67 a i b w k pn o6 z7 z8 (some (.int (1 + (((n0, kd0) :: rr).length : Int)))) (some (.ref pg)) (some (.ref pw)) (some (.ref pin)) (some (.ref ps)) (some (.str due)) o15 o16 o17) ?_ ?_
    · walk_at "rd"
      refine r_lcLT rfl (SqL.of hn8) (fun E j H' => Same H8 H' ∧ H8 E = none ∧ H' E = some (.lst ((((n0 :: rr.map Prod.fst).take j).filter fun n => decide (n ∈ sp)).map V.str))) (fun q => rfl) (fun E hE => ⟨Same.new hE, hE, upd_same⟩) (fun E j H' q => SqL.of (q.1 _ _ hn8)) (fun E j x H' hx q => ?_) (fun pE HE q => ?_)
      · obtain ⟨a1, a2, a3⟩ := q
        obtain ⟨n, hbn, rfl⟩ : ∃ n, (n0 :: rr.map Prod.fst)[j]? = some n ∧ x = V.str n := by
          rw [List.getElem?_map] at hx
          cases e : (n0 :: rr.map Prod.fst)[j]? with
          | none => rw [e] at hx; cases hx
          | some y => rw [e] at hx; exact ⟨y, rfl, (Option.some.inj hx).symm⟩
        have hjl := (List.getElem?_eq_some_iff.mp hbn).1
        walk_at "rd"
        refine r_inLs (SqL.of (a1 _ _ eps8)) ?_
        walk_at "rd"
        refine r_iteD (fun c => ?_) (fun c => ?_)
        · walk_at "rd"
          have fl := List.length_filter_le (fun n => decide (n ∈ sp)) ((n0 :: rr.map Prod.fst).take j)
          rw [List.length_take] at fl
          refine ⟨_, a3, line_lt (by rw [List.length_map]; simp only [List.length_cons, List.length_map] at fl hjl; omega), same_updN a1 a2, a2, ?_⟩
          rw [upd_same, List.take_add_one, hbn, List.filter_append]
          show some (HO.lst _) = some (HO.lst (List.map V.str (_ ++ List.filter _ [n])))
          rw [List.filter_cons, if_pos (decide_eq_true c), List.map_append]
          rfl
        · refine ⟨a1, a2, ?_⟩
          rw [a3, List.take_add_one, hbn, List.filter_append]
          show _ = some (HO.lst (List.map V.str (_ ++ List.filter _ [n])))
          rw [List.filter_cons, if_neg (by simpa using c), List.filter_nil, List.append_nil]
      · obtain ⟨a1, a2, a3⟩ := q
        rw [List.length_map, List.take_length] at a3
        cases hF : (n0 :: rr.map Prod.fst).filter fun n => decide (n ∈ sp) with
        | nil =>
          exfalso
          obtain ⟨n, hn⟩ := List.exists_mem_of_ne_nil sp sp0
          have : n ∈ (n0 :: rr.map Prod.fst).filter fun n => decide (n ∈ sp) := List.mem_filter.mpr ⟨S8.sub n hn, decide_eq_true hn⟩
          rw [hF] at this; cases this
        | cons due tl =>
          rw [hF] at a3
          obtain ⟨j, e1, e2, e3⟩ := filter_head hF
          walk_at "rd"
          refine r_ixL (SqL.of a3) (show atI ((due :: tl).map V.str) 0 = some (V.str due) from at0) ?_
          have e1 : (((n0, kd0) :: rr).map Prod.fst)[j]? = some due := e1
          rw [List.getElem?_map] at e1
          obtain ⟨x, ex, exd⟩ := Option.map_eq_some_iff.mp e1
          obtain ⟨dn, dk⟩ := x
          obtain rfl : dn = due := exd
          walk_at "rd"
          refine ⟨dn, j, dk, ex, of_decide_eq_true e2, fun i' y hi' ey => ?_, a1, _, rfl⟩
          have := e3 i' y.1 hi' (by
            show (((n0, kd0) :: rr).map Prod.fst)[i']? = some y.1
            rw [List.getElem?_map, ey]; rfl)
          simpa using this
    clear z8
    rintro σ' H9 ⟨due, j, kd, ed, eds, edb, s9, z8, q⟩
    unfold s67 at q
    subst q
    have k9 := kS k8 s9
    have ew9 := s9 _ _ ew8
    have epin9 := s9 _ _ epin8
    have s19 := s8.trans s9
    have hn9 := k9 _ _ hn5 (nb_strs _)
    have hP9 := hP5.but k9 few67
    have S9 := S8.move (H' := H9) fun c o _ _ e => s9 _ _ e
    have dmem : due ∈ n0 :: rr.map Prod.fst := show due ∈ ((n0, kd0) :: rr).map Prod.fst from List.mem_map.mpr ⟨(due, kd), List.mem_of_getElem? ed, rfl⟩
    have BAD : InBad H9 [pin, ps] (PM67 w n0 kd0 rr) (fun n => (valV kvz (Sum.inr n)).getD .non) due := by
      refine ⟨j, kd, ed, fun i' y hi' ey => ?_, ?_⟩
      · have ym : y.1 ∈ n0 :: rr.map Prod.fst := List.mem_map (l := (n0, kd0) :: rr) |>.mpr ⟨y, List.mem_of_getElem? ey, rfl⟩
        refine ⟨ib y.1, ?_, hib _ ym⟩
        show (valV kvz (Sum.inr y.1)).getD .non = _
        rw [vz _ (zzn _ ym), S9.old _ (edb i' y hi' ey), dueK_val ym]; rfl
      · show OddV H9 w _ ((valV kvz (Sum.inr due)).getD .non)
        rw [vz _ (zzn _ dmem)]
        exact S9.odd due eds
    have lowd : lowS due := low_name (nok due dmem).1
    have lown : lowS ("none" : Str) := by unfold lowS; decide +kernel
    clear k8 ew8 epin8 s8 eps8 S8 s9 hn8
    walk_at "rd"
    refine r_cut (fun σ' H' => Same H9 H' ∧ ∃ z15 z16, σ' = s67 a i b w k pn o6 z7 z8 (some (.int (1 + (((n0, kd0) :: rr).length : Int)))) (some (.ref pg)) (some (.ref pw)) (some (.ref pin)) (some (.ref ps)) (some (.str due)) z15 z16 o17) ?_ ?_
    · refine r_forLI ?_
      walk_at "rd"
      refine r_newL fun ql hql => ?_
      have n10 := Same.new (o := .lst [V.int 0, V.int 1, V.int 0]) hql
      have e10 : upd H9 ql (.lst [V.int 0, V.int 1, V.int 0]) ql = some (.lst [V.int 0, V.int 1, V.int 0]) := upd_same
      generalize upd H9 ql (.lst [V.int 0, V.int 1, V.int 0]) = H10 at *
      refine ⟨ql, rfl, LsGo.of (xs := [V.int 0, V.int 1, V.int 0]) (SqL.of e10) ⟨fun j' σ' H' => Same H10 H' ∧ ∃ z15 z16, σ' = s67 a i b w k pn o6 z7 z8 (some (.int (1 + (((n0, kd0) :: rr).length : Int)))) (some (.ref pg)) (some (.ref pw)) (some (.ref pin)) (some (.ref ps)) (some (.str due)) z15 z16 o17,
        ⟨Same.refl _, _, _, rfl⟩, fun j' σ' H' q => SqL.of (q.1 _ _ e10), fun j' x σ' H' hx q => ?_, fun σ' H' q => ⟨n10.trans q.1, q.2⟩⟩⟩
      obtain ⟨s11, z15, z16, q⟩ := q
      unfold s67 at q
      subst q
      obtain ⟨way, rfl⟩ : ∃ way : Int, x = V.int way := by
        match j', hx with
        | 0, hx => exact ⟨0, (Option.some.inj hx).symm⟩
        | 1, hx => exact ⟨1, (Option.some.inj hx).symm⟩
        | 2, hx => exact ⟨0, (Option.some.inj hx).symm⟩
        | j' + 3, hx => exact absurd hx (by simp)
      have s911 := n10.trans s11
      have ep11 := s911 _ _ epin9
      walk_at "rd"
      refine ⟨pin, kvz, rfl, .inl ep11, fun ph hph => ?_⟩
      have n12 := Same.new (o := .dK kvz) hph
      have e12 : upd H' ph (.dK kvz) ph = some (.dK kvz) := upd_same
      have s912 := s911.trans n12
      have s1012 := s11.trans n12
      have ep12 := n12 _ _ ep11
      generalize upd H' ph (.dK kvz) = H12 at *
      walk_at "rd"
      refine ⟨pg, ph, way, PM67 w n0 kd0 rr, kvz, _, due, [pin, ps], rfl, ⟨hP9.on s912, e12, w4, w32, by show rr.length + 1 ≤ 1000; omega, fun x _ => rfl⟩, BAD.on s912, fun q H13 s13 hq eq => ?_⟩
      walk_at "rd"
      refine r_newL fun t2 ht2 => ?_
      have n14 := Same.new (o := .tup [V.str "none", V.str due]) ht2
      refine r_neTT (n14 _ _ eq) upd_same lown lowd ?_
      have s14 := s13.trans n14
      generalize upd H13 t2 (.tup [V.str "none", V.str due]) = H14 at *
      walk_at "rd"
      refine ⟨ph, pin, kvz, kvz, rfl, rfl, s14 _ _ e12, s14 _ _ ep12, rfl, fun p hp => ⟨val_nodup nd8 p hp, fl8 p hp⟩, ?_⟩
      walk_at "rd"
      exact ⟨s1012.trans s14, _, _, rfl⟩
    rintro σ' H10 ⟨s910, z15, z16, q⟩
    unfold s67 at q
    subst q
    have ew10 := s910 _ _ ew9
    have hn10 := s910 _ _ hn9
    have hP10 := hP9.on s910
    have s110 := s19.trans s910
    clear BAD hP9 k9 ew9 epin9 s19 hn9 S9 s910
    walk_at "rd"
    refine ⟨pw, _, rfl, .inl ew10, fun pb hpb => ?_⟩
    have n11 := Same.new (o := .dK (dueK ib (n0 :: rr.map Prod.fst))) hpb
    have e11 : upd H10 pb (.dK (dueK ib (n0 :: rr.map Prod.fst))) pb = some (.dK (dueK ib (n0 :: rr.map Prod.fst))) := upd_same
    have ew11 := n11 _ _ ew10
    have hn11 := n11 _ _ hn10
    have pbH : ∀ x o, H10 x = some o → x ≠ pb := fun x o e => ne_of_none e hpb
    generalize upd H10 pb (.dK (dueK ib (n0 :: rr.map Prod.fst))) = H11 at *
    have dl : (dueK ib (n0 :: rr.map Prod.fst)).length ≤ 5 := by unfold dueK; simp only [List.length_map, List.length_cons]; omega
    have hv0 : valV (dueK ib (n0 :: rr.map Prod.fst)) (Sum.inr n0) = some (.int (ib n0)) := dueK_val List.mem_cons_self
    walk_at "rd"
    refine r_dget ?_
    walk_at "rd"
    refine r_ixL (SqL.of hn11) (show atI ((n0 :: rr.map Prod.fst).map V.str) 0 = some (V.str n0) from at0) ?_
    refine r_dgetS ew11 hv0 ?_
    walk_at "rd"
    refine r_dputS e11 (by omega) ?_
    have e12 : upd H11 pb (.dK (putK (dueK ib (n0 :: rr.map Prod.fst)) (Sum.inr "out") (.int (ib n0)))) pb = some (.dK (putK (dueK ib (n0 :: rr.map Prod.fst)) (Sum.inr "out") (.int (ib n0)))) := upd_same
    have s12 : Same H10 (upd H11 pb (.dK (putK (dueK ib (n0 :: rr.map Prod.fst)) (Sum.inr "out") (.int (ib n0))))) := fun x o e => by rw [upd_ne (pbH x o e)]; exact n11 _ _ e
    generalize upd H11 pb (.dK (putK (dueK ib (n0 :: rr.map Prod.fst)) (Sum.inr "out") (.int (ib n0)))) = H12 at *
    have rng : ∀ x ∈ (n0, kd0) :: rr, valV (dueK ib (n0 :: rr.map Prod.fst)) (Sum.inr x.1) = some (.int (ib x.1)) ∧ 0 ≤ ib x.1 ∧ ib x.1 < x.2.B := fun x hx => by
      have xm : x.1 ∈ n0 :: rr.map Prod.fst := List.mem_map (l := (n0, kd0) :: rr) |>.mpr ⟨x, hx, rfl⟩
      refine ⟨dueK_val xm, (hib _ xm).1, ?_⟩
      unfold KindM.B
      rw [(C.hi x hx).2.2.2]
      exact (hib _ xm).2
    walk_at "rd"
    refine ⟨pg, pn, pw, w, n0, kd0, rr, _, ib, rfl, C, hP10.on s12, s12 _ _ hn10, s12 _ _ ew10, dueK_mem, rng, fun H13 s13 => ?_⟩
    walk_at "rd"
    have s1013 := s12.trans s13
    refine ⟨pg, pn, pb, w, n0, kd0, rr, _, ib, rfl, C, hP10.on s1013, s1013 _ _ hn10, s13 _ _ e12, fun p hp => ?_, fun x hx => ⟨?_, (rng x hx).2⟩, fun H14 s14 => ?_⟩
    · rcases mem_put hp with hp | hp
      · exact dueK_mem p hp
      · exact ⟨_, hp⟩
    · have xm : x.1 ∈ n0 :: rr.map Prod.fst := List.mem_map (l := (n0, kd0) :: rr) |>.mpr ⟨x, hx, rfl⟩
      rw [valV_put, if_neg fun z => (nok _ xm).2.2 (Sum.inr.inj z)]
      exact (rng x hx).1
    · walk_at "rd"
      exact ⟨s1.trans (s110.trans (s1013.trans s14)), _, _, _, _, _, _, _, _, _, _, _, _, _, _, _, _, _, rfl⟩
  · rintro σ' H1 ⟨s1, -⟩
    walk_at "rd"
    exact kq _
theorem facts {P : Program} {w : World} {K : PySem.W.Frag} {h : Heap} {mg : Str → Option Value} {f : Addr} (X : K.In h) (G : h.Ns mainGlobals mg) (hfa : mg ("law" : Str) = some (.ref f)) (c : He2.SaysM faL fnL exB K) :
    ∃ fd : FuncData, (∀ (s : Shared) (v : Value), BindsTo s fd ⟨[v], []⟩ [("_law_script", v)]) ∧ ∀ base : Heap, K.In base → base.Ns mainGlobals mg → FnOk P w K mg base CX0 44 f fd ["_law_script"] (sp_law K) := by
  have T : Tx K mg := ⟨c, h, X, G⟩
  obtain ⟨fd, F⟩ := fn_law T
  have e := hfa.symm.trans (g_law T)
  cases e
  have b := FunD.bindsA (ps := ["_law_script"]) F fun _ _ _ _ _ _ us hl => match us, hl with | [_], _ => rfl
  exact ⟨fd, fun s v => b s [v] rfl, fun base _ _ => ok_law T F⟩
end
end OW
open PySem PySem.W PySem.Calls PyProof.Rows
set_option maxHeartbeats 0 in
theorem PySem.Challenge.cw_overwise_k67_words_that_come_in_holds : PySem.Challenge.rw_overwise_k67_words_that_come_in.Holds := by
  w_on; o_law
  refine HandSHeadRun.head_any (r := OpenLaw.row PySem.Challenge.rw_overwise_k67_words_that_come_in) (q := view (OpenLaw.row PySem.Challenge.rw_overwise_k67_words_that_come_in).prog [84]) (H := OW.hk) (ob := OW.ob) (M := 60000) (loose := OW.looseL) (d := HandSHeadRun.topDef (OpenLaw.row PySem.Challenge.rw_overwise_k67_words_that_come_in).prog 84) (kwd := []) OW.ob_eq
    (by kernel_rfl) (fun s => by kernel_rfl) OW.run (by kernel_rfl) (by kernel_rfl) (by kernel_rfl) (by rfl) (by first | assumption | decide +kernel) (by decide +kernel) ⟨rfl, rfl, rfl, rfl, rfl, by decide +kernel⟩ ?hw ?hc
  case hw => w_witness2
  case hc =>
    refine L2.walk_ofE (l := PySem.Challenge.rw_overwise_k67_words_that_come_in) (n := 63) (k := 44) (x := "_law_script") (CX := L2.CX0) rfl (by decide) (by kernel_rfl) ⟨rfl, by decide, by decide⟩ ?F (fun _ _ _ _ z => z)
    intro w mg fa h Y G hmg0
    obtain ⟨K, KX, c⟩ := Y
    have hmg : mg ("law" : PySem.Str) = some (.ref fa) := by
      have e : (HandSHeadRun.topDef (OpenLaw.row PySem.Challenge.rw_overwise_k67_words_that_come_in).prog 84).name = ("law" : PySem.Str) := by kernel_rfl
      rw [← e]
      exact hmg0
    obtain ⟨fd, hb, hF⟩ := OW.facts (P := (PySem.Challenge.rw_overwise_k67_words_that_come_in).prog) (w := w) KX G hmg c
    exact ⟨K, fd, OW.sp_law K, KX, hb, fun H a ns hl _ hS => ⟨a, ns, rfl, hS, hl, fun _ => rfl⟩, hF⟩
