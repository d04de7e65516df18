import PyProof.Rows.All
import Wide.All
import OpenK.AllK
import Wide.FinOn
import HandS.ForMost
import HandS.ForExc
import HandS.Defaults
import HandS.ExcInit
import HandS.HeadHook1
import HandS.HeadHook2
import HandS.IsInst
import HandS.Walk
import HandS.Codes
import HandS.StrMore
import KE.GoesMore
import KE.GoesZip
import HandS.Iter
import HandS.List
import PyProof.NeData
import HandS.Exc
import HandS.Comp
import HandS.SetKeys
import HandS.TryMany
import HandS.ExcField
import HandS.More
import KE.KStateDown
import HandS.Head0
import HandS.Head1
import HandS.Head2
import HandS.HeadEnd
import PySem.Challenge.RW_overwise_k68_too_much
set_option Elab.async false
set_option linter.all false
set_option maxRecDepth 100000
set_option maxHeartbeats 4000000
namespace He2
open PySem PySem.Spec PyProof.Rows L2 He
/-! ### one more Bool in the Hook -/
abbrev AlM : Type := AlD × Bool
/-- the module's names; of defs their code and defaults, of classes their dict and bases; the methods, their code and defaults -/
def ref1 (o : Obj) : List Addr := match o.data with
  | .func fd => refV fd.code ++ refV fd.defaults
  | .cls cd => cd.ns :: cd.mro.flatMap refV
  | _ => []
def ref0 (o : Obj) : List Addr := match o.data with
  | .dict es _ => es.toList.flatMap fun e => refV e.val
  | _ => []
def more (g : Addr → Option Obj) (f : Obj → List Addr) (as : List Addr) : List Addr := as.flatMap fun a => match g a with
  | some o => f o
  | none => []
def asP (g : Addr → Option Obj) : List Addr :=
  let l1 := more g ref0 [mainGlobals]
  let l2 := more g ref1 l1
  let l3 := more g ref0 l2
  let l4 := more g ref1 l3
  (PySem.cStatics :: mainGlobals :: (l1 ++ (l2 ++ (l3 ++ l4)))).eraseDups
def obsM (fa : List Fa) (fn : List DefD) (ex : PySem.W.Frag → Bool) (K : PySem.W.Frag) : AlM := (obsD fa fn K, ex K)
def valM (fn : List DefD) : AlM := (valD fn, true)
def SaysM (fa : List Fa) (fn : List DefD) (ex : PySem.W.Frag → Bool) (K : PySem.W.Frag) : Prop := SaysD fa fn K ∧ ex K = true
def obsMG (fa : List Fa) (fn : List DefD) (ex : PySem.W.Frag → Bool) (g : Addr → Option Obj) : AlM := obsM fa fn ex (frG g (asP g))
def hookM (fa : List Fa) (fn : List DefD) (ex : PySem.W.Frag → Bool) : PySem.W.Hook where
  α := AlM
  obs := fun s => obsMG fa fn ex s.heap.get?
  val := fun _ => valM fn
  says := fun _ h => ∃ K : PySem.W.Frag, K.In h ∧ SaysM fa fn ex K
  of := fun _ _ e => ⟨_, frG_in, congrArg (fun z : AlM => z.1) e, congrArg (fun z : AlM => z.2) e⟩
  keeps := fun _ _ _ ⟨K, hK, c⟩ k => ⟨K, PySem.W.Frag.In.keeps hK k, c⟩
theorem obsMG_eq {fa : List Fa} {fn : List DefD} {ex : PySem.W.Frag → Bool} {g : Addr → Option Obj} {s : Shared} (h : ∀ a, g a = s.heap.get? a) : obsMG fa fn ex g = (hookM fa fn ex).obs s := by
  have e : g = s.heap.get? := funext h
  rw [e] <;> rfl
/-! ### what is asked of an exception class of one's own -/
def exRowB (K : PySem.W.Frag) (C : Addr) : Bool := match K.lookup C with
  | some ⟨.type "type", _, .cls cd, sl⟩ => (match cd.mro, sl.toList with
    | .ref C' :: bm, [_, _, _, _, some (.builtin n), _] => decide (C' = C) && (decide (n = "ValueError.__new__") && (!cd.hasDel && (cd.hasDict && PySem.HandSPX.refsVE bm)))
    | _, _ => false)
  | _ => false
theorem exRow_ok {K : PySem.W.Frag} {C : Addr} (q : exRowB K C = true) : ∃ nm q N bs bm sn sub ab col dd k0 k1 k2 k3 k5, K.lookup C = some (excClassObj nm q C N bs bm true sn sub ab col dd k0 k1 k2 k3 k5 "ValueError.__new__") ∧ PySem.HandSPX.refsVE bm = true := by
  unfold exRowB at q
  split at q
  · rename_i dd cd sl ho
    split at q
    · rename_i C' bm k0 k1 k2 k3 n k5 hm hs
      obtain ⟨h1, q⟩ := ba q
      obtain ⟨h2, q⟩ := ba q
      obtain ⟨h3, q⟩ := ba q
      obtain ⟨h4, h5⟩ := ba q
      have e1 := of_decide_eq_true h1
      have e2 := of_decide_eq_true h2
      subst e1 e2
      obtain ⟨nm, bs, mro, ns, qn, hd, sn, sub, ab, col, del⟩ := cd
      dsimp only at hm h3 h4
      subst hm h4
      have hdel : del = false := by simpa using h3
      subst hdel
      have hsl : sl = #[k0, k1, k2, k3, some (.builtin "ValueError.__new__"), k5] := by
        obtain ⟨l⟩ := sl
        simp only at hs
        rw [hs]
      subst hsl
      exact ⟨nm, qn, ns, bs, bm, sn, sub, ab, col, dd, k0, k1, k2, k3, k5, ho, h5⟩
    · cases q
  · cases q
/-- the class x is an own exception class over ValueError -/
def excB (x : Str) (K : PySem.W.Frag) : Bool := exRowB K (ga K x) && (eqO (PySem.W.findIn K (.ref (ga K x)) "__setattr__") (some (some (.builtin "object.__setattr__"))) && (decide (PySem.W.subIn K (.ref (ga K x)) (.type "BaseException") = some true) &&
  (decide (PySem.W.typeIn K (.ref (ga K x)) = some (.type "type")) && (PySem.W.keepIn K (.ref (ga K x)) &&
  (eqO (PySem.W.findIn K (.ref (ga K x)) "__getattribute__") (some (some (.builtin "BaseException.__getattribute__"))) && (eqO (PySem.W.findIn K (.ref (ga K x)) "__getattr__") (some none) && PySem.W.hasDictIn K (ga K x)))))))
structure ExcC (K : PySem.W.Frag) (C : Addr) : Prop where
  oex : OexC K C
  get : PySem.W.findIn K (.ref C) "__getattribute__" = some (some (.builtin "BaseException.__getattribute__"))
  gtr : PySem.W.findIn K (.ref C) "__getattr__" = some none
  hdc : PySem.W.hasDictIn K C = true
theorem exc_ok {x : Str} {K : PySem.W.Frag} (c : excB x K = true) : ExcC K (ga K x) := by
  obtain ⟨c1, c⟩ := ba c
  obtain ⟨c2, c⟩ := ba c
  obtain ⟨c3, c⟩ := ba c
  obtain ⟨c4, c⟩ := ba c
  obtain ⟨c5, c⟩ := ba c
  obtain ⟨c6, c⟩ := ba c
  obtain ⟨c7, c8⟩ := ba c
  exact ⟨⟨exRow_ok c1, eqO_ok c2, of_decide_eq_true c3, of_decide_eq_true c4, c5⟩, eqO_ok c6, eqO_ok c7, c8⟩
/-- .. its __init__ is an own def -/
def einB (x : Str) (K : PySem.W.Frag) : Bool := eqO (PySem.W.findIn K (.ref (ga K x)) "__init__") (some (some (.ref (ma K (ga K x) "__init__")))) && decide (PySem.W.typeIn K (.ref (ma K (ga K x) "__init__")) = some (.type "function"))
theorem ein_ok {x : Str} {K : PySem.W.Frag} (c : einB x K = true) : PySem.W.findIn K (.ref (ga K x)) "__init__" = some (some (.ref (ma K (ga K x) "__init__"))) ∧ PySem.W.typeIn K (.ref (ma K (ga K x) "__init__")) = some (.type "function") := by
  obtain ⟨c1, c2⟩ := ba c
  exact ⟨eqO_ok c1, of_decide_eq_true c2⟩
/-! ### C.m, read off a class of one's own -/
structure CAt (K : PySem.W.Frag) (C : Addr) (m : Str) (v : Value) : Prop where
  sp : PySem.W.specialIn K (.ref C) "__getattribute__" = some (some (.builtin "type.__getattribute__"))
  rd : PySem.W.readsIn K C (.type "type") = true
  val : (match PySem.W.findCls K (.ref C) (.type "type") m with | some (.val u) => some u | _ => none) = some v
theorem CAt.find {K : PySem.W.Frag} {C : Addr} {m : Str} {v : Value} (c : CAt K C m v) : PySem.W.findCls K (.ref C) (.type "type") m = some (.val v) := by
  have h := c.val
  cases e : PySem.W.findCls K (.ref C) (.type "type") m with
  | none => rw [e] at h; cases h
  | some f =>
    rw [e] at h
    cases f with
    | val u => rw [Option.some.inj h]
    | get g a o t => cases h
/-- what isinstance asks of an own class -/
def isiB (x : Str) (K : PySem.W.Frag) : Bool := eqO (PySem.W.findIn K (.ref (ga K x)) "__class__") (some (some (.builtin "object.__class__"))) && (eqO (PySem.W.specialIn K (.builtin "object.__class__") "__get__") (some (some (.builtin "getset_descriptor.__get__"))) &&
  (decide (PySem.W.takesIn K (.builtin "object.__class__") = some true) && decide (PySem.W.mroIn K (ga K x) (.type "object") = some true)))
structure IsiC (K : PySem.W.Frag) (C : Addr) : Prop where
  ha : PySem.W.findIn K (.ref C) "__class__" = some (some (.builtin "object.__class__"))
  hn : PySem.W.specialIn K (.builtin "object.__class__") "__get__" = some (some (.builtin "getset_descriptor.__get__"))
  htk : PySem.W.takesIn K (.builtin "object.__class__") = some true
  hm : PySem.W.mroIn K C (.type "object") = some true
theorem isi_ok {x : Str} {K : PySem.W.Frag} (c : isiB x K = true) : IsiC K (ga K x) := by
  unfold isiB at c
  simp only [Bool.and_eq_true] at c
  exact ⟨eqO_ok c.1, eqO_ok c.2.1, of_decide_eq_true c.2.2.1, of_decide_eq_true c.2.2.2⟩
def kitB (x y : Str) (b : Bool) (K : PySem.W.Frag) : Bool := decide (PySem.W.kitOne K (.ref (ga K x)) (.ref (ga K y)) = some b)
def catB (x m : Str) (v : PySem.W.Frag → Value) (K : PySem.W.Frag) : Bool := eqO (PySem.W.specialIn K (.ref (ga K x)) "__getattribute__") (some (some (.builtin "type.__getattribute__"))) && (PySem.W.readsIn K (ga K x) (.type "type") &&
  decide ((match PySem.W.findCls K (.ref (ga K x)) (.type "type") m with | some (.val u) => some u | _ => none) = some (v K)))
theorem cat_ok {x m : Str} {v : PySem.W.Frag → Value} {K : PySem.W.Frag} (c : catB x m v K = true) : CAt K (ga K x) m (v K) := by
  obtain ⟨c1, c⟩ := ba c
  obtain ⟨c2, c3⟩ := ba c
  exact ⟨eqO_ok c1, c2, of_decide_eq_true c3⟩
/-- the method of the class, as a plain def -/
def vDef (x m : Str) : PySem.W.Frag → Value := fun K => .ref (ma K (ga K x) m)
def vBlt (s : String) : PySem.W.Frag → Value := fun _ => .builtin s
section
variable {X : Cx} {CX : CXT} {o e : Expr} {es : List Expr} {ta : TA} {W : Addr} {f x : Str} {p p' p1 p2 pos : Pos}
theorem ld_clsat {pl : Sem Bool} {v : Value} {m : Str} {pins : List (Addr × Obj)} {s : Shared} {σ : L2.St} {H : Hp} {Q : Value × List Value → Shared → Prop} {E : Value → Shared → Prop} (I : Inv X pins σ H s) (c : CAt X.K W m v) (hh : PySem.W.handedIn v = true)
    (h : Q (v, []) { s with toks := s.toks + 1 }) : wpAny (model X.prog X.w) X.A (getMethod (.ref W) m pl) Q E s :=
  PySem.W.method_cls I.kIn c.sp (PySem.W.cls_value I.kIn c.rd c.find hh h)
/-- W.__init__(self, ..), W an own exception class without an __init__ of its own -/
theorem pe_weinit {pl : Sem Bool} (hg : Gl X x) (hm : X.mg x = some (.ref W)) (c : CAt X.K W "__init__" (.builtin "ValueError.__init__")) (ha : PA X (e :: es) ta)
    (hc : eval (.Call (.Attribute (.Name x p1) "__init__" p2) (e :: es) [] pos) X.env = (do
      let ov ← eval (.Name x p1) X.env
      standAt p2.atName
      let (f, first) ← holding [ov] (getMethod ov "__init__" pl)
      callWith pos f first (backTo pos (starEach (e :: es) X.env)) (backToKw pos (keywordEach [] X.env))) := by rfl)
    (hdb : (x == ("__debug__" : Str)) = false := by decide)
    (he : starEach (e :: es) X.env = (false, eval e X.env) :: starEach es X.env := by rfl) (hpl : (backTo pos (starEach es X.env)).any (·.1) = false := by rfl) :
    PE X (.Call (.Attribute (.Name x p1) "__init__" p2) (e :: es) [] pos) (tVeI X.K ta) := by
  refine ⟨fun pins s σ H Q I h => ?_⟩
  refine PySem.W.methodCall_KW (ld_glob I hg hm ?_ hdb) hc
  refine ld_clsat I c (by decide +kernel) ?_
  show wpAny _ _ (callWith pos (Value.builtin "ValueError.__init__") [] (backTo pos (starEach (e :: es) X.env)) []) _ _ _
  refine PyProof.Rows.callWith_method1 (thn (ha.run pos pins _ σ H _ (I.tok _) h) fun us s1 ⟨vs, H1, I1, r1, a, C, ws, ev, hl, T, ea, q⟩ => ?_) he hpl
  subst ev
  cases r1 with
  | @cons _ u0 _ ur ra rw' =>
    obtain rfl : u0 = Value.ref a := ra
    have hlen : ur.length ≤ sizeLine := by
      rw [← Paired.length rw', sizeLine_eq]
      omega
    exact oinit_ok T I1 ea hlen fun s' J => ⟨.non, H1, J, rfl, q⟩
end
end He2

set_option maxHeartbeats 4000000
namespace OW
open PySem PySem.Spec PyProof.Rows L2
/-! ### defs that may raise, as callers need them -/
/-- a def under its name -/
structure CalX (P : Program) (w : World) (K : PySem.W.Frag) (mg : Str → Option Value) (base : Heap) (k : Nat) (x : Str) (sp : Sp) (dvs : List V) : Prop where
  ex : ∃ (f : Addr) (fd : FuncData) (ps : List Str) (ds : List Value), FnOk P w K mg base (L2.CX P w) k f fd ps sp ∧ mg x = some (.ref f) ∧ PySem.W.keepIn K (.ref f) = true ∧ Binds K fd ps ds ∧ Vals dvs ds
/-- a method of the class at C -/
structure MetX (P : Program) (w : World) (K : PySem.W.Frag) (mg : Str → Option Value) (base : Heap) (k : Nat) (C : Addr) (m : Str) (sp : Sp) : Prop where
  ex : ∃ (f : Addr) (fd : FuncData) (ps : List Str), Cls K C ∧ Meth K C m f ∧ FnOk P w K mg base (L2.CX P w) k f fd ps sp ∧ Binds K fd ps []
/-- a class under its name, made by an own __init__ -/
structure MakX (P : Program) (w : World) (K : PySem.W.Frag) (mg : Str → Option Value) (base : Heap) (k : Nat) (x : Str) (C : Addr) (sp : Sp) : Prop where
  ex : ∃ (f : Addr) (fd : FuncData) (ps : List Str), Mk K C f ∧ FnOk P w K mg base (L2.CX P w) k f fd ps sp ∧ mg x = some (.ref C) ∧ Binds K fd ps []
/-- W.m, the def of a class, under the class's name -/
structure CatX (P : Program) (w : World) (K : PySem.W.Frag) (mg : Str → Option Value) (base : Heap) (k : Nat) (x m : Str) (sp : Sp) : Prop where
  ex : ∃ (C f : Addr) (fd : FuncData) (ps : List Str), mg x = some (.ref C) ∧ He2.CAt K C m (.ref f) ∧ PySem.W.keepIn K (.ref f) = true ∧ FnOk P w K mg base (L2.CX P w) k f fd ps sp ∧ Binds K fd ps []
/-- an own exception under its name: its class, made with vs it bears the fields fs vs -/
structure ExcX (P : Program) (w : World) (K : PySem.W.Frag) (mg : Str → Option Value) (base : Heap) (k : Nat) (x : Str) (C : Addr) (sp : Sp) : Prop where
  ex : ∃ (f : Addr) (fd : FuncData) (ps : List Str), OexC K C ∧ PySem.W.findIn K (.ref C) "__init__" = some (some (.ref f)) ∧ PySem.W.typeIn K (.ref f) = some (.type "function") ∧ FnOk P w K mg base (L2.CX P w) k f fd ps sp ∧ mg x = some (.ref C) ∧ Binds K fd ps []
def tMethV (In : Addr → Prop) (m : Str) (sp : Addr → Sp) (E : XK) (ta : TE) (t : TA) : TE := fun σ H Q => ta σ H fun x H1 => ∃ a C dx fs, x = .ref a ∧ H1 a = some (.ins C dx fs) ∧ In C ∧ fs.lookup m = none ∧ t σ H1 fun vs H2 => sp C (x :: vs) H2 Q E
section
variable {P : Program} {w : World} {K : PySem.W.Frag} {mg : Str → Option Value} {base : Heap} {N : List Str} {qual : Str} {scope : Scope} {f : Addr} {cd : Value} {A : Around} {outer : List Env} {s : Shared} {H : Hp} {E : XK}
/-- in a def's body -/
theorem pU : Passes (L2.CX P w) (cxOf (L2.CX P w) P w K mg base N qual scope f cd A outer s H E) E := passes_call (takes_of rfl rfl rfl rfl) (fun _ _ _ _ h => h)
theorem tU : Takes (cxOf (L2.CX P w) P w K mg base N qual scope f cd A outer s H E) (fun cls d _ H => E cls d H) := takes_of rfl rfl rfl rfl
theorem oU : PassesOwn (model P w) (cxOf (L2.CX P w) P w K mg base N qual scope f cd A outer s H E).A (cxOf (L2.CX P w) P w K mg base N qual scope f cd A outer s H E).env (cxOf (L2.CX P w) P w K mg base N qual scope f cd A outer s H E).xe := passes_of rfl
end
section
variable {X : Cx} {k j : Nat} {C : Addr} {x m : Str} {sp : Sp} {dvs : List V} {E : XK} {In : Addr → Prop} {p p1 p2 pos apos : Pos} {e o : Expr} {es : List Expr} {ta : TE} {t : TA}
theorem pe_cX (c : CalX X.prog X.w X.K X.mg X.base k x sp dvs) (hr : Room j X.A) (hk : k ≤ j) (hg : Gl X x) (hx : Passes (L2.CX X.prog X.w) X E) (ha : PA X (e :: es) t)
    (hdb : (x == ("__debug__" : Str)) = false := by decide) (he : starEach (e :: es) X.env = (false, eval e X.env) :: starEach es X.env := by rfl) (hpl : (backTo pos (starEach es X.env)).any (·.1) = false := by rfl) :
    PE X (.Call (.Name x p) (e :: es) [] pos) (tCall sp dvs E t) := by
  obtain ⟨f, fd, ps, ds, F, hm, hkp, hb, hd⟩ := c.ex
  exact pe_call F (hr.mono hk) hg hm hkp hb hd hx ha hdb he hpl
theorem pe_cX0 (c : CalX X.prog X.w X.K X.mg X.base k x sp dvs) (hr : Room j X.A) (hk : k ≤ j) (hg : Gl X x) (hx : Passes (L2.CX X.prog X.w) X E) (hdb : (x == ("__debug__" : Str)) = false := by decide) :
    PE X (.Call (.Name x p) [] [] pos) (tCall sp dvs E tNil) := by
  obtain ⟨f, fd, ps, ds, F, hm, hkp, hb, hd⟩ := c.ex
  exact pe_call0 F (hr.mono hk) hg hm hkp hb hd hx hdb
theorem pe_kX (c : MakX X.prog X.w X.K X.mg X.base k x C sp) (hr : Room j X.A) (hk : k + 1 ≤ j) (hg : Gl X x) (hx : Passes (L2.CX X.prog X.w) X E) (ha : PA X (e :: es) t)
    (hdb : (x == ("__debug__" : Str)) = false := by decide) (he : starEach (e :: es) X.env = (false, eval e X.env) :: starEach es X.env := by rfl) (hpl : (backTo pos (starEach es X.env)).any (·.1) = false := by rfl) :
    PE X (.Call (.Name x p) (e :: es) [] pos) (tMake C sp [] E t) := by
  obtain ⟨f, fd, ps, M, F, hm, hb⟩ := c.ex
  exact pe_make M F (hr.mono hk) hg hm hb .nil hx ha hdb he hpl
theorem pe_kX0 (c : MakX X.prog X.w X.K X.mg X.base k x C sp) (hr : Room j X.A) (hk : k + 1 ≤ j) (hg : Gl X x) (hx : Passes (L2.CX X.prog X.w) X E) (hdb : (x == ("__debug__" : Str)) = false := by decide) :
    PE X (.Call (.Name x p) [] [] pos) (tMake C sp [] E tNil) := by
  obtain ⟨f, fd, ps, M, F, hm, hb⟩ := c.ex
  exact pe_make0 M F (hr.mono hk) hg hm hb .nil hx hdb
/-- o.m(e, ..), o an instance of one of several classes -/
theorem pe_mX {pl : Sem Bool} {sp : Addr → Sp} (c : ∀ C, In C → MetX X.prog X.w X.K X.mg X.base k C m (sp C)) (hr : Room j X.A) (hk : k ≤ j) (hx : Passes (L2.CX X.prog X.w) X E) (he : PE X o ta) (ha : PA X (e :: es) t)
    (hst : starEach (e :: es) X.env = (false, eval e X.env) :: starEach es X.env := by rfl) (hpl : (backTo pos (starEach es X.env)).any (·.1) = false := by rfl)
    (ht : eval (.Call (.Attribute o m apos) (e :: es) [] pos) X.env = (do
      let ov ← eval o X.env
      standAt apos.atName
      let (f, first) ← holding [ov] (getMethod ov m pl)
      callWith pos f first (backTo pos (starEach (e :: es) X.env)) (backToKw pos (keywordEach [] X.env))) := by rfl) :
    PE X (.Call (.Attribute o m apos) (e :: es) [] pos) (tMethV In m sp E ta t) := by
  refine ⟨fun pins s σ H Q I h => ?_⟩
  refine PySem.W.methodCall_KW (pl := pl) (thn (he.run pins s σ H _ I h) fun u s1 ⟨x, H1, I1, rx, a, C, dx, fs, ex, ea, hC, l, q⟩ => ?_) ht
  subst ex
  obtain rfl : u = Value.ref a := rx
  obtain ⟨f, fd, ps, cl, hm, F, hb⟩ := (c C hC).ex
  refine getmeth_ok I1 ea cl hm l ?_
  refine PySem.W.callWith_K (first := [.ref a]) (h₀ := X.base) I.ok.mod.kin hm.kp (thn (ha.run pos pins s1 σ H1 _ I1 q) fun us s2 ⟨vs, H2, I2, r, q2⟩ => ⟨I2.kIn, ?_⟩) hst hpl
  have q3 : sp C ((V.ref a :: vs) ++ []) H2 Q E := by rw [List.append_nil]; exact q2
  exact run_fn (us := .ref a :: us) (vs := .ref a :: vs) F (hr.mono hk) hb .nil hx I2 (.cons rfl r) q3
theorem pe_mX0 {pl : Sem Bool} {sp : Addr → Sp} (c : ∀ C, In C → MetX X.prog X.w X.K X.mg X.base k C m (sp C)) (hr : Room j X.A) (hk : k ≤ j) (hx : Passes (L2.CX X.prog X.w) X E) (he : PE X o ta)
    (ht : eval (.Call (.Attribute o m apos) [] [] pos) X.env = (do
      let ov ← eval o X.env
      standAt apos.atName
      let (f, first) ← holding [ov] (getMethod ov m pl)
      callWith pos f first (backTo pos (starEach [] X.env)) (backToKw pos (keywordEach [] X.env))) := by rfl) :
    PE X (.Call (.Attribute o m apos) [] [] pos) (tMethV In m sp E ta tNil) := by
  refine ⟨fun pins s σ H Q I h => ?_⟩
  refine PySem.W.methodCall_KW (pl := pl) (thn (he.run pins s σ H _ I h) fun u s1 ⟨x, H1, I1, rx, a, C, dx, fs, ex, ea, hC, l, q⟩ => ?_) ht
  subst ex
  obtain rfl : u = Value.ref a := rx
  obtain ⟨f, fd, ps, cl, hm, F, hb⟩ := (c C hC).ex
  refine getmeth_ok I1 ea cl hm l ?_
  exact PySem.W.callWith_K0 (first := [.ref a]) I1.kIn hm.kp (run_fn (us := [.ref a]) (vs := [.ref a]) F (hr.mono hk) hb .nil hx I1 (.cons rfl .nil) q)
/-- W.m(e, ..), m a def of the class W -/
theorem pe_wX {pl : Sem Bool} (c : CatX X.prog X.w X.K X.mg X.base k x m sp) (hr : Room j X.A) (hk : k ≤ j) (hg : Gl X x) (hx : Passes (L2.CX X.prog X.w) X E) (ha : PA X (e :: es) t)
    (hdb : (x == ("__debug__" : Str)) = false := by decide)
    (hc : eval (.Call (.Attribute (.Name x p1) m p2) (e :: es) [] pos) X.env = (do
      let ov ← eval (.Name x p1) X.env
      standAt p2.atName
      let (f, first) ← holding [ov] (getMethod ov m pl)
      callWith pos f first (backTo pos (starEach (e :: es) X.env)) (backToKw pos (keywordEach [] X.env))) := by rfl)
    (he : starEach (e :: es) X.env = (false, eval e X.env) :: starEach es X.env := by rfl) (hpl : (backTo pos (starEach es X.env)).any (·.1) = false := by rfl) :
    PE X (.Call (.Attribute (.Name x p1) m p2) (e :: es) [] pos) (tCall sp [] E t) := by
  obtain ⟨C, f, fd, ps, hm, ca, hkp, F, hb⟩ := c.ex
  refine ⟨fun pins s σ H Q I h => ?_⟩
  refine PySem.W.methodCall_KW (ld_glob I hg hm ?_ hdb) hc
  refine He2.ld_clsat I ca rfl ?_
  refine PySem.W.callWith_K (first := []) (h₀ := X.base) I.ok.mod.kin hkp (thn (ha.run pos pins _ σ H _ (I.tok _) h) fun us s2 ⟨vs, H2, I2, r, q2⟩ => ⟨I2.kIn, ?_⟩) he hpl
  exact run_fn (us := us) F (hr.mono hk) hb .nil hx I2 r q2
/-- raise X(e, ..) -/
theorem ps_rX {W : WX} {pos2 : Pos} (hc : X.calm = true) (tk : Takes X W) (c : ExcX X.prog X.w X.K X.mg X.base k x C sp) (hr : Room j X.A) (hk : k + 1 ≤ j) (hg : Gl X x) (ha : PA X (e :: es) t)
    (hdb : (x == ("__debug__" : Str)) = false := by decide) (he : starEach (e :: es) X.env = (false, eval e X.env) :: starEach es X.env := by rfl) (hpl : (backTo pos (starEach es X.env)).any (·.1) = false := by rfl) :
    PS X (.Raise (some (.Call (.Name x p) (e :: es) [] pos)) none pos2) (fun _ σ H => tMkO C sp [] t σ H fun cls d H' => W cls d σ H') := by
  obtain ⟨f, fd, ps, T, i1, i2, F, hm, hb⟩ := c.ex
  exact ps_raise hc tk (pmk_oex T i1 i2 F (hr.mono hk) hb .nil passL hg hm ha hdb he hpl)
theorem MetX.mono {P : Program} {w : World} {K : PySem.W.Frag} {mg : Str → Option Value} {base : Heap} {k k' : Nat} {C : Addr} {m : Str} {sp : Sp} (c : MetX P w K mg base k C m sp) (h : k ≤ k') : MetX P w K mg base k' C m sp := by
  obtain ⟨f, fd, ps, a, b, F, d⟩ := c.ex
  exact ⟨f, fd, ps, a, b, F.mono h, d⟩
/-- a module's int, text -/
theorem pe_gint {i : Int} (hg : Gl X x) (h : ∃ t, X.mg x = some (.int i t)) (hd : (x == ("__debug__" : Str)) = false := by decide) : PE X (.Name x pos) (tC (.int i)) := by
  obtain ⟨t, ht⟩ := h
  exact pe_glob hg ht ⟨t, rfl⟩ hd
/-- a built-in class as a value -/
theorem pe_ty {n : String} (hg : Gl X x) (hm : X.mg x = none) (hv : bootBuiltins x = some (.type n)) (hn : x ≠ "__name__" := by decide) (hd : (x == ("__debug__" : Str)) = false := by decide) : PE X (.Name x pos) (tC (.ty n)) := pe_bltn hg hm hv rfl hn hd
end
theorem hu64 {A : Around} {k : Nat} (hr : Room k A) : A.units + 64 < cLine := by have := hr.un; omega
/-! ### where a def stands -/
abbrev FunP (K : PySem.W.Frag) (x q : Str) (st : Stmt) (f : Addr) (fd : FuncData) : Prop := FunD K x q (defArgs st) (defBody st) (defScope st) [] [] f fd
end OW

set_option maxHeartbeats 4000000
namespace OW
open PySem PySem.Spec PyProof.Rows L2
/-! ### readings, step by step: what each asks, from the goal backwards -/
section
variable {σ : L2.St} {H H1 : Hp} {Q : VK} {B : Bool → Hp → Prop} {A : List V → Hp → Prop} {D : Ends} {ta tb tc te : TE} {t u : TS} {tt tu : TT} {tA tB' : TA} {v x y : V} {r r' : R2} {K : PySem.W.Frag} {i j : Int} {b c : Bool} {g : TG}
theorem r_seq (h : t { D with nx := u D } σ H) : tSeq t u D σ H := h
theorem r_next (h : D.nx σ H) : tNext D σ H := h
theorem r_asg {n : Nat} (h : te σ H fun x H1 => D.nx (σ.set n (some x)) H1) : tAsg te (gName n) D σ H := h
theorem r_asgG (h : te σ H fun x H1 => g x σ H1 D.nx) : tAsg te g D σ H := h
theorem r_ret (h : te σ H D.rt) : tRet te D σ H := h
theorem r_retN (h : D.rt .non H) : tRetN D σ H := h
theorem r_drop (h : te σ H fun _ H1 => D.nx σ H1) : tDrop te D σ H := h
theorem r_if (h : tt σ H fun b H1 => if b = true then t D σ H1 else u D σ H1) : tIfS tt t u D σ H := h
theorem r_ifE (h : tt σ H fun c H1 => if c = true then ta σ H1 Q else tb σ H1 Q) : tIf tt ta tb σ H Q := h
theorem r_par {n m : Nat} (h : tA σ H fun vs H1 => ∃ v w, vs = [v, w] ∧ D.nx ((σ.set n (some v)).set m (some w)) H1) : tPar n m tA D σ H := h
theorem r_par2 {v w : V} {N : V → V → Prop} (h : N v w) : ∃ v' w', [v, w] = [v', w'] ∧ N v' w' := ⟨v, w, rfl, h⟩
theorem r_aug {n : Nat} {ti : TIp} (hx : σ[n]? = some (some x)) (h : te σ H fun y H1 => ti x y H1 fun z H2 => D.nx (σ.set n (some z)) H2) : tAug n te ti D σ H := ⟨x, hx, h⟩
theorem r_ipI {f : Int → Int → Int} (h : Q (.int (f i j)) H) : ipI f (.int i) (.int j) H Q := ⟨i, j, rfl, rfl, h⟩
theorem r_var {n : Nat} (e : σ[n]? = some (some v)) (h : Q v H) : tVar n σ H Q := ⟨v, e, h⟩
theorem r_c (h : Q v H) : tC v σ H Q := h
theorem r_op (h : ta σ H fun x H1 => tb σ H1 fun y H2 => r x y H2 Q) : tOp r ta tb σ H Q := h
theorem r_un {f : V → Hp → VK → Prop} (h : ta σ H fun x H1 => f x H1 Q) : tUn f ta σ H Q := h
theorem r_U {f : Int → V} (h : Q (f i) H) : rU f (.int i) H Q := ⟨i, rfl, h⟩
theorem r_I0 {f : Int → Int → V} (h : Q (f i j) H) : rI0 f (.int i) (.int j) H Q := ⟨i, j, rfl, rfl, h⟩
theorem r_I {C : Int → Int → Prop} {f : Int → Int → V} (c : C i j) (h : Q (f i j) H) : rI C f (.int i) (.int j) H Q := ⟨i, j, rfl, rfl, c, h⟩
theorem r_eqI (h : Q (.bl (decide (i = j))) H) : rEq (.int i) (.int j) H Q := ⟨rfl, by
  have e : decide (V.int i = V.int j) = decide (i = j) := by simp
  rw [e]; exact h⟩
theorem r_neI (h : Q (.bl (!decide (i = j))) H) : rNe (.int i) (.int j) H Q := ⟨rfl, by
  have e : decide (V.int i = V.int j) = decide (i = j) := by simp
  rw [e]; exact h⟩
theorem r_eqS {a b : Str} (h : Q (.bl (decide (a = b))) H) : rEq (.str a) (.str b) H Q := ⟨rfl, by
  have e : decide (V.str a = V.str b) = decide (a = b) := by simp
  rw [e]; exact h⟩
theorem r_neS {a b : Str} (h : Q (.bl (!decide (a = b))) H) : rNe (.str a) (.str b) H Q := ⟨rfl, by
  have e : decide (V.str a = V.str b) = decide (a = b) := by simp
  rw [e]; exact h⟩
theorem r_eqB {a b : Bool} (h : Q (.bl (a == b)) H) : rEq (.bl a) (.bl b) H Q := ⟨rfl, by
  have e : decide (V.bl a = V.bl b) = (a == b) := by cases a <;> cases b <;> rfl
  rw [e]; exact h⟩
theorem r_neB {a b : Bool} (h : Q (.bl (a != b)) H) : rNe (.bl a) (.bl b) H Q := ⟨rfl, by
  have e : (!decide (V.bl a = V.bl b)) = (a != b) := by cases a <;> cases b <;> rfl
  rw [e]; exact h⟩
theorem r_test (h : te σ H fun x H' => ∃ k, x = .bl k ∧ B k H') : tTest te σ H B := h
theorem r_B (h : te σ H fun x H' => ∃ k, x = .bl k ∧ B k H') : L2.tB te σ H B := h
theorem r_bl {B : Bool → Prop} (h : B b) : ∃ k, V.bl b = .bl k ∧ B k := ⟨b, rfl, h⟩
theorem r_in {B : Int → Prop} (h : B i) : ∃ k, V.int i = .int k ∧ B k := ⟨i, rfl, h⟩
theorem r_st {z : Str} {B : Str → Prop} (h : B z) : ∃ k, V.str z = .str k ∧ B k := ⟨z, rfl, h⟩
theorem r_rf {a : Addr} {B : Addr → Prop} (h : B a) : ∃ k, V.ref a = .ref k ∧ B k := ⟨a, rfl, h⟩
theorem r_and (h : tt σ H fun c H1 => if c = true then tu σ H1 B else B false H1) : tAnd tt tu σ H B := h
theorem r_or (h : tt σ H fun c H1 => if c = true then B true H1 else tu σ H1 B) : tOr tt tu σ H B := h
theorem r_not (h : tt σ H fun c H1 => B (!c) H1) : tNot tt σ H B := h
theorem r_andV (h : ta σ H fun x H1 => ∃ c, x = .bl c ∧ if c = true then tb σ H1 Q else Q (.bl false) H1) : tAndV ta tb σ H Q := h
theorem r_orV (h : ta σ H fun x H1 => ∃ c, x = .bl c ∧ if c = true then Q (.bl true) H1 else tb σ H1 Q) : tOrV ta tb σ H Q := h
theorem r_notV (h : ta σ H fun x H1 => ∃ c, x = .bl c ∧ Q (.bl (!c)) H1) : tNotV ta σ H Q := h
theorem r_blA {C D : Bool → Prop} (h : if b = true then C b else D b) : ∃ c, V.bl b = .bl c ∧ if c = true then C c else D c := ⟨b, rfl, h⟩
theorem r_chain (h : ta σ H fun x H1 => tb σ H1 fun y H2 => r x y H2 fun z H3 => ∃ k, z = .bl k ∧ (if k = true then tc σ H3 fun w' H4 => r' y w' H4 Q else Q (.bl false) H3)) : tChain r r' ta tb tc σ H Q := h
theorem r_nil (h : A [] H) : tNil σ H A := h
theorem r_cons (h : ta σ H fun x H1 => tA σ H1 fun xs H2 => A (x :: xs) H2) : tCons ta tA σ H A := h
theorem r_cb {f : List V → Hp → VK → Prop} (h : tA σ H fun vs H1 => f vs H1 Q) : tCB f tA σ H Q := h
theorem r_call {sp : Sp} {dvs : List V} {E : XK} (h : tA σ H fun vs H1 => sp (vs ++ dvs) H1 Q E) : tCall sp dvs E tA σ H Q := h
theorem r_isN (h : ta σ H fun x H1 => Q (.bl (decide (x = .non))) H1) : tIsN ta σ H Q := h
theorem r_notN (h : ta σ H fun x H1 => Q (.bl (!decide (x = .non))) H1) : tNotN ta σ H Q := h
theorem r_tup (h : tA σ H fun xs H1 => xs.length ≤ sizeLine ∧ ∀ p, H1 p = none → Q (.ref p) (upd H1 p (.tup xs))) : tTup tA σ H Q := h
theorem r_lst (h : tA σ H fun xs H1 => xs.length ≤ sizeLine ∧ ∀ p, H1 p = none → Q (.ref p) (upd H1 p (.lst xs))) : tLst tA σ H Q := h
theorem r_sl {f : V → Option Int → Option Int → Hp → VK → Prop} {tl th : TO} (h : te σ H fun x H1 => tl σ H1 fun l H2 => th σ H2 fun u H3 => f x l u H3 Q) : tSl f te tl th σ H Q := h
theorem r_noPart {O : Option Int → Hp → Prop} (h : O none H) : tNoPart σ H O := h
theorem r_part {O : Option Int → Hp → Prop} (h : te σ H fun x H1 => ∃ i, x = .int i ∧ O (some i) H1) : tPart te σ H O := h
theorem r_fld {f : Str} (h : ta σ H fun x H1 => ∃ a C dx fs v, x = .ref a ∧ H1 a = some (.ins C dx fs) ∧ Cls K C ∧ NoAttr K C f ∧ fs.lookup f = some v ∧ Q v H1) : tFld K ta f σ H Q := h
theorem r_fld2 {f : Str} {a C dx : Addr} {fs : List (Str × V)} (ho : H a = some (.ins C dx fs)) (hc : Cls K C) (hn : NoAttr K C f) (hl : fs.lookup f = some v) (h : Q v H) :
    ∃ a' C dx fs v, V.ref a = .ref a' ∧ H a' = some (.ins C dx fs) ∧ Cls K C ∧ NoAttr K C f ∧ fs.lookup f = some v ∧ Q v H := ⟨a, C, dx, fs, v, rfl, ho, hc, hn, hl, h⟩
theorem r_meth {In : Addr → Prop} {m : Str} {sp : Addr → Sp} {E : XK} (h : ta σ H fun x H1 => ∃ a C dx fs, x = .ref a ∧ H1 a = some (.ins C dx fs) ∧ In C ∧ fs.lookup m = none ∧ tA σ H1 fun vs H2 => sp C (x :: vs) H2 Q E) : tMethV In m sp E ta tA σ H Q := h
theorem r_truth (h : ta σ H fun x H' => ∃ k, TruV K x H' k ∧ B k H') : (fun (σ : L2.St) (H : Hp) (Q : Bool → Hp → Prop) => ta σ H fun x H' => ∃ k, TruV K x H' k ∧ Q k H') σ H B := h
theorem r_sgn {c : Nat} {z : Str} {P : Nat → Str → Prop} (h : P c z) : ∃ (c' : Nat) (z' : Str), V.str ⟨#[c]⟩ = .str ⟨#[c']⟩ ∧ V.str z = .str z' ∧ P c' z' := ⟨c, z, rfl, rfl, h⟩
theorem r_ss {a z : Str} {P : Str → Str → Prop} (h : P a z) : ∃ (a' : Str) (z' : Str), V.str a = .str a' ∧ V.str z = .str z' ∧ P a' z' := ⟨a, z, rfl, rfl, h⟩
theorem r_ii {P : Int → Int → Prop} (h : P i j) : ∃ i' j', V.int i = .int i' ∧ V.int j = .int j' ∧ P i' j' := ⟨i, j, rfl, rfl, h⟩
theorem r_vei {ta : TA} (h : ta σ H fun vs H1 => ∃ (a C : Addr) (ws : List V), vs = .ref a :: ws ∧ ws.length ≤ 1000 ∧ OexC K C ∧ H1 a = some (exo a C none) ∧ Q .non H1) : tVeI K ta σ H Q := h
theorem r_ost {f : Str} {to : TE} (h : te σ H fun y H1 => to σ H1 fun x H2 => ∃ a C : Addr, x = .ref a ∧ OexC K C ∧ PySem.W.findIn K (.ref C) f = some none ∧
  ((H2 a = some (exo a C none) ∧ ∀ dx, H2 dx = none → dx ≠ a → D.nx σ (upd (upd H2 dx (exd dx [(f, y)])) a (exo a C (some dx)))) ∨
    ∃ (dx : Addr) (fs : List (Str × V)), H2 a = some (exo a C (some dx)) ∧ H2 dx = some (exd dx fs) ∧ fs.length ≤ 900 ∧ D.nx σ (upd H2 dx (exd dx ((f, y) :: fs))))) : tOst K f to te D σ H := h
theorem r_fldS {f : Str} {ta tv : TE} (h : tv σ H fun y H1 => ta σ H1 fun x H2 => ∃ a C dx fs, x = .ref a ∧ H2 a = some (.ins C dx fs) ∧ Cls K C ∧ NoAttr K C f ∧ fs.length < 1000 ∧ D.nx σ (upd H2 a (.ins C dx (putF f y fs)))) : sFld K ta tv f D σ H := h
/-- ways -/
theorem r_iteD {p : Prop} [Decidable p] {X Y : Prop} (h1 : p → X) (h2 : ¬ p → Y) : if decide p = true then X else Y := by
  by_cases h : p
  · rw [if_pos (by simpa using h)]; exact h1 h
  · rw [if_neg (by simpa using h)]; exact h2 h
theorem r_iteN {p : Prop} [Decidable p] {X Y : Prop} (h1 : ¬ p → X) (h2 : p → Y) : if (!decide p) = true then X else Y := by
  by_cases h : p
  · rw [if_neg (by simpa using h)]; exact h2 h
  · rw [if_pos (by simpa using h)]; exact h1 h
theorem r_iteB {X Y : Prop} (h1 : b = true → X) (h2 : b = false → Y) : if b = true then X else Y := by
  cases b
  · exact h2 rfl
  · exact h1 rfl
theorem r_T {X Y : Prop} (h : X) : if true = true then X else Y := h
theorem r_F {X Y : Prop} (h : Y) : if false = true then X else Y := h
theorem r_NT {X Y : Prop} (h : Y) : if (!true) = true then X else Y := h
theorem r_NF {X Y : Prop} (h : X) : if (!false) = true then X else Y := h
theorem r_DT {p : Prop} [Decidable p] {X Y : Prop} (hp : p) (h : X) : if decide p = true then X else Y := by rw [if_pos (decide_eq_true hp)]; exact h
theorem r_DF {p : Prop} [Decidable p] {X Y : Prop} (hp : ¬ p) (h : Y) : if decide p = true then X else Y := by rw [if_neg (by simpa using hp)]; exact h
theorem r_NDT {p : Prop} [Decidable p] {X Y : Prop} (hp : p) (h : Y) : if (!decide p) = true then X else Y := by rw [if_neg (by simpa using hp)]; exact h
theorem r_NDF {p : Prop} [Decidable p] {X Y : Prop} (hp : ¬ p) (h : X) : if (!decide p) = true then X else Y := by rw [if_pos (by simpa using hp)]; exact h
end
/-! ### loops -/
section
variable {σ : L2.St} {H : Hp} {D : Ends} {te : TE} {ta : TA} {g : TG} {tb : TS} {K : PySem.W.Frag}
theorem r_forStr {j : Nat} (h : te σ H fun v H1 => ∃ x : Str, v = .str x ∧ ∃ Pv : Nat → L2.St → Hp → Prop, Pv 0 σ H1 ∧
    (∀ i c σ' H', x.cps.toList[i]? = some c → Pv i σ' H' → tb { D with nx := Pv (i + 1), ct := Pv (i + 1), bk := D.nx } (σ'.set j (some (.str ⟨#[c]⟩))) H') ∧ ∀ σ' H', Pv x.cps.toList.length σ' H' → D.nx σ' H')
    (mono : ∀ R R' : V → Hp → Prop, (∀ v H1, R v H1 → R' v H1) → te σ H R → te σ H R') : tFor (iStr te) (gName j) tb D σ H := by
  refine mono _ _ (fun v H1 ⟨x, ex, Pv, h0, hs, hd⟩ => ⟨x, ex, for_it walk_str Pv h0 (fun _ _ _ _ _ => True.intro) (fun i v σ' H' H'' hi p y => ?_) (fun σ' H' p => hd σ' H' (by rw [Array.length_toList]; exact p))⟩) h
  obtain ⟨rfl, c, hc, rfl⟩ := y
  exact hs i c σ' _ (by rw [Array.getElem?_toList]; exact hc) p
end
theorem mono_var {σ : L2.St} {H : Hp} {i : Nat} (R R' : V → Hp → Prop) (k : ∀ v H1, R v H1 → R' v H1) (h : tVar i σ H R) : tVar i σ H R' := by
  obtain ⟨v, e, h⟩ := h
  exact ⟨v, e, k _ _ h⟩
/-- raised: an own exception with its field at a new place -/
def Rz1 (K : PySem.W.Frag) (E : XK) (H : Hp) (C f : Str) (v : V) : Prop := ∀ d H', Same H H' → H d = none → H' d = some (.xd [(f, v)]) → E (.ref (He.ga K C)) (some d) H'
def Rz2 (K : PySem.W.Frag) (E : XK) (H : Hp) (C f g : Str) (v u : V) : Prop := ∀ d H', Same H H' → H d = none → H' d = some (.xd [(g, u), (f, v)]) → E (.ref (He.ga K C)) (some d) H'
theorem r_mko {C : Addr} {sp : Sp} {dvs : List V} {ta : TA} {σ : L2.St} {H : Hp} {Q : XK} (h : ta σ H fun vs H1 => vs.length ≤ 1000 ∧ ∀ a, H1 a = none → sp (.ref a :: (vs ++ dvs)) (upd H1 a (exo a C none))
  (fun v H2 => v = .non ∧ ∃ (d : Addr) (fs : List (Str × V)), H2 a = some (exo a C (some d)) ∧ H2 d = some (exd d fs) ∧ H1 d = none ∧ Q (.ref C) (some d) (upd (del H2 a) d (.xd fs))) (fun _ _ _ => False)) : tMkO C sp dvs ta σ H Q := h
/-- the frame's K -/
theorem cxK {CX : CXT} {P : Program} {w : World} {K : PySem.W.Frag} {mg : Str → Option Value} {base : Heap} {N : List Str} {qual : Str} {scope : Scope} {f : Addr} {cd : Value} {A : Around} {outer : List Env} {s : Shared} {H : Hp} {E : XK} :
    (cxOf CX P w K mg base N qual scope f cd A outer s H E).K = K := rfl
end OW

namespace OW
open PySem PySem.Spec PyProof.Rows L2
/-- an own exception's __init__ of one field, of two -/
def sp_exc1 (K : PySem.W.Frag) (C : Addr) (f : Str) : Sp := fun vs H Q _ => ∃ a v, vs = [.ref a, v] ∧ H a = some (exo a C none) ∧ ∀ dx, H dx = none → dx ≠ a → Q .non (upd (upd H dx (exd dx [(f, v)])) a (exo a C (some dx)))
def sp_exc2 (K : PySem.W.Frag) (C : Addr) (f g : Str) : Sp := fun vs H Q _ => ∃ a v u, vs = [.ref a, v, u] ∧ H a = some (exo a C none) ∧
  ∀ dx, H dx = none → dx ≠ a → Q .non (upd (upd (upd H dx (exd dx [(f, v)])) a (exo a C (some dx))) dx (exd dx [(g, u), (f, v)]))
/-- raised with these values: the exception's dict stands at a new place -/
theorem mk1 {K : PySem.W.Frag} {C f : Str} {H : Hp} {Q : XK} {v : V} (k : Rz1 K Q H C f v) : [v].length ≤ 1000 ∧ ∀ a, H a = none → sp_exc1 K (He.ga K C) f (.ref a :: ([v] ++ [])) (upd H a (exo a (He.ga K C) none))
  (fun v H2 => v = .non ∧ ∃ (d : Addr) (fs : List (Str × V)), H2 a = some (exo a (He.ga K C) (some d)) ∧ H2 d = some (exd d fs) ∧ H d = none ∧ Q (.ref (He.ga K C)) (some d) (upd (del H2 a) d (.xd fs))) (fun _ _ _ => False) := by
  refine ⟨(by show 1 ≤ 1000; decide), fun a ha => ⟨a, v, rfl, upd_same, fun dx hd hne => ⟨rfl, dx, _, upd_same, by rw [upd_ne hne, upd_same], ?_, ?_⟩⟩⟩
  · rw [upd_ne hne] at hd; exact hd
  · rw [upd_ne hne] at hd
    refine k dx _ (fun b o e => ?_) hd upd_same
    have hb : b ≠ dx := ne_of_none e hd
    have hba : b ≠ a := ne_of_none e ha
    rw [upd_ne hb, del_ne hba, upd_ne hba, upd_ne hb, upd_ne hba]
    exact e
theorem mk2 {K : PySem.W.Frag} {C f g : Str} {H : Hp} {Q : XK} {v u : V} (k : Rz2 K Q H C f g v u) : [v, u].length ≤ 1000 ∧ ∀ a, H a = none → sp_exc2 K (He.ga K C) f g (.ref a :: ([v, u] ++ [])) (upd H a (exo a (He.ga K C) none))
  (fun v H2 => v = .non ∧ ∃ (d : Addr) (fs : List (Str × V)), H2 a = some (exo a (He.ga K C) (some d)) ∧ H2 d = some (exd d fs) ∧ H d = none ∧ Q (.ref (He.ga K C)) (some d) (upd (del H2 a) d (.xd fs))) (fun _ _ _ => False) := by
  refine ⟨(by show 2 ≤ 1000; decide), fun a ha => ⟨a, v, u, rfl, upd_same, fun dx hd hne => ⟨rfl, dx, _, by rw [upd_ne hne.symm, upd_same], upd_same, ?_, ?_⟩⟩⟩
  · rw [upd_ne hne] at hd; exact hd
  · rw [upd_ne hne] at hd
    refine k dx _ (fun b o e => ?_) hd upd_same
    have hb : b ≠ dx := ne_of_none e hd
    have hba : b ≠ a := ne_of_none e ha
    rw [upd_ne hb, del_ne hba, upd_ne hb, upd_ne hba, upd_ne hb, upd_ne hba]
    exact e
end OW

set_option maxHeartbeats 4000000
namespace OW
open PySem PySem.Spec PyProof.Rows L2
/-- a module's object as a value -/
theorem pe_gref {X : Cx} {x : Str} {pos : Pos} {a : Addr} (hg : Gl X x) (hm : X.mg x = some (.ref a)) (hd : (x == ("__debug__" : Str)) = false := by decide) : PE X (.Name x pos) (tC (.ref a)) := pe_glob hg hm rfl hd
/-- what comes back, the heap perhaps grown -/
def Rt (H : Hp) (Q : VK) (v : V) : Prop := ∀ H', Same H H' → Q v H'
theorem Rt.go {H H' : Hp} {Q : VK} {v : V} (k : Rt H Q v) (s : Same H H') : Q v H' := k H' s
theorem Rt.on {H H' : Hp} {Q : VK} {v : V} (k : Rt H Q v) (s : Same H H') : Rt H' Q v := fun H2 s2 => k H2 (s.trans s2)
theorem _root_.L2.Same.new {H : Hp} {p : Addr} {o : HO} (h : H p = none) : Same H (upd H p o) := fun a u e => by
  rw [upd_ne (ne_of_none e h)]
  exact e
theorem _root_.L2.Same.new' {H H' : Hp} {p : Addr} {o : HO} (s : Same H H') (h : H' p = none) : Same H (upd H' p o) := s.trans (Same.new h)
theorem _root_.L2.Same.seqT {K : PySem.W.Frag} {H H' : Hp} {a : Addr} {xs : List V} (e : Same H H') (h : SqT K H a xs) : SqT K H' a xs := by
  rcases h with h | h
  · rcases h with h | ⟨o, h⟩
    · exact Or.inl (Or.inl (e a _ h))
    · exact Or.inl (Or.inr ⟨o, e a _ h⟩)
  · exact Or.inr h
theorem Rz1.on {K : PySem.W.Frag} {E : XK} {H H' : Hp} {C f : Str} {v : V} (k : Rz1 K E H C f v) (s : Same H H') : Rz1 K E H' C f v := fun d H2 s2 hd h => k d H2 (s.trans s2) (s.free hd) h
theorem Rz2.on {K : PySem.W.Frag} {E : XK} {H H' : Hp} {C f g : Str} {v u : V} (k : Rz2 K E H C f g v u) (s : Same H H') : Rz2 K E H' C f g v u := fun d H2 s2 hd h => k d H2 (s.trans s2) (s.free hd) h
theorem line_le {n : Nat} (h : n ≤ 100000) : n ≤ sizeLine := Nat.le_trans h (by decide)
theorem line_lt {n : Nat} (h : n ≤ 100000) : n < sizeLine := Nat.lt_of_le_of_lt h (by decide)
theorem inV_strs (a : Str) : ∀ l : List Str, inV (.str a) (l.map V.str) = decide (a ∈ l)
  | [] => by simp [inV]
  | b :: l => by
    have ih := inV_strs a l
    unfold inV at ih ⊢
    rw [List.map_cons, List.any_cons, ih]
    have e : eqV (V.str b) (V.str a) = decide (b = a) := rfl
    rw [e]
    by_cases h : b = a
    · subst h; simp
    · have h' : ¬ a = b := fun z => h z.symm
      simp [h, h']
theorem flat_strs : ∀ l : List Str, (l.map V.str).all flatV = true
  | [] => rfl
  | _ :: l => by rw [List.map_cons, List.all_cons, flat_strs l]; rfl
section
variable {σ : L2.St} {H H1 : Hp} {Q : VK} {K : PySem.W.Frag} {i : Int} {p : Addr} {xs : List V} {v : V} {a z : Str} {l : List Str}
/-- an if by its test's answer -/
theorem r_ifB {tt : TT} {t u : TS} {D : Ends} (b : Bool) (h1 : ∀ B : Bool → Hp → Prop, (∀ H', Same H H' → B b H') → tt σ H B) (h2 : ∀ H', Same H H' → if b = true then t D σ H' else u D σ H') : tIfS tt t u D σ H :=
  h1 _ fun H' s => h2 H' s
theorem r_intB {k : Bool} {A : Int → Prop} {B : Bool → Prop} (h : B k) : (∃ i, [V.bl k] = [.int i] ∧ A i) ∨ ∃ k', [V.bl k] = [.bl k'] ∧ B k' := .inr ⟨k, rfl, h⟩
theorem r_intI {A : Int → Prop} {B : Bool → Prop} (h : A i) : (∃ i', [V.int i] = [.int i'] ∧ A i') ∨ ∃ k', [V.int i] = [.bl k'] ∧ B k' := .inl ⟨i, rfl, h⟩
theorem r_lenS {P : Str → Prop} (hl : a.length ≤ 100000) (h : P a) : ∃ z : Str, [V.str a] = [.str z] ∧ z.length ≤ sizeLine ∧ P z := ⟨a, rfl, line_le hl, h⟩
theorem r_lenL {P : List V → Prop} (hs : SqL K H p xs) (h : P xs) : ∃ q ys, [V.ref p] = [.ref q] ∧ (SqL K H q ys ∨ SqT K H q ys) ∧ P ys := ⟨p, xs, rfl, .inl hs, h⟩
theorem r_ixL (hs : SqL K H p xs) (e : atI xs i = some v) (h : Q v H) : rIxL K (.ref p) (.int i) H Q := ⟨p, xs, i, v, rfl, rfl, hs, e, h⟩
theorem r_ixT (hs : SqT K H p xs) (e : atI xs i = some v) (h : Q v H) : rIxT K (.ref p) (.int i) H Q := ⟨p, xs, i, v, rfl, rfl, hs, e, h⟩
theorem r_ixS {c : Nat} (hl : a.length ≤ 100000) (e : atI a.cps.toList i = some c) (h : Q (.str ⟨#[c]⟩) H) : rIxS (.str a) (.int i) H Q := ⟨a, i, c, rfl, rfl, line_le hl, e, h⟩
theorem r_slL {lo hi : Option Int} (hs : SqL K H p xs) (h : ∀ q, H q = none → Q (.ref q) (upd H q (.lst (cutV xs lo hi)))) : rSlL K (.ref p) lo hi H Q := ⟨p, xs, rfl, hs, h⟩
/-- a new display -/
theorem r_newL {P : Addr → Prop} (h : ∀ q, H q = none → P q) (hl : Nat.ble xs.length 1000 = true := by rfl) : xs.length ≤ sizeLine ∧ ∀ q, H q = none → P q := ⟨line_le (Nat.le_trans (Nat.le_of_ble_eq_true hl) (by decide)), h⟩
theorem r_inTp (hs : SqT K H p (l.map V.str)) (h : Q (.bl (decide (a ∈ l))) H) : rIn K false (.str a) (.ref p) H Q := by
  refine ⟨p, _, rfl, .inr hs, rfl, flat_strs l, ?_⟩
  rw [inV_strs]; exact h
theorem r_ninTp (hs : SqT K H p (l.map V.str)) (h : Q (.bl (!decide (a ∈ l))) H) : rIn K true (.str a) (.ref p) H Q := by
  refine ⟨p, _, rfl, .inr hs, rfl, flat_strs l, ?_⟩
  rw [inV_strs]; exact h
theorem r_inLs (hs : SqL K H p (l.map V.str)) (h : Q (.bl (decide (a ∈ l))) H) : rIn K false (.str a) (.ref p) H Q := by
  refine ⟨p, _, rfl, .inl hs, rfl, flat_strs l, ?_⟩
  rw [inV_strs]; exact h
theorem r_ninLs (hs : SqL K H p (l.map V.str)) (h : Q (.bl (!decide (a ∈ l))) H) : rIn K true (.str a) (.ref p) H Q := by
  refine ⟨p, _, rfl, .inl hs, rfl, flat_strs l, ?_⟩
  rw [inV_strs]; exact h
/-- in a tuple just laid -/
theorem r_inNew (l : List Str) (hl : l.length ≤ 1000) (h : ∀ q H', H q = none → Same H H' → Q (.bl (decide (a ∈ l))) H') :
    (l.map V.str).length ≤ sizeLine ∧ ∀ q, H q = none → rIn K false (.str a) (.ref q) (upd H q (.tup (l.map V.str))) Q :=
  ⟨by rw [List.length_map]; exact line_le (Nat.le_trans hl (by decide)), fun q hq => r_inTp (SqT.of upd_same) (h q _ hq (Same.new hq))⟩
theorem r_intS {P : Int → Prop} {n : Int} (e : PySem.intText? a = some n) (hl : a.length ≤ 640) (h : P n) : ∃ z m, [V.str a] = [.str z] ∧ PySem.intText? z = some m ∧ z.length ≤ 640 ∧ P m := ⟨a, n, rfl, e, hl, h⟩
theorem r_strI {P : Int → Prop} (hl : i.natAbs.log2 < 1920) (h : P i) : ∃ j, [V.int i] = [.int j] ∧ j.natAbs.log2 < 1920 ∧ P j := ⟨i, rfl, hl, h⟩
theorem at0 {α : Type} {x : α} {r : List α} : atI (x :: r) 0 = some x := by simp [atI, ixN]
theorem at1 {α : Type} {x y : α} {r : List α} : atI (x :: y :: r) 1 = some y := by
  unfold atI ixN
  rw [if_pos (by decide), if_pos (by simp only [List.length_cons]; omega)]
  rfl
theorem at2 {α : Type} {x y z : α} {r : List α} : atI (x :: y :: z :: r) 2 = some z := by
  unfold atI ixN
  rw [if_pos (by decide), if_pos (by simp only [List.length_cons]; omega)]
  rfl
theorem atNat {α : Type} {l : List α} {n : Nat} {x : α} (h : l[n]? = some x) : atI l (n : Int) = some x := by
  have hn := (List.getElem?_eq_some_iff.mp h).1
  unfold atI ixN
  rw [if_pos (by omega), if_pos (by omega)]
  simpa using h
theorem atLast {α : Type} {l : List α} {x : α} : atI (l ++ [x]) (-1) = some x := by
  unfold atI ixN
  rw [if_neg (by decide), if_pos (by simp only [List.length_append, List.length_cons, List.length_nil]; omega)]
  have e : (-1 + ((l ++ [x]).length : Int)).toNat = l.length := by simp only [List.length_append, List.length_cons, List.length_nil]; omega
  show (l ++ [x])[(-1 + ((l ++ [x]).length : Int)).toNat]? = some x
  rw [e]
  simp
end
end OW

set_option maxHeartbeats 4000000
namespace OW
open PySem PySem.Spec PyProof.Rows L2
/-! ### kinds -/
inductive KTag where
  | plain | signed | point
  deriving DecidableEq
structure KindM where
  tag : KTag
  w : Int
  p : Int
  deriving DecidableEq
def KTag.word : KTag → Str
  | .plain => "plain"
  | .signed => "signed"
  | .point => "point"
structure KindM.Good (k : KindM) : Prop where
  w4 : 4 ≤ k.w
  w32 : k.w ≤ 32
  p0 : k.tag ≠ .point → k.p = 0
  p1 : k.tag = .point → 1 ≤ k.p ∧ k.p < k.w
theorem KindM.Good.pp {k : KindM} (g : k.Good) : 0 ≤ k.p ∧ k.p < 32 := by
  have := g.w4; have := g.w32
  by_cases h : k.tag = .point
  · have := g.p1 h; omega
  · have := g.p0 h; omega
/-- B, H -/
def KindM.B (k : KindM) : Int := 2 ^ k.w.toNat
def KindM.Hf (k : KindM) : Int := 2 ^ (k.w - 1).toNat
def KindM.least (k : KindM) : Int := if k.tag = .plain then 0 else 0 - k.Hf
def KindM.greatest (k : KindM) : Int := if k.tag = .plain then k.B - 1 else k.Hf - 1
theorem KindM.Good.half {k : KindM} (g : k.Good) : k.B = 2 * k.Hf := by
  have := g.w4
  unfold KindM.B KindM.Hf
  have e : k.w.toNat = (k.w - 1).toNat + 1 := by omega
  rw [e, Int.pow_succ]; omega
theorem pow_pos' (n : Nat) : (0 : Int) < 2 ^ n := Int.pow_pos (by decide)
theorem pow_le32 {n : Nat} (h : n ≤ 32) : (2 : Int) ^ n ≤ 4294967296 := by
  have : (2 : Nat) ^ n ≤ 2 ^ 32 := Nat.pow_le_pow_right (by decide) h
  have e : ((2 ^ n : Nat) : Int) = (2 : Int) ^ n := by simp
  have e32 : (2 : Nat) ^ 32 = 4294967296 := by decide
  omega
theorem KindM.Good.Bpos {k : KindM} (_ : k.Good) : 0 < k.B := pow_pos' _
theorem KindM.Good.Hpos {k : KindM} (_ : k.Good) : 0 < k.Hf := pow_pos' _
theorem KindM.Good.Ble {k : KindM} (g : k.Good) : k.B ≤ 4294967296 := pow_le32 (by have := g.w32; omega)
theorem KindM.Good.B16 {k : KindM} (g : k.Good) : 16 ≤ k.B := by
  have h4 := g.w4
  unfold KindM.B
  have : (2 : Nat) ^ 4 ≤ 2 ^ k.w.toNat := Nat.pow_le_pow_right (by decide) (by omega)
  have e : ((2 ^ k.w.toNat : Nat) : Int) = (2 : Int) ^ k.w.toNat := by simp
  have e4 : (2 : Nat) ^ 4 = 16 := by decide
  omega
theorem KindM.Good.H8 {k : KindM} (g : k.Good) : 8 ≤ k.Hf := by have := g.B16; have := g.half; omega
/-- the class of a kind -/
def clsOf (K : PySem.W.Frag) : KTag → Addr
  | .plain => He.ga K "Plain"
  | .signed => He.ga K "Signed"
  | .point => He.ga K "Pointed"
def KindAt (K : PySem.W.Frag) (H : Hp) (a : Addr) (k : KindM) : Prop := k.Good ∧ ∃ dx, H a = some (.ins (clsOf K k.tag) dx [("width", .int k.w), ("point", .int k.p)])
theorem KindAt.on {K : PySem.W.Frag} {H H' : Hp} {a : Addr} {k : KindM} (h : KindAt K H a k) (s : Same H H') : KindAt K H' a k := by
  obtain ⟨g, dx, e⟩ := h
  exact ⟨g, dx, s _ _ e⟩
def In_Kind (K : PySem.W.Frag) (C : Addr) : Prop := C = He.ga K "Plain" ∨ C = He.ga K "Signed" ∨ C = He.ga K "Pointed"
theorem in_kind (K : PySem.W.Frag) (t : KTag) : In_Kind K (clsOf K t) := by
  cases t
  · exact .inl rfl
  · exact .inr (.inl rfl)
  · exact .inr (.inr rfl)
/-- a method of a kind at work -/
theorem r_methK {K : PySem.W.Frag} {H : Hp} {a : Addr} {k : KindM} {m : Str} {P : Addr → Prop} (h : KindAt K H a k) (hm : List.lookup m [(("width" : Str), V.int k.w), (("point" : Str), V.int k.p)] = none) (q : P (clsOf K k.tag)) :
    ∃ a' C dx fs, V.ref a = .ref a' ∧ H a' = some (.ins C dx fs) ∧ In_Kind K C ∧ fs.lookup m = none ∧ P C := by
  obtain ⟨g, dx, e⟩ := h
  exact ⟨a, _, dx, _, rfl, e, in_kind K _, hm, q⟩
theorem r_fldK {K : PySem.W.Frag} {H : Hp} {a : Addr} {k : KindM} {f : Str} {v : V} {P : V → Prop} (h : KindAt K H a k) (hc : Cls K (clsOf K k.tag)) (hn : NoAttr K (clsOf K k.tag) f) (hl : List.lookup f [(("width" : Str), V.int k.w), (("point" : Str), V.int k.p)] = some v) (q : P v) :
    ∃ a' C dx fs v, V.ref a = .ref a' ∧ H a' = some (.ins C dx fs) ∧ Cls K C ∧ NoAttr K C f ∧ fs.lookup f = some v ∧ P v := by
  obtain ⟨g, dx, e⟩ := h
  exact ⟨a, _, dx, _, v, rfl, e, hc, hn, hl, q⟩
def sp_Kind_word (K : PySem.W.Frag) (C : Addr) : Sp := fun vs H Q _ => ∃ a k, vs = [.ref a] ∧ KindAt K H a k ∧ C = clsOf K k.tag ∧ Q (.str k.tag.word) H
def sp_Kind_least (K : PySem.W.Frag) (C : Addr) : Sp := fun vs H Q _ => ∃ a k, vs = [.ref a] ∧ KindAt K H a k ∧ C = clsOf K k.tag ∧ Q (.int k.least) H
def sp_Kind_greatest (K : PySem.W.Frag) (C : Addr) : Sp := fun vs H Q _ => ∃ a k, vs = [.ref a] ∧ KindAt K H a k ∧ C = clsOf K k.tag ∧ Q (.int k.greatest) H
def KindM.isCount (k : KindM) (n : Int) : Bool := decide (k.least ≤ n) && decide (n ≤ k.greatest)
def sp_Kind_is_count (K : PySem.W.Frag) (_ : Addr) : Sp := fun vs H Q _ => ∃ a k n, vs = [.ref a, .int n] ∧ KindAt K H a k ∧ Q (.bl (k.isCount n)) H
/-- the count of bits -/
def KindM.countOf (k : KindM) (b : Int) : Int := if b > k.greatest then b - k.B else b
def sp_Kind_count_of (K : PySem.W.Frag) (_ : Addr) : Sp := fun vs H Q _ => ∃ a k b, vs = [.ref a, .int b] ∧ KindAt K H a k ∧ 0 ≤ b ∧ b < k.B ∧ Rt H Q (.int (k.countOf b))
/-- the bits of a number, gone round -/
def KindM.bitsOf (k : KindM) (c : Int) : Int := c % k.B
def sp_Kind_bits_of (K : PySem.W.Frag) (_ : Addr) : Sp := fun vs H Q _ => ∃ a k c, vs = [.ref a, .int c] ∧ KindAt K H a k ∧ k.isCount c = true ∧ Q (.int (k.bitsOf c)) H
end OW

set_option maxHeartbeats 4000000
namespace OW
open PySem PySem.Spec PyProof.Rows L2
/-! ### code that no caller of a promise reaches -/
section
variable {X : Cx} {e : Expr} {es : List Expr} {st : Stmt} {sts : List Stmt}
theorem pe_dead : PE X e (fun _ _ _ => False) := ⟨fun _ _ _ _ _ _ h => h.elim⟩
theorem pt_dead : PT X e (fun _ _ _ => False) := ⟨fun _ _ _ _ _ _ h => h.elim⟩
theorem pw_dead : PW X e (fun _ _ _ => False) := ⟨fun _ _ _ _ _ _ _ h => h.elim⟩
theorem ps_dead : PS X st (fun _ _ _ => False) := ⟨fun _ _ _ _ _ _ h => h.elim⟩
theorem pss_dead : PSs X sts (fun _ _ _ => False) := ⟨fun _ _ _ _ _ _ h => h.elim⟩
end
end OW

set_option maxHeartbeats 4000000
namespace OW
open PySem PySem.Spec PyProof.Rows L2
section
variable {σ : L2.St} {H H1 : Hp} {Q : VK} {K : PySem.W.Frag} {i j : Int} {p : Addr} {xs : List V} {v x y z : V} {D : Ends} {tb : TS} {c : TT}
theorem r_gT2 {n m : Nat} {N : L2.St → Hp → Prop} (hs : SqT K H p [x, y]) (h : N ((σ.set n (some x)).set m (some y)) H) : gTup K 2 (gCons (gName n) (gCons (gName m) gNil)) (.ref p) σ H N :=
  ⟨p, _, rfl, hs, rfl, x, _, rfl, y, _, rfl, rfl, h⟩
theorem r_gT3 {n m l : Nat} {N : L2.St → Hp → Prop} (hs : SqT K H p [x, y, z]) (h : N (((σ.set n (some x)).set m (some y)).set l (some z)) H) : gTup K 3 (gCons (gName n) (gCons (gName m) (gCons (gName l) gNil))) (.ref p) σ H N :=
  ⟨p, _, rfl, hs, rfl, x, _, rfl, y, _, rfl, z, _, rfl, rfl, h⟩
theorem r_in1 {P : Int → Prop} (h : P i) : ∃ i', [V.int i] = [.int i'] ∧ P i' := ⟨i, rfl, h⟩
theorem r_dm {P : Int → Int → Prop} (c : CDiv i j) (h : P i j) : ∃ i' j', [V.int i, V.int j] = [.int i', .int j'] ∧ CDiv i' j' ∧ P i' j' := ⟨i, j, rfl, c, h⟩
theorem r_while0 (hc : ∀ B : Bool → Hp → Prop, B false H → c σ H B) (h : D.nx σ H) : tWhile c tb D σ H :=
  ⟨fun _ σ' H' => σ' = σ ∧ H' = H, ⟨0, rfl, rfl⟩, by
    rintro m σ' H' ⟨rfl, rfl⟩
    exact hc _ (by rw [if_neg (by decide)]; exact h)⟩
theorem r_isiStr {a : Str} (h : Q (.bl true) H) : rIsi K [.str a, .ty "str"] H Q := ⟨_, .ty "str", _, _, true, rfl, .ty _, .base (.str a), kit_ty (by decide +kernel), h⟩
theorem r_bmS {r : V → List V → Hp → VK → Prop} {to : TE} {t : TA} (h : to σ H fun x H1 => (∃ a, x = .str a) ∧ t σ H1 fun xs H2 => r x xs H2 Q) (mono : ∀ R R' : V → Hp → Prop, (∀ v H1, R v H1 → R' v H1) → to σ H R → to σ H R') : tBM K "str" r to t σ H Q :=
  mono _ _ (fun v H1 ⟨⟨a, e⟩, k⟩ => ⟨by subst e; exact rfl, k⟩) h
theorem r_bmSc {r : V → List V → Hp → VK → Prop} {a : Str} {t : TA} (h : t σ H fun xs H2 => r (.str a) xs H2 Q) : tBM K "str" r (tC (.str a)) t σ H Q := ⟨rfl, h⟩
theorem r_bmSv {r : V → List V → Hp → VK → Prop} {a : Str} {n : Nat} {t : TA} (e : σ[n]? = some (some (.str a))) (h : t σ H fun xs H2 => r (.str a) xs H2 Q) : tBM K "str" r (tVar n) t σ H Q := ⟨_, e, rfl, h⟩
theorem r_m1 {r : V → List V → Hp → VK → Prop} {to te : TE} (h : to σ H fun x H1 => (∃ a, x = .str a) ∧ te σ H1 fun y H2 => r x [y] H2 Q) : tM1 r to te σ H Q := h
theorem r_s1 {a b : Str} {P : Str → Str → Prop} (h : P a b) : ∃ a' b', V.str a = .str a' ∧ [V.str b] = [.str b'] ∧ P a' b' := ⟨a, b, rfl, rfl, h⟩
theorem log_ok {i : Int} (h : i.natAbs ≤ 1099511627776) : i.natAbs.log2 < 1920 := by
  by_cases e : i.natAbs = 0
  · rw [e]; decide
  · exact (Nat.log2_lt e).mpr (Nat.lt_of_le_of_lt h (Nat.lt_of_lt_of_le (show 1099511627776 < 2 ^ 41 by decide) (Nat.pow_le_pow_right (by decide) (by decide))))
theorem log_ok' {i : Int} (h0 : -1000000000000 ≤ i) (h1 : i ≤ 1000000000000) : i.natAbs.log2 < 1920 := log_ok (by omega)
end
/-- the heap changed at one place only -/
def OnlyAt (a : Addr) (o : HO) (H H' : Hp) : Prop := H' a = some o ∧ ∀ b, b ≠ a → H' b = H b
theorem OnlyAt.upd {a : Addr} {o : HO} {H : Hp} : OnlyAt a o H (upd H a o) := ⟨upd_same, fun _ h => upd_ne h⟩
theorem OnlyAt.step {a : Addr} {o o' : HO} {H H' : Hp} (h : OnlyAt a o H H') : OnlyAt a o' H (L2.upd H' a o') := ⟨upd_same, fun b hb => by rw [upd_ne hb]; exact h.2 b hb⟩
theorem OnlyAt.same {a : Addr} {o : HO} {H H' : Hp} (h : OnlyAt a o H H') (n : H a = none) : Same H H' := fun b u e => by
  rw [h.2 b (ne_of_none e n)]; exact e
theorem OnlyAt.new {a dx : Addr} {o o' o2 : HO} {H H' : Hp} (h : OnlyAt a o' (L2.upd (L2.upd H dx o2) a o) H') (n : H a = none) (nd : H dx = none) : Same H H' := fun b u e => by
  rw [h.2 b (ne_of_none e n), upd_ne (ne_of_none e n), upd_ne (ne_of_none e nd)]; exact e
end OW

set_option maxHeartbeats 4000000
namespace OW
open PySem PySem.Spec PyProof.Rows L2
/-! ### zip of a text and a list -/
def Itzs (K : PySem.W.Frag) (x : Str) (b : Addr) : It :=
  ⟨fun i H => i < x.cps.size ∧ ∃ (ys : List V) (y : V), SqL K H b ys ∧ ys[i]? = some y,
    fun i H v H' => ∃ T c y, v = .ref T ∧ H T = none ∧ H' = upd H T (.tup [.str ⟨#[c]⟩, y]) ∧ x.cps[i]? = some c ∧ ∀ ys, SqL K H b ys → ys[i]? = some y,
    fun i H => ∃ ys : List V, SqL K H b ys ∧ i ≤ x.cps.size ∧ i ≤ ys.length ∧ (i = x.cps.size ∨ i = ys.length)⟩
theorem turn_zipSL {P : Program} {w : World} {K : PySem.W.Frag} {elts : List Expr} {kk : Nat} {tpos : Pos} {x : Str} {t : Tok} {b z TI TO i1 i2 : Addr} (S : ZipSep2 z TI TO i1 i2 [i1] [i2, b]) :
    Turn P w K (.Tuple elts kk tpos) (Itzs K x b) [z, TI, TO, i1, i2] z (fun i h => IsZip h z TI TO .none ∧ IsTupOf2 h TI (.ref i1) (.ref i2) ∧ (∃ p q, IsTupOf2 h TO p q) ∧ h.IsStrIter i1 (strIterType x) x t i ∧ h.IsListIter i2 b i) where
  mem := by simp
  obj := fun i h st c hc => by
    obtain ⟨hz, hTI, ⟨p, q, hTO⟩, ⟨o1, e1, _, d1⟩, ⟨o2, e2, _, d2⟩⟩ := st
    have e' : c = z ∨ c = TI ∨ c = TO ∨ c = i1 ∨ c = i2 := by simpa using hc
    rcases e' with r | r | r | r | r
    · rw [r]; exact ⟨_, hz, fun v u => nomatch u⟩
    · rw [r]; exact ⟨_, hTI, fun v u => nomatch u⟩
    · rw [r]; exact ⟨_, hTO, fun v u => nomatch u⟩
    · exact ⟨_, by rw [r]; exact e1, fun v u => by rw [d1] at u; cases u⟩
    · exact ⟨_, by rw [r]; exact e2, fun v u => by rw [d2] at u; cases u⟩
  keep := fun i h h' st k => by
    obtain ⟨hz, hTI, ⟨p, q, hTO⟩, ⟨o1, e1, r1⟩, h2⟩ := st
    exact ⟨k z (by simp) _ hz, k TI (by simp) _ hTI, ⟨p, q, k TO (by simp) _ hTO⟩, ⟨o1, k i1 (by simp) _ e1, r1⟩, h2.at fun o u => k i2 (by simp) o u⟩
  item := by
    intro X hP hw hK hc i pins s σ H E I hf st hg
    subst hP hw hK
    obtain ⟨hz, hTI, ⟨p, q, hTO⟩, h1, h2⟩ := st
    obtain ⟨hi, ys, y, hqy, hy⟩ := hg
    obtain ⟨its2, rv2, p2, _⟩ := I.list hqy
    obtain ⟨u2, hu2, ru2⟩ := rv2.get hy
    have hzl : z < s.heap.objs.size := Heap.lt_size hz
    have hh := I.ok.hd hc
    have l2 : i < its2.toArray.size := by
      have := (List.getElem?_eq_some_iff.mp hu2).1
      simpa using this
    have bne : b ≠ i2 := fun e => by
      obtain ⟨o, eo, co, _⟩ := h2
      obtain ⟨o', eo', co', _⟩ := p2.isList
      rw [e, eo] at eo'
      cases eo'
      rw [co] at co'
      injection co' with q
      exact absurd q (by decide)
    have D1 := Draws.text (prog := X.prog) (w := X.w) (A := X.A.in1) hh i1 x t
    have D2 := Draws.list (prog := X.prog) (w := X.w) (A := X.A.in1) hh i2 b bne its2.toArray
    refine wpAny_pyNext_zipD2_item S D1 D2 hz hTI hTO h1 ⟨h2, p2.isList⟩ hi l2 fun x1 x2 h' tk y1 y2 z' TO' d1 d2 hT hsz hk => ?_
    obtain ⟨c, u, hcx, rfl⟩ := y1
    have e2 : x2 = u2 := by
      have hu3 : its2.toArray[i]? = some u2 := by simpa using hu2
      rw [hu3] at y2
      exact (Option.some.inj y2).symm
    subst e2
    refine ⟨_, rfl, wpAny_letOwnedTupleGo_zip (s := { s with heap := h', toks := tk }) z' fun h'' z'' sb => ?_⟩
    have hT2 : h''.get? s.heap.objs.size = some { cls := .type "tuple", data := .seq #[.str ⟨#[c]⟩ u, x2] } := (sb.2 _ (Nat.ne_of_gt hzl)).trans hT
    have new : ObjOk X.prog X.w (upd H s.heap.objs.size (.tup [.str ⟨#[c]⟩, y])) h'' s.heap.objs.size (.tup [.str ⟨#[c]⟩, y]) :=
      ⟨by show 2 ≤ sizeLine; decide, [.str ⟨#[c]⟩ u, x2], .cons ⟨u, rfl⟩ (.cons ru2 .nil), ⟨_, hT2, rfl, _, rfl⟩⟩
    have I1 : Inv X pins σ (upd H s.heap.objs.size (.tup [.str ⟨#[c]⟩, y])) { s with heap := h'', toks := tk } :=
      I.turnedNew (t' := tk) (ch := [z, TI, TO, i1, i2]) (fun c o hb q => (sb.2 c (fun q' => hb (by simp [q']))).trans (hk c o (fun q' => hb (by simp [q'])) (fun q' => hb (by simp [q'])) (fun q' => hb (by simp [q'])) (fun q' => hb (by simp [q'])) q)) hf (Nat.le_refl _) new
    refine ⟨.ref s.heap.objs.size, _, I1, rfl, ⟨_, c, y, rfl, I.hok.fresh (Nat.le_refl _), rfl, hcx, fun l hl => by rw [I.list_inj hl hqy]; exact hy⟩, ⟨z'', ?_, ⟨.str ⟨#[c]⟩ u, x2, ?_⟩, ?_, ?_⟩, fun c hcm => ?_⟩
    · exact (sb.2 _ S.TIz).trans (hk _ _ S.TIz S.TITO S.TIi1 S.TIi2 hTI)
    · exact (sb.2 _ S.TOz).trans TO'
    · obtain ⟨o1, e1, r1⟩ := d1
      exact ⟨o1, (sb.2 _ S.zi1.symm).trans e1, r1⟩
    · exact d2.1.at fun o q => (sb.2 _ S.zi2.symm).trans q
    · have hlt : c < s.heap.objs.size := by
        have e' : c = z ∨ c = TI ∨ c = TO ∨ c = i1 ∨ c = i2 := by simpa using hcm
        rcases e' with q | q | q | q | q
        · rw [q]; exact hzl
        · rw [q]; exact Heap.lt_size hTI
        · rw [q]; exact Heap.lt_size hTO
        · rw [q]; obtain ⟨_, e1, _⟩ := h1; exact Heap.lt_size e1
        · rw [q]; obtain ⟨_, e1, _⟩ := h2; exact Heap.lt_size e1
      rw [upd_ne (Nat.ne_of_lt hlt)]
      exact (hf c hcm).1
  done := by
    intro X hP hw hK hc i pins s σ H E I hf st hg
    subst hP hw hK
    obtain ⟨hz, hTI, ⟨p, q, hTO⟩, h1, h2⟩ := st
    obtain ⟨ys, hqy, hi1, hi2, hend⟩ := hg
    obtain ⟨its2, rv2, p2, _⟩ := I.list hqy
    have l2 := rv2.length
    have hh := I.ok.hd hc
    have bne : b ≠ i2 := fun e => by
      obtain ⟨o, eo, co, _⟩ := h2
      obtain ⟨o', eo', co', _⟩ := p2.isList
      rw [e, eo] at eo'
      cases eo'
      rw [co] at co'
      injection co' with q
      exact absurd q (by decide)
    have l3 : its2.toArray.size = ys.length := by rw [l2]; exact List.size_toArray
    have D1 := Draws.text (prog := X.prog) (w := X.w) (A := X.A.in1) hh i1 x t
    have D2 := Draws.list (prog := X.prog) (w := X.w) (A := X.A.in1) hh i2 b bne its2.toArray
    refine wpAny_pyNext_zipD2_end S D1 D2 hz hTI hTO h1 ⟨h2, p2.isList⟩ hi1 (by rw [l3]; exact hi2) (by rw [l3]; exact hend) fun h' tk hk => ⟨rfl, I.turnedL (t' := tk) (ch := [z, TI, TO, i1, i2]) (fun c o hb q =>
      hk c o (fun q' => hb (by simp [q'])) (fun q' => hb (by simp [q'])) (fun q' => hb (by simp [q'])) (fun q' => hb (by simp [q'])) q) hf⟩
  self := fun A i s Q E st h => wpAny_pyIter_zip st.1 h
def iZipSL (K : PySem.W.Frag) (ta : TA) : TI := fun σ H R => ta σ H fun vs H1 => ∃ x b ys, vs = [.str x, .ref b] ∧ SqL K H1 b ys ∧ R (Itzs K x b) H1
theorem pi_zipSL {X : Cx} {e e2 : Expr} {ta : TA} {p pos tpos : Pos} {elts : List Expr} {kk : Nat} (hg : Gl X "zip") (hm : X.mg "zip" = none) (ha : PA X [e, e2] ta)
    (hs : starEach [e, e2] X.env = (false, eval e X.env) :: starEach [e2] X.env := by rfl) (hpl : (backTo pos (starEach [e2] X.env)).any (·.1) = false := by rfl) :
    PI X (.Tuple elts kk tpos) (.Call (.Name "zip" p) [e, e2] [] pos) (iZipSL X.K ta) := by
  refine ⟨fun pins s σ H R I h => ?_⟩
  refine Call_ (ld_blt I hg hm PyProof.Rows.boot_zip (PyProof.Rows.callWith_type1 (thn (ha.run pos pins s σ H _ I h) fun us s1 ⟨vs, H1, I1, r1, q1⟩ => ?_) hs hpl))
  obtain ⟨x, b, ys, ex, hqy, q⟩ := q1
  subst ex
  cases r1 with
  | cons r rr =>
    cases rr with
    | cons r' rr =>
      cases rr
      obtain ⟨t, rfl⟩ := r
      cases r'
      obtain ⟨its2, rv2, p2, _⟩ := I1.list hqy
      have lb : b < s1.heap.objs.size := p2.lt
      refine zip_begins2 (begins_text x t) (begins_list b its2.toArray) trivial p2.isList fun h' hz hTI hTO h1 h2 hsz hk => wpAny_pyIter_zip hz ?_
      have I2 : Inv X pins σ H1 { s1 with heap := h' } := I1.kept (t' := s1.toks) hk
      have D := PySem.W.ktu_apart s1.heap.objs.size b b lb lb
      have S : ZipSep2 (s1.heap.objs.size + 4) (s1.heap.objs.size + 2) (s1.heap.objs.size + 3) s1.heap.objs.size (s1.heap.objs.size + 1) [s1.heap.objs.size] [s1.heap.objs.size + 1, b] :=
        ⟨D.TIz, D.TOz, D.TITO, D.TIi1, by simp, by simp, by simp, D.TIi2, by simp, by simpa using Ne.symm D.l2z, by simpa using Ne.symm D.l2TO, by simpa using Ne.symm D.l2i1, by simp⟩
      refine ⟨s1.heap.objs.size + 4, [s1.heap.objs.size + 4, s1.heap.objs.size + 2, s1.heap.objs.size + 3, s1.heap.objs.size, s1.heap.objs.size + 1], _, _, H1, rfl, I2, turn_zipSL S, ⟨hz, hTI, ⟨_, _, hTO⟩, ⟨_, h1, rfl, rfl⟩, ⟨_, h2, rfl, rfl⟩⟩, fun c hcm => ?_, q⟩
      have e' : c = s1.heap.objs.size + 4 ∨ c = s1.heap.objs.size + 2 ∨ c = s1.heap.objs.size + 3 ∨ c = s1.heap.objs.size ∨ c = s1.heap.objs.size + 1 := by simpa using hcm
      have hle : s1.heap.objs.size ≤ c := by
        rcases e' with u | u | u | u | u
        · rw [u]; exact Nat.le_add_right _ _
        · rw [u]; exact Nat.le_add_right _ _
        · rw [u]; exact Nat.le_add_right _ _
        · rw [u]; exact Nat.le_refl _
        · rw [u]; exact Nat.le_add_right _ _
      exact I1.fpOk hle (I1.hok.fresh hle)
end OW

set_option maxHeartbeats 4000000
namespace OW
open PySem PySem.Spec PyProof.Rows L2
/-! ### a list against an empty one, and against another length -/
def sameLen (xs ys : List V) : Prop := xs.length ≠ ys.length ∨ ys = []
def rEqE (K : PySem.W.Frag) : R2 := fun x y H Q => ∃ a b xs ys, x = .ref a ∧ y = .ref b ∧ SqL K H a xs ∧ SqL K H b ys ∧ sameLen xs ys ∧ Q (.bl (xs.length == ys.length)) H
def rNeE (K : PySem.W.Frag) : R2 := fun x y H Q => ∃ a b xs ys, x = .ref a ∧ y = .ref b ∧ SqL K H a xs ∧ SqL K H b ys ∧ sameLen xs ys ∧ Q (.bl (!(xs.length == ys.length))) H
section
variable {X : Cx}
theorem op_eqE (hu : X.A.units + 64 < cLine) : OpR X (compareOp .Eq) (rEqE X.K) := by
  intro pins s σ H x y v u Q I rx ry h
  obtain ⟨a, b, xs, ys, rfl, rfl, ha, hb, hs, q⟩ := h
  obtain rfl : v = Value.ref a := rx
  obtain rfl : u = Value.ref b := ry
  obtain ⟨us, r1, p1, _⟩ := I.list ha
  obtain ⟨ws, r2, p2, _⟩ := I.list hb
  have l1 := r1.length
  have l2 := r2.length
  have s1 : us.toArray.size = xs.length := by rw [l1]; exact List.size_toArray
  have s2 : ws.toArray.size = ys.length := by rw [l2]; exact List.size_toArray
  show wpAny (model X.prog X.w) X.A (richCompare .Eq (.ref a) (.ref b)) (EP X pins σ Q) X.xe s
  by_cases hl : xs.length = ys.length
  · have hy : ys = [] := hs.resolve_left fun z => z hl
    have hz : us.toArray.size = 0 := by rw [s1, hl, hy]; rfl
    refine SeqAt.RcAt.lists (e := fun _ => true) p1.isList p2.isList (by rw [s1, s2, hl]) (by omega) (fun j h1 _ => absurd h1 (by omega)) _ _ _ _ ?_
    rw [show ((List.range us.toArray.size).all fun _ => true) = (xs.length == ys.length) by rw [hl]; simp]
    exact ⟨.bl _, H, I, rfl, q⟩
  · refine SeqAt.RcAt.lists_lengths p1.isList p2.isList (by rw [s1, s2]; simpa using hl) (by omega) _ _ _ _ ?_
    rw [show (xs.length == ys.length) = false by simpa using hl] at q
    exact ⟨.bl _, H, I, rfl, q⟩
theorem op_neE (hu : X.A.units + 64 < cLine) : OpR X (compareOp .NotEq) (rNeE X.K) := by
  intro pins s σ H x y v u Q I rx ry h
  obtain ⟨a, b, xs, ys, rfl, rfl, ha, hb, hs, q⟩ := h
  obtain rfl : v = Value.ref a := rx
  obtain rfl : u = Value.ref b := ry
  obtain ⟨us, r1, p1, _⟩ := I.list ha
  obtain ⟨ws, r2, p2, _⟩ := I.list hb
  have l1 := r1.length
  have l2 := r2.length
  have s1 : us.toArray.size = xs.length := by rw [l1]; exact List.size_toArray
  have s2 : ws.toArray.size = ys.length := by rw [l2]; exact List.size_toArray
  show wpAny (model X.prog X.w) X.A (richCompare .NotEq (.ref a) (.ref b)) (EP X pins σ Q) X.xe s
  by_cases hl : xs.length = ys.length
  · have hy : ys = [] := hs.resolve_left fun z => z hl
    have hz : us.toArray.size = 0 := by rw [s1, hl, hy]; rfl
    refine SeqAt.RcNeAt.lists (e := fun _ => true) p1.isList p2.isList (by rw [s1, s2, hl]) (by omega) (fun j h1 _ => absurd h1 (by omega)) _ _ _ _ ?_
    rw [show (!((List.range us.toArray.size).all fun _ => true)) = (!(xs.length == ys.length)) by rw [hl]; simp]
    exact ⟨.bl _, H, I, rfl, q⟩
  · refine SeqAt.RcNeAt.lists_lengths p1.isList p2.isList (by rw [s1, s2]; simpa using hl) (by omega) _ _ _ _ ?_
    rw [show (xs.length == ys.length) = false by simpa using hl] at q
    exact ⟨.bl _, H, I, rfl, q⟩
end
section
variable {σ : L2.St} {H H1 : Hp} {Q : VK} {K : PySem.W.Frag} {p q : Addr} {xs ys : List V}
theorem r_eqE0 (ha : SqL K H p []) (hb : SqL K H q []) (h : Q (.bl true) H) : rEqE K (.ref p) (.ref q) H Q := ⟨p, q, _, _, rfl, rfl, ha, hb, .inr rfl, h⟩
theorem r_eqE1 (ha : SqL K H p xs) (hb : SqL K H q ys) (hn : xs.length ≠ ys.length) (h : Q (.bl false) H) : rEqE K (.ref p) (.ref q) H Q := ⟨p, q, _, _, rfl, rfl, ha, hb, .inl hn, by rw [show (xs.length == ys.length) = false by simpa using hn]; exact h⟩
theorem r_neE0 (ha : SqL K H p []) (hb : SqL K H q []) (h : Q (.bl false) H) : rNeE K (.ref p) (.ref q) H Q := ⟨p, q, _, _, rfl, rfl, ha, hb, .inr rfl, h⟩
theorem r_neE1 (ha : SqL K H p xs) (hb : SqL K H q ys) (hn : xs.length ≠ ys.length) (h : Q (.bl true) H) : rNeE K (.ref p) (.ref q) H Q := ⟨p, q, _, _, rfl, rfl, ha, hb, .inl hn, by rw [show (xs.length == ys.length) = false by simpa using hn]; exact h⟩
end
end OW

set_option maxHeartbeats 4000000
namespace OW
open PySem PySem.Spec PyProof.Rows L2
/-! ### the told program: rows, drafts -/
def num (n : Int) : Str := Str.ofString (toString n)
inductive Rows where
  | nil
  | row (ln : Int) (deed : Str) (goals reads : List Str) (numbers : List Int) (rest : Rows)
  | rep (ln tm : Int) (body rest : Rows)
  deriving DecidableEq
def Rows.app : Rows → Rows → Rows
  | .nil, y => y
  | .row l d g r n t, y => .row l d g r n (t.app y)
  | .rep l m b t, y => .rep l m b (t.app y)
/-- the fields -/
def rowFs (ln : Int) (deed : Str) (g r n : Addr) : List (Str × V) := [("line", .int ln), ("deed", .str deed), ("goals", .ref g), ("reads", .ref r), ("numbers", .ref n), ("way", .str "")]
def repFs (ln tm : Int) (r : Addr) : List (Str × V) := [("line", .int ln), ("times", .int tm), ("rows", .ref r)]
def draftFs (wd : Int) (i r o l k c : Addr) : List (Str × V) := [("width", .int wd), ("inputs", .ref i), ("rows", .ref r), ("outs", .ref o), ("loops", .ref l), ("known", .ref k), ("chosen", .ref c)]
def RowsAt (K : PySem.W.Frag) (F : Hp) : Rows → List V → Prop
  | .nil, vs => vs = []
  | .row ln deed gs rs ns rest, vs => ∃ a dx g r n vs', vs = .ref a :: vs' ∧ F a = some (.ins (He.ga K "Row") dx (rowFs ln deed g r n)) ∧ F g = some (.lst (gs.map .str)) ∧ F r = some (.lst (rs.map .str)) ∧ F n = some (.lst (ns.map .int)) ∧ RowsAt K F rest vs'
  | .rep ln tm body rest, vs => ∃ a dx b ws vs', vs = .ref a :: vs' ∧ F a = some (.ins (He.ga K "Repeat") dx (repFs ln tm b)) ∧ F b = some (.lst ws) ∧ RowsAt K F body ws ∧ RowsAt K F rest vs'
theorem RowsAt.on {K : PySem.W.Frag} {F F' : Hp} (s : Same F F') : ∀ {r : Rows} {vs : List V}, RowsAt K F r vs → RowsAt K F' r vs
  | .nil, _, h => h
  | .row .., _, ⟨a, dx, g, r, n, vs', e, h1, h2, h3, h4, h5⟩ => ⟨a, dx, g, r, n, vs', e, s _ _ h1, s _ _ h2, s _ _ h3, s _ _ h4, RowsAt.on s h5⟩
  | .rep .., _, ⟨a, dx, b, ws, vs', e, h1, h2, h3, h4⟩ => ⟨a, dx, b, ws, vs', e, s _ _ h1, s _ _ h2, RowsAt.on s h3, RowsAt.on s h4⟩
theorem RowsAt.app {K : PySem.W.Frag} {F : Hp} {y : Rows} {us : List V} (hy : RowsAt K F y us) : ∀ {r : Rows} {vs : List V}, RowsAt K F r vs → RowsAt K F (r.app y) (vs ++ us)
  | .nil, _, h => by subst h; exact hy
  | .row .., _, ⟨a, dx, g, r, n, vs', e, h1, h2, h3, h4, h5⟩ => ⟨a, dx, g, r, n, vs' ++ us, by rw [e]; rfl, h1, h2, h3, h4, RowsAt.app hy h5⟩
  | .rep .., _, ⟨a, dx, b, ws, vs', e, h1, h2, h3, h4⟩ => ⟨a, dx, b, ws, vs' ++ us, by rw [e]; rfl, h1, h2, h3, RowsAt.app hy h4⟩
def Rows.len : Rows → Nat
  | .nil => 0
  | .row _ _ _ _ _ t => t.len + 1
  | .rep _ _ _ t => t.len + 1
theorem RowsAt.len {K : PySem.W.Frag} {F : Hp} : ∀ {r : Rows} {vs : List V}, RowsAt K F r vs → vs.length = r.len
  | .nil, _, h => by rw [h]; rfl
  | .row .., _, ⟨a, dx, g, r, n, vs', e, h1, h2, h3, h4, h5⟩ => by rw [e, List.length_cons, h5.len]; rfl
  | .rep .., _, ⟨a, dx, b, ws, vs', e, h1, h2, h3, h4⟩ => by rw [e, List.length_cons, h4.len]; rfl
theorem RowsAt.nil_iff {K : PySem.W.Frag} {F : Hp} {r : Rows} {vs : List V} (h : RowsAt K F r vs) : vs = [] ↔ r = .nil := by
  cases r with
  | nil => exact ⟨fun _ => rfl, fun _ => h⟩
  | row l d g r n t => obtain ⟨a, dx, g, r, n, vs', e, _⟩ := h; subst e; exact ⟨(fun z => nomatch z), (fun z => nomatch z)⟩
  | rep l m b t => obtain ⟨a, dx, b, ws, vs', e, _⟩ := h; subst e; exact ⟨(fun z => nomatch z), (fun z => nomatch z)⟩
/-- open loops, the innermost first -/
def LoopsAt (K : PySem.W.Frag) (F H : Hp) : List (Int × Int × Rows) → List V → List Addr → Prop
  | [], vs, rs => vs = [] ∧ rs = []
  | (ln, tm, body) :: l, vs, rs => ∃ a dx r ws vs' rs', vs = vs' ++ [.ref a] ∧ rs = r :: rs' ∧ F a = some (.ins (He.ga K "Repeat") dx (repFs ln tm r)) ∧ H r = some (.lst ws) ∧ RowsAt K F body ws ∧ LoopsAt K F H l vs' rs'
theorem LoopsAt.on {K : PySem.W.Frag} {F F' H H' : Hp} (s : Same F F') : ∀ {l : List (Int × Int × Rows)} {vs : List V} {rs : List Addr}, (∀ r ∈ rs, H' r = H r) → LoopsAt K F H l vs rs → LoopsAt K F' H' l vs rs
  | [], _, _, _, h => h
  | (_, _, _) :: _, _, _, k, ⟨a, dx, r, ws, vs', rs', e1, e2, h1, h2, h4, h5⟩ => ⟨a, dx, r, ws, vs', rs', e1, e2, s _ _ h1, by rw [k r (by rw [e2]; exact List.mem_cons_self)]; exact h2, h4.on s,
    LoopsAt.on s (fun r hr => k r (by rw [e2]; exact List.mem_cons_of_mem _ hr)) h5⟩
theorem LoopsAt.len {K : PySem.W.Frag} {F H : Hp} : ∀ {l : List (Int × Int × Rows)} {vs : List V} {rs : List Addr}, LoopsAt K F H l vs rs → vs.length = l.length
  | [], _, _, h => by rw [h.1]; rfl
  | (_, _, _) :: l, _, _, ⟨a, dx, r, ws, vs', rs', e1, e2, h1, h2, h4, h5⟩ => by rw [e1, List.length_append, LoopsAt.len h5]; rfl
theorem LoopsAt.alloc {K : PySem.W.Frag} {F H : Hp} : ∀ {l : List (Int × Int × Rows)} {vs : List V} {rs : List Addr}, LoopsAt K F H l vs rs → ∀ r ∈ rs, H r ≠ none
  | [], _, _, h, r, hr => by rw [h.2] at hr; cases hr
  | (_, _, _) :: l, _, _, ⟨a, dx, r', ws, vs', rs', e1, e2, h1, h2, h4, h5⟩, r, hr => by
    rw [e2] at hr
    rcases List.mem_cons.mp hr with rfl | hr
    · rw [h2]; exact fun z => nomatch z
    · exact LoopsAt.alloc h5 r hr
/-- what came in, what goes out -/
def InsAt (K : PySem.W.Frag) (F : Hp) (wd : Int) : List (Int × Str) → List V → Prop
  | [], vs => vs = []
  | (ln, nm) :: l, vs => ∃ t k vs', vs = .ref t :: vs' ∧ F t = some (.tup [.int ln, .str nm, .ref k]) ∧ KindAt K F k ⟨.plain, wd, 0⟩ ∧ InsAt K F wd l vs'
def OutsAt (F : Hp) : List (Int × Str) → List V → Prop
  | [], vs => vs = []
  | (ln, nm) :: l, vs => ∃ t vs', vs = .ref t :: vs' ∧ F t = some (.tup [.int ln, .str nm]) ∧ OutsAt F l vs'
theorem InsAt.on {K : PySem.W.Frag} {F F' : Hp} {wd : Int} (s : Same F F') : ∀ {l : List (Int × Str)} {vs : List V}, InsAt K F wd l vs → InsAt K F' wd l vs
  | [], _, h => h
  | (_, _) :: _, _, ⟨t, k, vs', e, h1, h2, h3⟩ => ⟨t, k, vs', e, s _ _ h1, h2.on s, InsAt.on s h3⟩
theorem InsAt.snoc {K : PySem.W.Frag} {F : Hp} {wd ln : Int} {nm : Str} {t k : Addr} (ht : F t = some (.tup [.int ln, .str nm, .ref k])) (hk : KindAt K F k ⟨.plain, wd, 0⟩) : ∀ {l : List (Int × Str)} {vs : List V}, InsAt K F wd l vs → InsAt K F wd (l ++ [(ln, nm)]) (vs ++ [.ref t])
  | [], _, h => by subst h; exact ⟨t, k, [], rfl, ht, hk, rfl⟩
  | (_, _) :: _, _, ⟨t', k', vs', e, h1, h2, h3⟩ => ⟨t', k', vs' ++ [.ref t], by rw [e]; rfl, h1, h2, InsAt.snoc ht hk h3⟩
theorem OutsAt.on {F F' : Hp} (s : Same F F') : ∀ {l : List (Int × Str)} {vs : List V}, OutsAt F l vs → OutsAt F' l vs
  | [], _, h => h
  | (_, _) :: _, _, ⟨t, vs', e, h1, h3⟩ => ⟨t, vs', e, s _ _ h1, OutsAt.on s h3⟩
theorem OutsAt.snoc {F : Hp} {ln : Int} {nm : Str} {t : Addr} (ht : F t = some (.tup [.int ln, .str nm])) : ∀ {l : List (Int × Str)} {vs : List V}, OutsAt F l vs → OutsAt F (l ++ [(ln, nm)]) (vs ++ [.ref t])
  | [], _, h => by subst h; exact ⟨t, [], rfl, ht, rfl⟩
  | (_, _) :: _, _, ⟨t', vs', e, h1, h3⟩ => ⟨t', vs' ++ [.ref t], by rw [e]; rfl, h1, OutsAt.snoc ht h3⟩
theorem InsAt.len {K : PySem.W.Frag} {F : Hp} {wd : Int} : ∀ {l : List (Int × Str)} {vs : List V}, InsAt K F wd l vs → vs.length = l.length
  | [], _, h => by rw [h]; rfl
  | (_, _) :: _, _, ⟨t', k', vs', e, h1, h2, h3⟩ => by rw [e, List.length_cons, InsAt.len h3]; rfl
theorem OutsAt.len {F : Hp} : ∀ {l : List (Int × Str)} {vs : List V}, OutsAt F l vs → vs.length = l.length
  | [], _, h => by rw [h]; rfl
  | (_, _) :: _, _, ⟨t', vs', e, h1, h3⟩ => by rw [e, List.length_cons, OutsAt.len h3]; rfl
/-- the names known -/
def putN (l : List Str) (n : Str) : List Str := if n ∈ l then l else l ++ [n]
def knownD (l : List Str) : List (Key × V) := l.map fun n => (Sum.inr n, V.bl true)
theorem valV_known (n : Str) : ∀ l : List Str, valV (knownD l) (Sum.inr n) = if n ∈ l then some (.bl true) else none
  | [] => rfl
  | a :: l => by
    by_cases h : a = n
    · subst h
      rw [if_pos List.mem_cons_self]
      exact valV_pos rfl
    · have e : valV (knownD (a :: l)) (Sum.inr n) = valV (knownD l) (Sum.inr n) := valV_neg (p := (Sum.inr a, V.bl true)) (fun z => h (Sum.inr.inj z))
      rw [e, valV_known n l]
      have : (n ∈ a :: l) ↔ n ∈ l := by simp [Ne.symm h]
      simp only [this]
theorem known_put (l : List Str) (n : Str) : putK (knownD l) (Sum.inr n) (.bl true) = knownD (putN l n) := by
  unfold putN
  by_cases h : n ∈ l
  · rw [if_pos h]
    unfold putK
    have ha : ((knownD l).any fun kv => decide (kv.1 = (Sum.inr n : Key))) = true := by
      rw [List.any_eq_true]
      exact ⟨(Sum.inr n, .bl true), List.mem_map.mpr ⟨n, h, rfl⟩, by simp⟩
    rw [if_pos ha]
    unfold knownD
    rw [List.map_map]
    refine List.map_congr_left fun m _ => ?_
    show (if (Sum.inr m : Key) = Sum.inr n then ((Sum.inr m : Key), V.bl true) else (Sum.inr m, .bl true)) = _
    split <;> rfl
  · rw [if_neg h, putK_new _ (by rw [valV_known, if_neg h])]
    unfold knownD
    rw [List.map_append]
    rfl
theorem putN_len (l : List Str) (n : Str) : (putN l n).length ≤ l.length + 1 := by
  unfold putN
  split
  · omega
  · rw [List.length_append]; exact Nat.le_refl _
/-- the kinds chosen, by their lines -/
def ChosenAt (K : PySem.W.Frag) (F : Hp) (wd : Int) (kvs : List (Key × V)) (ch : List Int) : Prop :=
  ∀ i, (i ∈ ch → ∃ k, valV kvs (Sum.inl i) = some (.ref k) ∧ KindAt K F k ⟨.plain, wd, 0⟩) ∧ (i ∉ ch → valV kvs (Sum.inl i) = none)
theorem ChosenAt.on {K : PySem.W.Frag} {F F' : Hp} {wd : Int} {kvs : List (Key × V)} {ch : List Int} (s : Same F F') (h : ChosenAt K F wd kvs ch) : ChosenAt K F' wd kvs ch := fun i =>
  ⟨fun hi => let ⟨k, e, q⟩ := (h i).1 hi; ⟨k, e, q.on s⟩, (h i).2⟩
theorem ChosenAt.put {K : PySem.W.Frag} {F : Hp} {wd ln : Int} {kvs : List (Key × V)} {ch : List Int} {k : Addr} (h : ChosenAt K F wd kvs ch) (hk : KindAt K F k ⟨.plain, wd, 0⟩) : ChosenAt K F wd (putK kvs (Sum.inl ln) (.ref k)) (ch ++ [ln]) := fun i => by
  rw [valV_put]
  by_cases e : (Sum.inl i : Key) = Sum.inl ln
  · rw [if_pos e]
    refine ⟨fun _ => ⟨k, rfl, hk⟩, fun hn => absurd ?_ hn⟩
    rw [Sum.inl.inj e]
    simp
  · rw [if_neg e]
    have e' : i ≠ ln := fun z => e (by rw [z])
    refine ⟨fun hi => (h i).1 ?_, fun hn => (h i).2 fun z => hn ?_⟩
    · simpa [e'] using hi
    · simp [z]
structure DM where
  wd : Int
  ins : List (Int × Str)
  rows : Rows
  outs : List (Int × Str)
  loops : List (Int × Int × Rows)
  known : List Str
  chosen : List Int
structure DA where
  (dx i r o l k c : Addr)
  rs : List Addr
def DA.fp (d : Addr) (A : DA) : List Addr := d :: A.i :: A.r :: A.o :: A.l :: A.k :: A.c :: A.rs
structure DAt (K : PySem.W.Frag) (F H : Hp) (d : Addr) (M : DM) (A : DA) : Prop where
  o : H d = some (.ins (He.ga K "Draft") A.dx (draftFs M.wd A.i A.r A.o A.l A.k A.c))
  i : ∃ v, H A.i = some (.lst v) ∧ InsAt K F M.wd M.ins v
  r : ∃ v, H A.r = some (.lst v) ∧ RowsAt K F M.rows v
  u : ∃ v, H A.o = some (.lst v) ∧ OutsAt F M.outs v
  l : ∃ v, H A.l = some (.lst v) ∧ LoopsAt K F H M.loops v A.rs
  k : H A.k = some (.dK (knownD M.known))
  c : ∃ kvs, H A.c = some (.dK kvs) ∧ kvs.length ≤ M.chosen.length ∧ ChosenAt K F M.wd kvs M.chosen
  nd : (A.fp d).Nodup
  fz : ∀ x ∈ A.fp d, F x = none
theorem DAt.alloc {K : PySem.W.Frag} {F H : Hp} {d : Addr} {M : DM} {A : DA} (h : DAt K F H d M A) : ∀ x ∈ A.fp d, ∃ o, H x = some o := by
  intro x hx
  obtain ⟨_, hi, _⟩ := h.i; obtain ⟨_, hr, _⟩ := h.r; obtain ⟨_, ho, _⟩ := h.u; obtain ⟨_, hl, hL⟩ := h.l; obtain ⟨_, hc, _⟩ := h.c
  unfold DA.fp at hx
  simp only [List.mem_cons] at hx
  rcases hx with rfl | rfl | rfl | rfl | rfl | rfl | rfl | hx
  · exact ⟨_, h.o⟩
  · exact ⟨_, hi⟩
  · exact ⟨_, hr⟩
  · exact ⟨_, ho⟩
  · exact ⟨_, hl⟩
  · exact ⟨_, h.k⟩
  · exact ⟨_, hc⟩
  · exact Option.ne_none_iff_exists'.mp (hL.alloc x hx)
/-- elsewhere -/
theorem DAt.frame {K : PySem.W.Frag} {F H H' : Hp} {d : Addr} {M : DM} {A : DA} (h : DAt K F H d M A) (e : ∀ x ∈ A.fp d, H' x = H x) : DAt K F H' d M A := by
  have m : ∀ x, x ∈ A.fp d → H' x = H x := e
  have hm : d ∈ A.fp d ∧ A.i ∈ A.fp d ∧ A.r ∈ A.fp d ∧ A.o ∈ A.fp d ∧ A.l ∈ A.fp d ∧ A.k ∈ A.fp d ∧ A.c ∈ A.fp d ∧ ∀ x ∈ A.rs, x ∈ A.fp d := by
    unfold DA.fp
    refine ⟨by simp, by simp, by simp, by simp, by simp, by simp, by simp, fun x hx => by simp [hx]⟩
  obtain ⟨m1, m2, m3, m4, m5, m6, m7, m8⟩ := hm
  obtain ⟨vi, hi⟩ := h.i; obtain ⟨vr, hr⟩ := h.r; obtain ⟨vo, ho⟩ := h.u; obtain ⟨vl, hl⟩ := h.l; obtain ⟨vc, hc⟩ := h.c
  exact ⟨by rw [m _ m1]; exact h.o, ⟨vi, by rw [m _ m2]; exact hi⟩, ⟨vr, by rw [m _ m3]; exact hr⟩, ⟨vo, by rw [m _ m4]; exact ho⟩,
    ⟨vl, by rw [m _ m5]; exact hl.1, hl.2.on (Same.refl _) fun r hr => m _ (m8 r hr)⟩, by rw [m _ m6]; exact h.k, ⟨vc, by rw [m _ m7]; exact hc⟩, h.nd, h.fz⟩
theorem DAt.same {K : PySem.W.Frag} {F H H' : Hp} {d : Addr} {M : DM} {A : DA} (h : DAt K F H d M A) (s : Same H H') : DAt K F H' d M A := h.frame fun x hx => by
  obtain ⟨o, e⟩ := h.alloc x hx
  rw [e]; exact s _ _ e
theorem DAt.other {K : PySem.W.Frag} {F H : Hp} {d x : Addr} {M : DM} {A : DA} {o : HO} (h : DAt K F H d M A) (hx : x ∉ A.fp d) : DAt K F (upd H x o) d M A := h.frame fun y hy => upd_ne fun z => hx (z ▸ hy)
theorem DAt.fresh {K : PySem.W.Frag} {F H : Hp} {d x : Addr} {M : DM} {A : DA} (h : DAt K F H d M A) (hx : H x = none) : x ∉ A.fp d := fun z => by
  obtain ⟨o, e⟩ := h.alloc x z
  rw [hx] at e; cases e
/-- more frozen -/
theorem DAt.froze {K : PySem.W.Frag} {F F' H : Hp} {d : Addr} {M : DM} {A : DA} (h : DAt K F H d M A) (s : Same F F') (z : ∀ x ∈ A.fp d, F' x = none) : DAt K F' H d M A := by
  obtain ⟨vi, hi⟩ := h.i; obtain ⟨vr, hr⟩ := h.r; obtain ⟨vo, ho⟩ := h.u; obtain ⟨vl, hl⟩ := h.l; obtain ⟨vc, hc⟩ := h.c
  exact ⟨h.o, ⟨vi, hi.1, hi.2.on s⟩, ⟨vr, hr.1, hr.2.on s⟩, ⟨vo, ho.1, ho.2.on s⟩, ⟨vl, hl.1, hl.2.on s fun _ _ => rfl⟩, h.k, ⟨vc, hc.1, hc.2.1, hc.2.2.on s⟩, h.nd, z⟩
/-- the places lie apart -/
theorem DAt.ne {K : PySem.W.Frag} {F H : Hp} {d : Addr} {M : DM} {A : DA} (h : DAt K F H d M A) :
    (d ≠ A.i ∧ d ≠ A.r ∧ d ≠ A.o ∧ d ≠ A.l ∧ d ≠ A.k ∧ d ≠ A.c) ∧ (A.i ≠ A.r ∧ A.i ≠ A.o ∧ A.i ≠ A.l ∧ A.i ≠ A.k ∧ A.i ≠ A.c) ∧ (A.r ≠ A.o ∧ A.r ≠ A.l ∧ A.r ≠ A.k ∧ A.r ≠ A.c) ∧ (A.o ≠ A.l ∧ A.o ≠ A.k ∧ A.o ≠ A.c) ∧ (A.l ≠ A.k ∧ A.l ≠ A.c) ∧ A.k ≠ A.c ∧
      (∀ x ∈ A.rs, x ≠ d ∧ x ≠ A.i ∧ x ≠ A.r ∧ x ≠ A.o ∧ x ≠ A.l ∧ x ≠ A.k ∧ x ≠ A.c) ∧ A.rs.Nodup := by
  have n := h.nd
  unfold DA.fp at n
  simp only [List.nodup_cons, List.mem_cons, not_or] at n
  obtain ⟨⟨a1, a2, a3, a4, a5, a6, a7⟩, ⟨b2, b3, b4, b5, b6, b7⟩, ⟨c3, c4, c5, c6, c7⟩, ⟨d4, d5, d6, d7⟩, ⟨e5, e6, e7⟩, ⟨f6, f7⟩, g7, nd⟩ := n
  refine ⟨⟨a1, a2, a3, a4, a5, a6⟩, ⟨b2, b3, b4, b5, b6⟩, ⟨c3, c4, c5, c6⟩, ⟨d4, d5, d6⟩, ⟨e5, e6⟩, f6, fun x hx => ⟨?_, ?_, ?_, ?_, ?_, ?_, ?_⟩, nd⟩
  all_goals rintro rfl; contradiction
section
variable {K : PySem.W.Frag} {F H : Hp} {d : Addr} {M : DM} {A : DA}
/-- all else frozen -/
theorem DAt.freeze (S : Same F H) (h : DAt K F H d M A) : ∃ F', Same F F' ∧ Same F' H ∧ DAt K F' H d M A ∧ ∀ x o, x ∉ A.fp d → H x = some o → F' x = some o := by
  classical
  have s1 : Same F (fun x => if x ∈ A.fp d then none else H x) := fun x o e => by
    have hx : x ∉ A.fp d := fun z => by rw [h.fz x z] at e; cases e
    show (if x ∈ A.fp d then none else H x) = some o
    rw [if_neg hx]
    exact S x o e
  refine ⟨fun x => if x ∈ A.fp d then none else H x, s1, fun x o e => ?_, h.froze s1 fun x hx => if_pos hx, fun x o hx e => ?_⟩
  · by_cases hx : x ∈ A.fp d
    · have e2 : (if x ∈ A.fp d then none else H x) = some o := e
      rw [if_pos hx] at e2; cases e2
    · have e2 : (if x ∈ A.fp d then none else H x) = some o := e
      rwa [if_neg hx] at e2
  · show (if x ∈ A.fp d then none else H x) = some o
    rw [if_neg hx]; exact e
theorem KindAt.move {a : Addr} {k : KindM} (h : KindAt K H a k) (e : ∀ o, H a = some o → F a = some o) : KindAt K F a k := by
  obtain ⟨g, dx, q⟩ := h
  exact ⟨g, dx, e _ q⟩
theorem DA.mem (A : DA) (d : Addr) : d ∈ A.fp d ∧ A.i ∈ A.fp d ∧ A.r ∈ A.fp d ∧ A.o ∈ A.fp d ∧ A.l ∈ A.fp d ∧ A.k ∈ A.fp d ∧ A.c ∈ A.fp d := by
  unfold DA.fp
  refine ⟨by simp, by simp, by simp, by simp, by simp, by simp, by simp⟩
/-- the width told -/
theorem DAt.setW (h : DAt K F H d M A) (w : Int) (hi : M.ins = []) (hc : M.chosen = []) : DAt K F (upd H d (.ins (He.ga K "Draft") A.dx (draftFs w A.i A.r A.o A.l A.k A.c))) d { M with wd := w } A := by
  obtain ⟨n1, n2, n3, n4, n5, n6, n7, n8⟩ := h.ne
  obtain ⟨vi, hi1, hi2⟩ := h.i; obtain ⟨vr, hr⟩ := h.r; obtain ⟨vo, ho⟩ := h.u; obtain ⟨vl, hl⟩ := h.l; obtain ⟨vc, hc1, hc2, hc3⟩ := h.c
  rw [hi] at hi2
  rw [hc] at hc2 hc3
  refine ⟨upd_same, ⟨vi, by rw [upd_ne n1.1.symm]; exact hi1, ?_⟩, ⟨vr, by rw [upd_ne n1.2.1.symm]; exact hr⟩, ⟨vo, by rw [upd_ne n1.2.2.1.symm]; exact ho⟩,
    ⟨vl, by rw [upd_ne n1.2.2.2.1.symm]; exact hl.1, hl.2.on (Same.refl _) fun r hr => upd_ne (n7 r hr).1⟩, by rw [upd_ne n1.2.2.2.2.1.symm]; exact h.k, ⟨vc, by rw [upd_ne n1.2.2.2.2.2.symm]; exact hc1, by rw [hc]; exact hc2, ?_⟩, h.nd, h.fz⟩
  · rw [hi]; exact hi2
  · rw [hc]; exact fun i => ⟨fun z => (by cases z), (hc3 i).2⟩
/-- one more that comes in -/
theorem DAt.addI {v : List V} {ln : Int} {nm : Str} {t k : Addr} (h : DAt K F H d M A) (e : H A.i = some (.lst v)) (ht : F t = some (.tup [.int ln, .str nm, .ref k])) (hk : KindAt K F k ⟨.plain, M.wd, 0⟩) :
    DAt K F (upd H A.i (.lst (v ++ [.ref t]))) d { M with ins := M.ins ++ [(ln, nm)] } A := by
  obtain ⟨n1, n2, n3, n4, n5, n6, n7, n8⟩ := h.ne
  obtain ⟨vi, hi1, hi2⟩ := h.i; obtain ⟨vr, hr⟩ := h.r; obtain ⟨vo, ho⟩ := h.u; obtain ⟨vl, hl⟩ := h.l; obtain ⟨vc, hc⟩ := h.c
  rw [e] at hi1; cases hi1
  exact ⟨by rw [upd_ne n1.1]; exact h.o, ⟨_, upd_same, hi2.snoc ht hk⟩, ⟨vr, by rw [upd_ne n2.1.symm]; exact hr⟩, ⟨vo, by rw [upd_ne n2.2.1.symm]; exact ho⟩,
    ⟨vl, by rw [upd_ne n2.2.2.1.symm]; exact hl.1, hl.2.on (Same.refl _) fun r hr => upd_ne (n7 r hr).2.1⟩, by rw [upd_ne n2.2.2.2.1.symm]; exact h.k, ⟨vc, by rw [upd_ne n2.2.2.2.2.symm]; exact hc⟩, h.nd, h.fz⟩
/-- one more that goes out -/
theorem DAt.addO {v : List V} {ln : Int} {nm : Str} {t : Addr} (h : DAt K F H d M A) (e : H A.o = some (.lst v)) (ht : F t = some (.tup [.int ln, .str nm])) :
    DAt K F (upd H A.o (.lst (v ++ [.ref t]))) d { M with outs := M.outs ++ [(ln, nm)] } A := by
  obtain ⟨n1, n2, n3, n4, n5, n6, n7, n8⟩ := h.ne
  obtain ⟨vi, hi⟩ := h.i; obtain ⟨vr, hr⟩ := h.r; obtain ⟨vo, ho1, ho2⟩ := h.u; obtain ⟨vl, hl⟩ := h.l; obtain ⟨vc, hc⟩ := h.c
  rw [e] at ho1; cases ho1
  exact ⟨by rw [upd_ne n1.2.2.1]; exact h.o, ⟨vi, by rw [upd_ne n2.2.1]; exact hi⟩, ⟨vr, by rw [upd_ne n3.1]; exact hr⟩, ⟨_, upd_same, ho2.snoc ht⟩,
    ⟨vl, by rw [upd_ne n4.1.symm]; exact hl.1, hl.2.on (Same.refl _) fun r hr => upd_ne (n7 r hr).2.2.2.1⟩, by rw [upd_ne n4.2.1.symm]; exact h.k, ⟨vc, by rw [upd_ne n4.2.2.symm]; exact hc⟩, h.nd, h.fz⟩
/-- a name known -/
theorem DAt.know (h : DAt K F H d M A) (n : Str) : DAt K F (upd H A.k (.dK (putK (knownD M.known) (Sum.inr n) (.bl true)))) d { M with known := putN M.known n } A := by
  obtain ⟨n1, n2, n3, n4, n5, n6, n7, n8⟩ := h.ne
  obtain ⟨vi, hi⟩ := h.i; obtain ⟨vr, hr⟩ := h.r; obtain ⟨vo, ho⟩ := h.u; obtain ⟨vl, hl⟩ := h.l; obtain ⟨vc, hc⟩ := h.c
  exact ⟨by rw [upd_ne n1.2.2.2.2.1]; exact h.o, ⟨vi, by rw [upd_ne n2.2.2.2.1]; exact hi⟩, ⟨vr, by rw [upd_ne n3.2.2.1]; exact hr⟩, ⟨vo, by rw [upd_ne n4.2.1]; exact ho⟩,
    ⟨vl, by rw [upd_ne n5.1]; exact hl.1, hl.2.on (Same.refl _) fun r hr => upd_ne (n7 r hr).2.2.2.2.2.1⟩, by rw [upd_same, known_put], ⟨vc, by rw [upd_ne n6.symm]; exact hc⟩, h.nd, h.fz⟩
/-- a kind chosen -/
theorem DAt.choose {kvs : List (Key × V)} {ln : Int} {k : Addr} (h : DAt K F H d M A) (e : H A.c = some (.dK kvs)) (hk : KindAt K F k ⟨.plain, M.wd, 0⟩) : DAt K F (upd H A.c (.dK (putK kvs (Sum.inl ln) (.ref k)))) d { M with chosen := M.chosen ++ [ln] } A := by
  obtain ⟨n1, n2, n3, n4, n5, n6, n7, n8⟩ := h.ne
  obtain ⟨vi, hi⟩ := h.i; obtain ⟨vr, hr⟩ := h.r; obtain ⟨vo, ho⟩ := h.u; obtain ⟨vl, hl⟩ := h.l; obtain ⟨vc, hc1, hc2, hc3⟩ := h.c
  rw [e] at hc1; cases hc1
  have := length_putK kvs (Sum.inl ln) (.ref k)
  exact ⟨by rw [upd_ne n1.2.2.2.2.2]; exact h.o, ⟨vi, by rw [upd_ne n2.2.2.2.2]; exact hi⟩, ⟨vr, by rw [upd_ne n3.2.2.2]; exact hr⟩, ⟨vo, by rw [upd_ne n4.2.2]; exact ho⟩,
    ⟨vl, by rw [upd_ne n5.2]; exact hl.1, hl.2.on (Same.refl _) fun r hr => upd_ne (n7 r hr).2.2.2.2.2.2⟩, by rw [upd_ne n6]; exact h.k, ⟨_, upd_same, by show _ ≤ (M.chosen ++ [ln]).length; rw [List.length_append]; show _ ≤ _ + 1; omega, hc3.put hk⟩, h.nd, h.fz⟩
/-- the rows of the innermost block -/
def DM.top (M : DM) : Rows := match M.loops with | [] => M.rows | (_, _, y) :: _ => y
def addR (M : DM) (x : Rows) : DM :=
  match M.loops with
  | [] => { M with rows := M.rows.app x }
  | (a, b, y) :: l => { M with loops := (a, b, y.app x) :: l }
def DA.blk (A : DA) : Addr := match A.rs with | [] => A.r | x :: _ => x
theorem DAt.blkAt (h : DAt K F H d M A) : ∃ v, H A.blk = some (.lst v) ∧ RowsAt K F M.top v := by
  obtain ⟨vl, hl1, hl2⟩ := h.l
  unfold DA.blk DM.top
  revert hl2
  cases M.loops with
  | nil => intro hl2; rw [hl2.2]; exact h.r
  | cons x l =>
    obtain ⟨a, b, y⟩ := x
    rintro ⟨q, dx, r, ws, vs', rs', e1, e2, h1, h2, h4, h5⟩
    rw [e2]
    exact ⟨ws, h2, h4⟩
theorem DAt.blk_mem (h : DAt K F H d M A) : A.blk ∈ A.fp d := by
  unfold DA.blk DA.fp
  cases A.rs with
  | nil => simp
  | cons x r => simp
/-- a row more in the innermost block -/
theorem DAt.addN {v us : List V} {x : Rows} (h : DAt K F H d M A) (e : H A.blk = some (.lst v)) (hx : RowsAt K F x us) : DAt K F (upd H A.blk (.lst (v ++ us))) d (addR M x) A := by
  obtain ⟨n1, n2, n3, n4, n5, n6, n7, n8⟩ := h.ne
  obtain ⟨vi, hi⟩ := h.i; obtain ⟨vr, hr1, hr2⟩ := h.r; obtain ⟨vo, ho⟩ := h.u; obtain ⟨vl, hl1, hl2⟩ := h.l; obtain ⟨vc, hc⟩ := h.c
  obtain ⟨wd, ins, rows, outs, loops, known, chosen⟩ := M
  cases loops with
  | nil =>
    have e0 : A.rs = [] := hl2.2
    have eb : A.blk = A.r := by unfold DA.blk; rw [e0]
    rw [eb] at e ⊢
    rw [e] at hr1; cases hr1
    exact ⟨by rw [upd_ne n1.2.1]; exact h.o, ⟨vi, by rw [upd_ne n2.1]; exact hi⟩, ⟨_, upd_same, RowsAt.app hx hr2⟩, ⟨vo, by rw [upd_ne n3.1.symm]; exact ho⟩,
      ⟨vl, by rw [upd_ne n3.2.1.symm]; exact hl1, hl2.on (Same.refl _) fun r hr => upd_ne (n7 r hr).2.2.1⟩, by rw [upd_ne n3.2.2.1.symm]; exact h.k, ⟨vc, by rw [upd_ne n3.2.2.2.symm]; exact hc⟩, h.nd, h.fz⟩
  | cons y l =>
    obtain ⟨a, b, y⟩ := y
    obtain ⟨q, dx, r, ws, vs', rs', e1, e2, h1, h2, h4, h5⟩ := hl2
    have eb : A.blk = r := by unfold DA.blk; rw [e2]
    have hm : r ∈ A.rs := by rw [e2]; exact List.mem_cons_self
    obtain ⟨m1, m2, m3, m4, m5, m6, m7⟩ := n7 r hm
    rw [eb] at e ⊢
    rw [e] at h2; cases h2
    rw [e2] at n8
    have n9 := (List.nodup_cons.mp n8).1
    exact ⟨by rw [upd_ne m1.symm]; exact h.o, ⟨vi, by rw [upd_ne m2.symm]; exact hi⟩, ⟨vr, by rw [upd_ne m3.symm]; exact hr1, hr2⟩, ⟨vo, by rw [upd_ne m4.symm]; exact ho⟩,
      ⟨vl, by rw [upd_ne m5.symm]; exact hl1, ⟨q, dx, r, _, vs', rs', e1, e2, h1, upd_same, RowsAt.app hx h4, h5.on (Same.refl _) fun z hz => upd_ne fun w => n9 (w ▸ hz)⟩⟩, by rw [upd_ne m6.symm]; exact h.k, ⟨vc, by rw [upd_ne m7.symm]; exact hc⟩, h.nd, h.fz⟩
/-- a loop more -/
theorem DAt.push {v : List V} {ln tm : Int} {a dx r : Addr} (h : DAt K F H d M A) (e : H A.l = some (.lst v)) (ha : F a = some (.ins (He.ga K "Repeat") dx (repFs ln tm r))) (hr : H r = some (.lst [])) (hn : r ∉ A.fp d) (hf : F r = none) :
    DAt K F (upd H A.l (.lst (v ++ [.ref a]))) d { M with loops := (ln, tm, .nil) :: M.loops } { A with rs := r :: A.rs } := by
  obtain ⟨n1, n2, n3, n4, n5, n6, n7, n8⟩ := h.ne
  obtain ⟨vi, hi⟩ := h.i; obtain ⟨vr, hr1⟩ := h.r; obtain ⟨vo, ho⟩ := h.u; obtain ⟨vl, hl1, hl2⟩ := h.l; obtain ⟨vc, hc⟩ := h.c
  rw [e] at hl1; cases hl1
  have hn' := hn
  unfold DA.fp at hn'
  simp only [List.mem_cons, not_or] at hn'
  obtain ⟨q1, q2, q3, q4, q5, q6, q7, q8⟩ := hn'
  refine ⟨by rw [upd_ne n1.2.2.2.1]; exact h.o, ⟨vi, by rw [upd_ne n2.2.2.1]; exact hi⟩, ⟨vr, by rw [upd_ne n3.2.1]; exact hr1⟩, ⟨vo, by rw [upd_ne n4.1]; exact ho⟩,
    ⟨_, upd_same, ⟨a, dx, r, [], v, A.rs, rfl, rfl, ha, by rw [upd_ne q5]; exact hr, rfl, hl2.on (Same.refl _) fun z hz => upd_ne (n7 z hz).2.2.2.2.1⟩⟩, by rw [upd_ne n5.1.symm]; exact h.k, ⟨vc, by rw [upd_ne n5.2.symm]; exact hc⟩, ?_, ?_⟩
  · have nd := h.nd
    unfold DA.fp at nd ⊢
    simp only [List.nodup_cons, List.mem_cons, not_or] at nd ⊢
    obtain ⟨⟨a1, a2, a3, a4, a5, a6, a7⟩, ⟨b2, b3, b4, b5, b6, b7⟩, ⟨c3, c4, c5, c6, c7⟩, ⟨d4, d5, d6, d7⟩, ⟨e5, e6, e7⟩, ⟨f6, f7⟩, g7, nd⟩ := nd
    exact ⟨⟨a1, a2, a3, a4, a5, a6, Ne.symm q1, a7⟩, ⟨b2, b3, b4, b5, b6, Ne.symm q2, b7⟩, ⟨c3, c4, c5, c6, Ne.symm q3, c7⟩, ⟨d4, d5, d6, Ne.symm q4, d7⟩, ⟨e5, e6, Ne.symm q5, e7⟩, ⟨f6, Ne.symm q6, f7⟩, ⟨Ne.symm q7, g7⟩, q8, nd⟩
  · intro x hx
    have : x ∈ A.fp d ∨ x = r := by
      unfold DA.fp at hx ⊢
      simp only [List.mem_cons] at hx ⊢
      rcases hx with h | h | h | h | h | h | h | h | h <;> simp [h]
    rcases this with h' | rfl
    · exact h.fz x h'
    · exact hf
/-- a loop closed: its rows are frozen -/
theorem DAt.pop {ln tm : Int} {body : Rows} {l : List (Int × Int × Rows)} (h : DAt K F H d M A) (hl : M.loops = (ln, tm, body) :: l) :
    ∃ a dx r ws v rs', A.rs = r :: rs' ∧ H A.l = some (.lst (v ++ [.ref a])) ∧ F a = some (.ins (He.ga K "Repeat") dx (repFs ln tm r)) ∧ H r = some (.lst ws) ∧ RowsAt K F body ws ∧
      DAt K (upd F r (.lst ws)) (upd H A.l (.lst v)) d { M with loops := l } { A with rs := rs' } ∧ RowsAt K (upd F r (.lst ws)) (.rep ln tm body .nil) [.ref a] ∧ F r = none := by
  obtain ⟨n1, n2, n3, n4, n5, n6, n7, n8⟩ := h.ne
  obtain ⟨vi, hi⟩ := h.i; obtain ⟨vr, hr1⟩ := h.r; obtain ⟨vo, ho⟩ := h.u; obtain ⟨vl, hl1, hl2⟩ := h.l; obtain ⟨vc, hc⟩ := h.c
  rw [hl] at hl2
  obtain ⟨a, dx, r, ws, v, rs', e1, e2, h1, h2, h4, h5⟩ := hl2
  have hm : r ∈ A.rs := by rw [e2]; exact List.mem_cons_self
  have hrf : r ∈ A.fp d := by unfold DA.fp; simp [hm]
  have fr : F r = none := h.fz r hrf
  have sF : Same F (upd F r (.lst ws)) := Same.new fr
  have n8' := n8
  rw [e2] at n8'
  have n9 := List.nodup_cons.mp n8'
  rw [e1] at hl1
  refine ⟨a, dx, r, ws, v, rs', e2, hl1, h1, h2, h4, ?_, ⟨a, dx, r, ws, [], rfl, sF _ _ h1, upd_same, h4.on sF, rfl⟩, fr⟩
  have hsub : ∀ x, x ∈ DA.fp d { A with rs := rs' } → x ∈ A.fp d ∧ x ≠ r := by
    intro x hx
    have m7 := n7 r hm
    unfold DA.fp at hx ⊢
    simp only [List.mem_cons] at hx ⊢
    rw [e2]
    rcases hx with h | h | h | h | h | h | h | h
    · exact ⟨by simp [h], fun z => m7.1 (by rw [← z]; exact h)⟩
    · exact ⟨by simp [h], fun z => m7.2.1 (by rw [← z]; exact h)⟩
    · exact ⟨by simp [h], fun z => m7.2.2.1 (by rw [← z]; exact h)⟩
    · exact ⟨by simp [h], fun z => m7.2.2.2.1 (by rw [← z]; exact h)⟩
    · exact ⟨by simp [h], fun z => m7.2.2.2.2.1 (by rw [← z]; exact h)⟩
    · exact ⟨by simp [h], fun z => m7.2.2.2.2.2.1 (by rw [← z]; exact h)⟩
    · exact ⟨by simp [h], fun z => m7.2.2.2.2.2.2 (by rw [← z]; exact h)⟩
    · exact ⟨by simp [h], fun z => n9.1 (z ▸ h)⟩
  refine ⟨by rw [upd_ne n1.2.2.2.1]; exact h.o, ⟨vi, by rw [upd_ne n2.2.2.1]; exact hi.1, hi.2.on sF⟩, ⟨vr, by rw [upd_ne n3.2.1]; exact hr1.1, hr1.2.on sF⟩, ⟨vo, by rw [upd_ne n4.1]; exact ho.1, ho.2.on sF⟩,
    ⟨_, upd_same, h5.on sF fun z hz => upd_ne (n7 z (by rw [e2]; exact List.mem_cons_of_mem _ hz)).2.2.2.2.1⟩, by rw [upd_ne n5.1.symm]; exact h.k, ⟨vc, by rw [upd_ne n5.2.symm]; exact hc.1, hc.2.1, hc.2.2.on sF⟩, ?_, ?_⟩
  · have nd := h.nd
    unfold DA.fp at nd ⊢
    rw [e2] at nd
    simp only [List.nodup_cons, List.mem_cons, not_or] at nd ⊢
    obtain ⟨⟨a1, a2, a3, a4, a5, a6, a7, a8⟩, ⟨b2, b3, b4, b5, b6, b7, b8⟩, ⟨c3, c4, c5, c6, c7, c8⟩, ⟨d4, d5, d6, d7, d8⟩, ⟨e5, e6, e7, e8⟩, ⟨f6, f7, f8⟩, ⟨g7, g8⟩, k8, nd⟩ := nd
    exact ⟨⟨a1, a2, a3, a4, a5, a6, a8⟩, ⟨b2, b3, b4, b5, b6, b8⟩, ⟨c3, c4, c5, c6, c8⟩, ⟨d4, d5, d6, d8⟩, ⟨e5, e6, e8⟩, ⟨f6, f8⟩, g8, nd⟩
  · intro x hx
    obtain ⟨x1, x2⟩ := hsub x hx
    rw [upd_ne x2]
    exact h.fz x x1
end
theorem putF_new {f : Str} {v : V} : ∀ {fs : List (Str × V)}, f ∉ fs.map Prod.fst → putF f v fs = fs ++ [(f, v)]
  | [], _ => rfl
  | (g, x) :: r, h => by
    have h1 : ¬ g = f := fun z => h (by rw [z]; exact List.mem_cons_self)
    have h2 : f ∉ r.map Prod.fst := fun z => h (List.mem_cons_of_mem _ z)
    unfold putF
    rw [if_neg h1, putF_new h2]
    rfl
/-- self.f = [], self.f = {} -/
theorem r_newFld {K : PySem.W.Frag} {σ : L2.St} {H : Hp} {D : Ends} {f : Str} {a C dx : Addr} {fs : List (Str × V)} {n : Nat} (e : σ[n]? = some (some (.ref a))) (ha : H a = some (.ins C dx fs)) (hc : Cls K C) (hn : NoAttr K C f) (hl : fs.length < 1000) (names : List Str) (hm : fs.map Prod.fst = names) (hf : f ∉ names)
    (h : ∀ q H2, H q = none → q ≠ a → H2 q = some (.lst []) → H2 a = some (.ins C dx (fs ++ [(f, .ref q)])) → (∀ b, b ≠ a → b ≠ q → H2 b = H b) → D.nx σ H2) : sFld K (tVar n) (tLst tNil) f D σ H := by
  refine r_fldS (r_lst (r_nil (r_newL fun q hq => r_var e ?_)))
  have qa : q ≠ a := fun z => by rw [z, ha] at hq; cases hq
  refine ⟨a, C, dx, fs, rfl, by rw [upd_ne qa.symm]; exact ha, hc, hn, hl, h q _ hq qa (by rw [upd_ne qa, upd_same]) (by rw [upd_same, putF_new (by rw [hm]; exact hf)]) fun b b1 b2 => by rw [upd_ne b1, upd_ne b2]⟩
theorem r_newFldD {K : PySem.W.Frag} {σ : L2.St} {H : Hp} {D : Ends} {f : Str} {a C dx : Addr} {fs : List (Str × V)} {n : Nat} (e : σ[n]? = some (some (.ref a))) (ha : H a = some (.ins C dx fs)) (hc : Cls K C) (hn : NoAttr K C f) (hl : fs.length < 1000) (names : List Str) (hm : fs.map Prod.fst = names) (hf : f ∉ names)
    (h : ∀ q H2, H q = none → q ≠ a → H2 q = some (.dK []) → H2 a = some (.ins C dx (fs ++ [(f, .ref q)])) → (∀ b, b ≠ a → b ≠ q → H2 b = H b) → D.nx σ H2) : sFld K (tVar n) tDNewK f D σ H := by
  refine r_fldS fun q hq => r_var e ?_
  have qa : q ≠ a := fun z => by rw [z, ha] at hq; cases hq
  refine ⟨a, C, dx, fs, rfl, by rw [upd_ne qa.symm]; exact ha, hc, hn, hl, h q _ hq qa (by rw [upd_ne qa, upd_same]) (by rw [upd_same, putF_new (by rw [hm]; exact hf)]) fun b b1 b2 => by rw [upd_ne b1, upd_ne b2]⟩
end OW

set_option maxHeartbeats 4000000
namespace OW
open PySem PySem.Spec PyProof.Rows L2
/-! ### fields of a draft, a row, a repeat -/
section
variable {wd : Int} {i r o l k c g n b : Addr} {ln tm : Int} {deed : Str}
theorem lkD_width : List.lookup ("width" : Str) (draftFs wd i r o l k c) = some (V.int wd) := rfl
theorem lkD_inputs : List.lookup ("inputs" : Str) (draftFs wd i r o l k c) = some (V.ref i) := rfl
theorem lkD_rows : List.lookup ("rows" : Str) (draftFs wd i r o l k c) = some (V.ref r) := rfl
theorem lkD_outs : List.lookup ("outs" : Str) (draftFs wd i r o l k c) = some (V.ref o) := rfl
theorem lkD_loops : List.lookup ("loops" : Str) (draftFs wd i r o l k c) = some (V.ref l) := rfl
theorem lkD_known : List.lookup ("known" : Str) (draftFs wd i r o l k c) = some (V.ref k) := rfl
theorem lkD_chosen : List.lookup ("chosen" : Str) (draftFs wd i r o l k c) = some (V.ref c) := rfl
theorem lkD_none {m : Str} (h : m ∉ (["width", "inputs", "rows", "outs", "loops", "known", "chosen"] : List Str)) : List.lookup m (draftFs wd i r o l k c) = none := by
  unfold draftFs
  simp only [List.mem_cons, List.not_mem_nil, or_false, not_or] at h
  obtain ⟨h1, h2, h3, h4, h5, h6, h7⟩ := h
  simp only [List.lookup, beq_eq_false_iff_ne.mpr h1, beq_eq_false_iff_ne.mpr h2, beq_eq_false_iff_ne.mpr h3, beq_eq_false_iff_ne.mpr h4, beq_eq_false_iff_ne.mpr h5, beq_eq_false_iff_ne.mpr h6, beq_eq_false_iff_ne.mpr h7]
theorem lkR_line : List.lookup ("line" : Str) (rowFs ln deed g r n) = some (V.int ln) := rfl
theorem lkR_deed : List.lookup ("deed" : Str) (rowFs ln deed g r n) = some (V.str deed) := rfl
theorem lkR_goals : List.lookup ("goals" : Str) (rowFs ln deed g r n) = some (V.ref g) := rfl
theorem lkR_reads : List.lookup ("reads" : Str) (rowFs ln deed g r n) = some (V.ref r) := rfl
theorem lkR_numbers : List.lookup ("numbers" : Str) (rowFs ln deed g r n) = some (V.ref n) := rfl
theorem lkP_line : List.lookup ("line" : Str) (repFs ln tm b) = some (V.int ln) := rfl
theorem lkP_times : List.lookup ("times" : Str) (repFs ln tm b) = some (V.int tm) := rfl
theorem lkP_rows : List.lookup ("rows" : Str) (repFs ln tm b) = some (V.ref b) := rfl
theorem putD_width {w2 : Int} : putF "width" (.int w2) (draftFs wd i r o l k c) = draftFs w2 i r o l k c := rfl
end
/-- a field read -/
theorem r_fldO {K : PySem.W.Frag} {H : Hp} {a C dx : Addr} {fs : List (Str × V)} {f : Str} {v : V} {P : V → Prop} (ho : H a = some (.ins C dx fs)) (hc : Cls K C) (hn : NoAttr K C f) (hl : fs.lookup f = some v) (q : P v) :
    ∃ a' C dx fs v, V.ref a = .ref a' ∧ H a' = some (.ins C dx fs) ∧ Cls K C ∧ NoAttr K C f ∧ fs.lookup f = some v ∧ P v := ⟨a, C, dx, fs, v, rfl, ho, hc, hn, hl, q⟩
theorem r_methO {H : Hp} {a C dx : Addr} {fs : List (Str × V)} {In : Addr → Prop} {m : Str} {P : Addr → Prop} (ho : H a = some (.ins C dx fs)) (hi : In C) (hl : fs.lookup m = none) (q : P C) :
    ∃ a' C dx fs, V.ref a = .ref a' ∧ H a' = some (.ins C dx fs) ∧ In C ∧ fs.lookup m = none ∧ P C := ⟨a, C, dx, fs, rfl, ho, hi, hl, q⟩
theorem same_updN {F H : Hp} {x : Addr} {o : HO} (s : Same F H) (h : F x = none) : Same F (upd H x o) := fun a u e => by
  rw [upd_ne (ne_of_none e h)]; exact s a u e
theorem dp_strs {K : PySem.W.Frag} {H : Hp} : ∀ zs : List Str, DpAll K H (zs.map V.str) (zs.map PyData.str)
  | [] => .nil
  | z :: zs => .cons (.str z) (dp_strs zs)
/-- == of two lists of texts -/
theorem r_eqStrs {K : PySem.W.Frag} {H : Hp} {Q : VK} {p q : Addr} (xs ys : List Str) (b : Bool) (ha : SqL K H p (xs.map V.str)) (hb : SqL K H q (ys.map V.str)) (hs : (SeqAt.shaped (.list (xs.map .str)) && SeqAt.shaped (.list (ys.map .str))) = true)
    (e : PyData.eqv (.list (xs.map .str)) (.list (ys.map .str)) = b) (h : Q (.bl b) H) : rEqD K (.ref p) (.ref q) H Q :=
  ⟨_, _, .lst ha (dp_strs xs), .lst hb (dp_strs ys), (Bool.and_eq_true_iff.mp hs).1, (Bool.and_eq_true_iff.mp hs).2, by rw [e]; exact h⟩
theorem r_neStrs {K : PySem.W.Frag} {H : Hp} {Q : VK} {p q : Addr} (xs ys : List Str) (b : Bool) (ha : SqL K H p (xs.map V.str)) (hb : SqL K H q (ys.map V.str)) (hs : (SeqAt.shaped (.list (xs.map .str)) && SeqAt.shaped (.list (ys.map .str))) = true)
    (e : PyData.eqv (.list (xs.map .str)) (.list (ys.map .str)) = b) (h : Q (.bl (!b)) H) : rNeD K (.ref p) (.ref q) H Q :=
  ⟨_, _, .lst ha (dp_strs xs), .lst hb (dp_strs ys), (Bool.and_eq_true_iff.mp hs).1, (Bool.and_eq_true_iff.mp hs).2, by rw [e]; exact h⟩
theorem r_make {C : Addr} {sp : Sp} {dvs : List V} {E : XK} {ta : TA} {σ : L2.St} {H : Hp} {Q : VK} (h : ta σ H fun vs H1 => ∀ x dx, H1 x = none → H1 dx = none → dx ≠ x → sp (.ref x :: (vs ++ dvs)) (upd (upd H1 dx (.own x)) x (.ins C dx [])) (fun v H2 => v = .non ∧ Q (.ref x) H2) E) : tMake C sp dvs E ta σ H Q := h
theorem r_bm {K : PySem.W.Frag} {ty : String} {r : V → List V → Hp → VK → Prop} {to : TE} {t : TA} {σ : L2.St} {H : Hp} {Q : VK} (h : to σ H fun x H1 => tyV K ty x H1 ∧ t σ H1 fun xs H2 => r x xs H2 Q) : tBM K ty r to t σ H Q := h
theorem r_bm0 {K : PySem.W.Frag} {ty : String} {r : V → List V → Hp → VK → Prop} {to : TE} {σ : L2.St} {H : Hp} {Q : VK} (h : to σ H fun x H1 => tyV K ty x H1 ∧ r x [] H1 Q) : tBM0 K ty r to σ H Q := h
theorem r_tyL {K : PySem.W.Frag} {H : Hp} {a : Addr} {xs : List V} {P : Prop} (e : SqL K H a xs) (h : P) : tyV K "list" (.ref a) H ∧ P := ⟨.inl ⟨rfl, _, e⟩, h⟩
theorem r_app {H : Hp} {l : Addr} {xs : List V} {y : V} {Q : VK} (e : H l = some (.lst xs)) (hz : xs.length ≤ 100000) (h : Q .non (upd H l (.lst (xs ++ [y])))) : rAppend (.ref l) [y] H Q := ⟨l, xs, y, rfl, rfl, e, line_lt hz, h⟩
theorem r_dput {td ty tv : TE} {D : Ends} {σ : L2.St} {H : Hp} (h : tv σ H fun v H1 => td σ H1 fun x H2 => ty σ H2 fun y H3 => ∃ a H4, x = .ref a ∧ DPut H3 a y v H4 ∧ D.nx σ H4) : sDPut td ty tv D σ H := h
theorem r_dputS {H : Hp} {a : Addr} {kvs : List (Key × V)} {n : Str} {v : V} {P : Hp → Prop} (e : H a = some (.dK kvs)) (hz : kvs.length ≤ 100000) (h : P (upd H a (.dK (putK kvs (Sum.inr n) v)))) : ∃ a' H4, V.ref a = .ref a' ∧ DPut H a' (.str n) v H4 ∧ P H4 := ⟨a, _, rfl, DPut.k (k := Sum.inr n) e (line_lt hz), h⟩
theorem r_dputI {H : Hp} {a : Addr} {kvs : List (Key × V)} {n : Int} {v : V} {P : Hp → Prop} (e : H a = some (.dK kvs)) (hz : kvs.length ≤ 100000) (h : P (upd H a (.dK (putK kvs (Sum.inl n) v)))) : ∃ a' H4, V.ref a = .ref a' ∧ DPut H a' (.int n) v H4 ∧ P H4 := ⟨a, _, rfl, DPut.k (k := Sum.inl n) e (line_lt hz), h⟩
theorem r_thru {t u : TS} {D : Ends} {σ : L2.St} {H : Hp} (h : t { D with nx := u D } σ H) : tThru t u D σ H := h
/-- the heap the same but at one place, and grown -/
def SameBut (r : Addr) (H H' : Hp) : Prop := ∀ b o, b ≠ r → H b = some o → H' b = some o
/-- the promise's end: the draft as it is then -/
def PostD (K : PySem.W.Frag) (F : Hp) (d : Addr) (M' : DM) (Q : VK) : Prop := ∀ F' A' H', Same F F' → Same F' H' → DAt K F' H' d M' A' → Q (.bl true) H'
/-! ### one line -/
inductive Ln where
  | width (w : Int)
  | inp (nm : Str)
  | out (nm : Str)
  | rep (n : Int)
  | fin
  | copy (g b : Str)
  | bad (g : Str)
  | part (g h b : Str)
  | set (g : Str) (n : Int)
  deriving DecidableEq
def Ln.words : Ln → List Str
  | .width w => ["width", num w]
  | .inp nm => ["in", nm, "plain"]
  | .out nm => ["out", nm]
  | .rep n => ["repeat", num n]
  | .fin => ["end"]
  | .copy g b => [g, "=", "copy", b]
  | .bad g => [g, "=", "copy"]
  | .part g h b => [g, h, "=", "part", b, "3"]
  | .set g n => [g, "=", "set", "plain", num n]
def nameOk (x : Str) : Bool := decide (x.length ≤ 100) && !decide (x.length = 0)
/-- the line as such -/
def Ln.fine (nmOk : Str → Bool) (numOk : Str → Int → Int → Bool) : Ln → Bool
  | .width w => numOk (num w) 4 32 && decide (4 ≤ w) && decide (w ≤ 32)
  | .inp nm => nmOk nm
  | .out nm => nmOk nm
  | .rep n => numOk (num n) 1 32 && decide (1 ≤ n) && decide (n ≤ 32)
  | .fin => true
  | .copy g b => nmOk g && nmOk b
  | .bad g => nmOk g
  | .part g h b => nmOk g && nmOk h && nmOk b && !decide (g = h)
  | .set g n => nmOk g && decide (1 ≤ n) && decide (n ≤ 3)
/-- where the line may stand -/
def Ln.here (ln : Int) (M : DM) : Ln → Prop
  | .width _ => ln = 0 ∧ M.ins = [] ∧ M.chosen = [] ∧ M.rows = .nil ∧ M.loops = [] ∧ M.outs = [] ∧ M.known = []
  | .inp _ => 0 < ln ∧ M.rows = .nil ∧ M.loops = [] ∧ M.outs = []
  | .out _ => 0 < ln ∧ M.loops = []
  | .fin => 0 < ln ∧ M.outs = [] ∧ ∃ a b y l, M.loops = (a, b, y) :: l ∧ y ≠ .nil
  | _ => 0 < ln ∧ M.outs = []
def Ln.step (ln : Int) (M : DM) : Ln → Option DM
  | .width w => some { M with wd := w }
  | .inp nm => some { M with ins := M.ins ++ [(ln, nm)], known := putN M.known nm }
  | .out nm => some { M with outs := M.outs ++ [(ln, nm)] }
  | .rep n => some { M with loops := (ln, n, .nil) :: M.loops }
  | .fin => match M.loops with
    | [] => none
    | (a, b, y) :: l => some (addR { M with loops := l } (.rep a b y .nil))
  | .copy g b => some (addR { M with known := putN M.known g } (.row ln "copy" [g] [b] [] .nil))
  | .bad _ => none
  | .part g h b => some (addR { M with known := putN (putN M.known g) h } (.row ln "part" [g, h] [b] [3] .nil))
  | .set g n => some (addR { M with known := putN M.known g, chosen := M.chosen ++ [ln] } (.row ln "set" [g] [] [n] .nil))
end OW

set_option maxHeartbeats 4000000
namespace OW
open PySem PySem.Spec PyProof.Rows L2
/-! ### loops over lists -/
section
variable {σ : L2.St} {H : Hp} {D : Ends} {K : PySem.W.Frag} {tb : TS} {n j : Nat} {p : Addr} {xs : List V}
/-- the loop's steps -/
def ForL (K : PySem.W.Frag) (tb : TS) (j : Nat) (p : Addr) (xs : List V) (D : Ends) (σ : L2.St) (H : Hp) : Prop :=
  ∃ Pv : Nat → L2.St → Hp → Prop, Pv 0 σ H ∧ (∀ i σ' H', Pv i σ' H' → SqL K H' p xs) ∧
    (∀ i x σ' H', xs[i]? = some x → Pv i σ' H' → tb { D with nx := Pv (i + 1), ct := Pv (i + 1), bk := D.nx } (σ'.set j (some x)) H') ∧ ∀ σ' H', Pv xs.length σ' H' → D.nx σ' H'
theorem ForL.go (h : ForL K tb j p xs D σ H) : ∃ W : Nat → Nat → L2.St → Hp → Prop, (∃ m, W 0 m σ H) ∧ ∀ i m σ H, W i m σ H →
      ((Itl K p).stop i H ∧ D.nx σ H) ∨ ((Itl K p).go i H ∧ ∃ N : L2.St → Hp → Prop, (∀ σ' H', N σ' H' → ∃ m', m' < m ∧ W (i + 1) m' σ' H') ∧ ∀ x H', (Itl K p).yld i H x H' → gName j x σ H' fun σ2 H2 => tb { D with nx := N, ct := N, bk := D.nx } σ2 H2) := by
  obtain ⟨Pv, h0, hG, hs, hd⟩ := h
  refine for_it (walk_list (xs := xs)) Pv h0 (fun i σ' H' _ q => hG i σ' H' q) (fun i x σ' H' H'' hi q y => ?_) hd
  obtain ⟨rfl, hx⟩ := y
  exact hs i x σ' _ hx q
theorem r_forLv (e : σ[n]? = some (some (.ref p))) (hs : SqL K H p xs) (h : ForL K tb j p xs D σ H) : tFor (iList K (tVar n)) (gName j) tb D σ H :=
  ⟨_, e, p, rfl, ⟨xs, hs⟩, h.go⟩
theorem r_forLf {f : Str} {a C dx : Addr} {fs : List (Str × V)} (e : σ[n]? = some (some (.ref a))) (ho : H a = some (.ins C dx fs)) (hc : Cls K C) (hn : NoAttr K C f) (hl : fs.lookup f = some (.ref p)) (hs : SqL K H p xs) (h : ForL K tb j p xs D σ H) :
    tFor (iList K (tFld K (tVar n) f)) (gName j) tb D σ H :=
  ⟨_, e, a, C, dx, fs, _, rfl, ho, hc, hn, hl, p, rfl, ⟨xs, hs⟩, h.go⟩
/-- enumerate(l): a new pair at each turn -/
theorem r_forE {i1 i2 : Nat} (e : σ[n]? = some (some (.ref p))) (hq : SqL K H p xs) (Pv : Nat → L2.St → Hp → Prop) (h0 : Pv 0 σ H) (hG : ∀ i σ' H', Pv i σ' H' → SqL K H' p xs)
    (hs : ∀ i x T σ' H', xs[i]? = some x → Pv i σ' H' → H' T = none → tb { D with nx := Pv (i + 1), ct := Pv (i + 1), bk := D.nx } ((σ'.set i1 (some (.int (i : Nat)))).set i2 (some x)) (upd H' T (.tup [.int (i : Nat), x])))
    (hd : ∀ σ' H', Pv xs.length σ' H' → D.nx σ' H') : tFor (iEnum K (tCons (tVar n) tNil)) (gTup K 2 (gCons (gName i1) (gCons (gName i2) gNil))) tb D σ H := by
  refine ⟨_, e, p, xs, rfl, hq, ?_⟩
  refine for_it (walk_enum (xs := xs)) Pv h0 (fun i σ' H' _ q => hG i σ' H' q) (fun i x σ' H' H'' hi q y => ?_) hd
  obtain ⟨T, a, b, rfl, hT, rfl, ha, hb⟩ := y
  obtain rfl := Option.some.inj ha
  exact r_gT2 (SqT.of upd_same) (hs i b T σ' H' hb q hT)
/-- [.. for a, b in zip(text, list)] -/
theorem walk_zipSL {x : Str} {b : Addr} {ys : List V} : Walk (Itzs K x b) (min x.cps.size ys.length) (fun H => SqL K H b ys) (fun i H v H' => ∃ T c y, v = .ref T ∧ H T = none ∧ H' = upd H T (.tup [.str ⟨#[c]⟩, y]) ∧ x.cps[i]? = some c ∧ ys[i]? = some y) := by
  refine ⟨fun i H hi q => ⟨by omega, ys, ys[i]'(by omega), q, by simp [show i < ys.length by omega]⟩, fun H q => ⟨ys, q, by omega, by omega, by omega⟩, fun i H v H' hi q y => ?_⟩
  obtain ⟨T, c, y, h1, h2, h3, h4, h5⟩ := y
  exact ⟨T, c, y, h1, h2, h3, h4, h5 ys q⟩
theorem r_lcZ {Q : VK} {te : TE} {vs : List Nat} {m lj wj : Nat} {x : Str} {b : Addr} {ys : List V} (ex : σ[n]? = some (some (.str x))) (eb : σ[m]? = some (some (.ref b))) (hb : SqL K H b ys) (Pv : Addr → Nat → Hp → Prop)
    (hw : ∀ p q, wipe (((wipe σ vs).set lj p).set wj q) vs = wipe σ vs)
    (h0 : ∀ E, H E = none → Pv E 0 (upd H E (.lst []))) (hG : ∀ E i H', Pv E i H' → SqL K H' b ys)
    (hs : ∀ E i T c y H', x.cps[i]? = some c → ys[i]? = some y → Pv E i H' → H' T = none → te (((wipe σ vs).set lj (some (.str ⟨#[c]⟩))).set wj (some y)) (upd H' T (.tup [.str ⟨#[c]⟩, y])) fun z H4 => ∃ acc, H4 E = some (.lst acc) ∧ acc.length < sizeLine ∧ Pv E (i + 1) (upd H4 E (.lst (acc ++ [z]))))
    (hd : ∀ E H', Pv E (min x.cps.size ys.length) H' → Q (.ref E) H') : tLc (iZipSL K (tCons (tVar n) (tCons (tVar m) tNil))) (gTup K 2 (gCons (gName lj) (gCons (gName wj) gNil))) tYes te vs σ H Q := by
  refine ⟨_, ex, _, eb, x, b, ys, rfl, hb, fun E hE => ?_⟩
  refine lc_it (walk_zipSL (ys := ys)) (Pv E) (h0 E hE) (fun i H' _ q => hG E i H' q) (fun i v H' H'' hi q y => ?_) (fun H' q => hd E H' q)
  obtain ⟨T, c, y, rfl, hT, rfl, hc, hy⟩ := y
  refine r_gT2 (SqT.of upd_same) ⟨hw _ _, ?_⟩
  exact hs E i T c y H' hc hy q hT
end
section
variable {σ : L2.St} {H : Hp} {K : PySem.W.Frag} {n j : Nat} {p : Addr} {xs : List V}
/-- [.. for x in o.f] -/
theorem r_lcLf {Q : VK} {te : TE} {vs : List Nat} {f : Str} {a C dx : Addr} {fs : List (Str × V)} (e : σ[n]? = some (some (.ref a))) (ho : H a = some (.ins C dx fs)) (hc : Cls K C) (hn : NoAttr K C f) (hl : fs.lookup f = some (.ref p)) (hq : SqL K H p xs) (Pv : Addr → Nat → Hp → Prop)
    (hw : ∀ q, wipe ((wipe σ vs).set j q) vs = wipe σ vs) (h0 : ∀ E, H E = none → Pv E 0 (upd H E (.lst []))) (hG : ∀ E i H', Pv E i H' → SqL K H' p xs)
    (hs : ∀ E i x H', xs[i]? = some x → Pv E i H' → te ((wipe σ vs).set j (some x)) H' fun z H4 => ∃ acc, H4 E = some (.lst acc) ∧ acc.length < sizeLine ∧ Pv E (i + 1) (upd H4 E (.lst (acc ++ [z]))))
    (hd : ∀ E H', Pv E xs.length H' → Q (.ref E) H') : tLc (iList K (tFld K (tVar n) f)) (gName j) tYes te vs σ H Q := by
  refine ⟨_, e, a, C, dx, fs, _, rfl, ho, hc, hn, hl, p, rfl, ⟨xs, hq⟩, fun E hE => ?_⟩
  refine lc_it (walk_list (xs := xs)) (Pv E) (h0 E hE) (fun i H' _ q => hG E i H' q) (fun i v H' H'' hi q y => ?_) (fun H' q => hd E H' q)
  obtain ⟨rfl, hx⟩ := y
  exact ⟨hw _, hs E i v _ hx q⟩
end
/-- names that a line may bear -/
structure NameOk (isN : Str → Bool) (x : Str) : Prop where
  nm : isN x = true
  len : x.length ≤ 100
  ok : SeqAt.shaped (.list (([x] : List Str).map .str)) = true
  ne : x ≠ "="
theorem shaped_cons {x : Str} {xs : List Str} (h1 : SeqAt.shaped (.list (([x] : List Str).map .str)) = true) (h2 : SeqAt.shaped (.list (xs.map .str)) = true) : SeqAt.shaped (.list ((x :: xs).map .str)) = true := by
  unfold SeqAt.shaped at h1 h2 ⊢
  rw [Bool.and_eq_true_iff] at h1 h2 ⊢
  have d1 := of_decide_eq_true h1.2
  have d2 := of_decide_eq_true h2.2
  have c1 := h1.1
  have c2 := h2.1
  simp only [List.map_cons, List.map_nil, PyData.canLay0, PyData.canLayAll0, PyData.depth, PyData.depthAll, Bool.and_true] at c1 c2 d1 d2 ⊢
  exact ⟨by rw [c1, c2]; rfl, decide_eq_true (by omega)⟩
theorem shaped_nil : SeqAt.shaped (.list (([] : List Str).map .str)) = true := by decide +kernel
theorem eqv1 {g h : Str} (e : g ≠ h) : PyData.eqv (.list (([g] : List Str).map .str)) (.list (([h] : List Str).map .str)) = false := by
  simp [PyData.eqv, PyData.eqvAll, e]
theorem eqv0 {h : Str} : PyData.eqv (.list (([] : List Str).map .str)) (.list (([h] : List Str).map .str)) = false := by
  simp [PyData.eqv, PyData.eqvAll]
/-- the parts of a row's words -/
structure Parts (isN : Str → Bool) (ws : List Str) (g0 gl : Str) (gi gt : List Str) (gs : List Str) (deed : Str) (rest : List Str) (m : Int) (w1 : List Str) (b1 : Bool) : Prop where
  c1 : cutV (ws.map V.str) (some 1) (some 2) = w1.map V.str
  s1 : (SeqAt.shaped (.list (w1.map .str)) && SeqAt.shaped (.list ((["="] : List Str).map .str))) = true
  e1 : PyData.eqv (.list (w1.map .str)) (.list ((["="] : List Str).map .str)) = b1
  hm : m = 1 + (if b1 = true then 0 else 1)
  cg : cutV (ws.map V.str) none (some m) = gs.map V.str
  cd : cutV (ws.map V.str) (some (m + 1)) (some (m + 2)) = ([deed] : List Str).map V.str
  jd : Txt.join "" [deed] = deed
  ld : deed.length ≤ 100
  cr : cutV (ws.map V.str) (some (m + 2)) none = rest.map V.str
  ce : cutV (ws.map V.str) (some m) (some (m + 1)) = (["="] : List Str).map V.str
  hp : (decide (deed = "part") != decide (m = 2)) = false
  ga : gs = g0 :: gt
  gb : gs = gi ++ [gl]
  n0 : NameOk isN g0
  nl : NameOk isN gl
  ct : cutV (gs.map V.str) (some 1) none = gt.map V.str
  ch : cutV (gs.map V.str) none (some 1) = ([g0] : List Str).map V.str
  se : (SeqAt.shaped (.list (gt.map .str)) && SeqAt.shaped (.list (([g0] : List Str).map .str))) = true
  ee : PyData.eqv (.list (gt.map .str)) (.list (([g0] : List Str).map .str)) = false
  gl3 : gs.length ≤ 3
/-- the four rows -/
def Ln.deed : Ln → Str
  | .copy _ _ => "copy"
  | .bad _ => "copy"
  | .part _ _ _ => "part"
  | .set _ _ => "set"
  | _ => ""
def Ln.goals : Ln → List Str
  | .copy g _ => [g]
  | .bad g => [g]
  | .part g h _ => [g, h]
  | .set g _ => [g]
  | _ => []
def Ln.rest : Ln → List Str
  | .copy _ b => [b]
  | .part _ _ b => [b, "3"]
  | .set _ n => ["plain", num n]
  | _ => []
def Ln.rowOk (isN : Str → Bool) : Ln → Prop
  | .copy g b => NameOk isN g ∧ NameOk isN b
  | .bad g => NameOk isN g
  | .part g h b => NameOk isN g ∧ NameOk isN h ∧ NameOk isN b ∧ g ≠ h
  | .set g n => NameOk isN g ∧ 1 ≤ n ∧ n ≤ 3
  | _ => False
theorem se1 : SeqAt.shaped (.list ((["="] : List Str).map .str)) = true := by decide +kernel
theorem Ln.parts {isN : Str → Bool} {l : Ln} (h : l.rowOk isN) : ∃ g0 gl gi gt m w1 b1, Parts isN l.words g0 gl gi gt l.goals l.deed l.rest m w1 b1 := by
  cases l with
  | copy g b =>
    obtain ⟨h1, h2⟩ := h
    exact ⟨g, g, [], [], 1, ["="], true, rfl, by decide +kernel, by decide +kernel, rfl, rfl, rfl, (by show Txt.join "" ["copy"] = ("copy" : Str); decide +kernel), (by show ("copy" : Str).length ≤ 100; decide +kernel), rfl, rfl, (by show (decide (("copy" : Str) = "part") != decide ((1 : Int) = 2)) = false; decide +kernel), rfl, rfl, h1, h1, rfl, rfl, by rw [shaped_nil, h1.ok]; rfl, eqv0, by show 1 ≤ 3; decide⟩
  | bad g =>
    exact ⟨g, g, [], [], 1, ["="], true, rfl, by decide +kernel, by decide +kernel, rfl, rfl, rfl, (by show Txt.join "" ["copy"] = ("copy" : Str); decide +kernel), (by show ("copy" : Str).length ≤ 100; decide +kernel), rfl, rfl, (by show (decide (("copy" : Str) = "part") != decide ((1 : Int) = 2)) = false; decide +kernel), rfl, rfl, h, h, rfl, rfl, by rw [shaped_nil, h.ok]; rfl, eqv0, by show 1 ≤ 3; decide⟩
  | part g h' b =>
    obtain ⟨h1, h2, h3, h4⟩ := h
    exact ⟨g, h', [g], [h'], 2, [h'], false, rfl, by rw [h2.ok, se1]; rfl, eqv1 h2.ne, rfl, rfl, rfl, (by show Txt.join "" ["part"] = ("part" : Str); decide +kernel), (by show ("part" : Str).length ≤ 100; decide +kernel), rfl, rfl, (by show (decide (("part" : Str) = "part") != decide ((2 : Int) = 2)) = false; decide +kernel), rfl, rfl, h1, h2, rfl, rfl, by rw [h2.ok, h1.ok]; rfl, eqv1 (Ne.symm h4), by show 2 ≤ 3; decide⟩
  | set g n =>
    obtain ⟨h1, h2⟩ := h
    exact ⟨g, g, [], [], 1, ["="], true, rfl, by decide +kernel, by decide +kernel, rfl, rfl, rfl, (by show Txt.join "" ["set"] = ("set" : Str); decide +kernel), (by show ("set" : Str).length ≤ 100; decide +kernel), rfl, rfl, (by show (decide (("set" : Str) = "part") != decide ((1 : Int) = 2)) = false; decide +kernel), rfl, rfl, h1, h1, rfl, rfl, by rw [shaped_nil, h1.ok]; rfl, eqv0, by show 1 ≤ 3; decide⟩
  | _ => exact h.elim
theorem addR_known (M : DM) (k : List Str) (x : Rows) : addR { M with known := k } x = { addR M x with known := k } := by
  obtain ⟨wd, ins, rows, outs, loops, known, chosen⟩ := M
  cases loops with
  | nil => rfl
  | cons y l => obtain ⟨a, b, c⟩ := y; rfl
theorem addR_chosen (M : DM) (k : List Str) (c : List Int) (x : Rows) : addR { M with known := k, chosen := c } x = { addR M x with known := k, chosen := c } := by
  obtain ⟨wd, ins, rows, outs, loops, known, chosen⟩ := M
  cases loops with
  | nil => rfl
  | cons y l => obtain ⟨a, b, c⟩ := y; rfl
theorem addR_known0 (M : DM) (x : Rows) : (addR M x).known = M.known ∧ (addR M x).wd = M.wd ∧ (addR M x).chosen = M.chosen := by
  obtain ⟨wd, ins, rows, outs, loops, known, chosen⟩ := M
  cases loops with
  | nil => exact ⟨rfl, rfl, rfl⟩
  | cons y l => obtain ⟨a, b, c⟩ := y; exact ⟨rfl, rfl, rfl⟩
theorem fold_len (M : List Str) (gs : List Str) : (gs.foldl putN M).length ≤ M.length + gs.length := by
  induction gs generalizing M with
  | nil => exact Nat.le_refl _
  | cons g gs ih =>
    have h1 := ih (putN M g)
    have h2 := putN_len M g
    simp only [List.foldl_cons, List.length_cons]
    omega
theorem take_fold {M gs : List Str} {i : Nat} {x : Str} (h : gs[i]? = some x) : (gs.take (i + 1)).foldl putN M = putN ((gs.take i).foldl putN M) x := by
  have : gs.take (i + 1) = gs.take i ++ [x] := by
    rw [List.take_add_one, h]
    rfl
  rw [this, List.foldl_append]
  rfl
/-- a row told: its lists' last contents -/
theorem DAt.proph {K : PySem.W.Frag} {F H : Hp} {d : Addr} {M : DM} {A : DA} {r n : Addr} (S : Same F H) (D : DAt K F H d M A) (hr : F r = none) (hn : F n = none) (ir : r ∉ A.fp d) (jn : n ∉ A.fp d) (hrn : r ≠ n) (o1 o2 : HO) :
    ∃ F2, Same F F2 ∧ (∀ x ∈ A.fp d, F2 x = none) ∧ (∀ x o, x ≠ r → x ≠ n → F2 x = some o → H x = some o) ∧ F2 r = some o1 ∧ F2 n = some o2 ∧ (∀ x o, x ∉ A.fp d → x ≠ r → x ≠ n → H x = some o → F2 x = some o) := by
  obtain ⟨Fz, z1, z2, Dz, z3⟩ := D.freeze S
  refine ⟨upd (upd Fz r o1) n o2, ?_, ?_, ?_, ?_, upd_same, ?_⟩
  · intro x o e
    have x1 : x ≠ r := fun z => by rw [z, hr] at e; cases e
    have x2 : x ≠ n := fun z => by rw [z, hn] at e; cases e
    rw [upd_ne x2, upd_ne x1]; exact z1 _ _ e
  · intro x hx
    have x1 : x ≠ r := fun z => ir (z ▸ hx)
    have x2 : x ≠ n := fun z => jn (z ▸ hx)
    rw [upd_ne x2, upd_ne x1]; exact Dz.fz x hx
  · intro x o x1 x2 e
    rw [upd_ne x2, upd_ne x1] at e; exact z2 _ _ e
  · rw [upd_ne hrn, upd_same]
  · intro x o hx x1 x2 e
    rw [upd_ne x2, upd_ne x1]; exact z3 x o hx e
theorem DAt.but {K : PySem.W.Frag} {F H H' : Hp} {d r : Addr} {M : DM} {A : DA} (h : DAt K F H d M A) (s : SameBut r H H') (hr : r ∉ A.fp d) : DAt K F H' d M A := h.frame fun x hx => by
  obtain ⟨o, e⟩ := h.alloc x hx
  have hxr : x ≠ r := fun z => hr (by rw [← z]; exact hx)
  rw [e]; exact s x o hxr e
theorem ne_of_none' {H : Hp} {a b : Addr} {o : HO} (h1 : H a = none) (h2 : H b = some o) : a ≠ b := fun z => by rw [z, h2] at h1; cases h1
theorem r_dget {td ty : TE} {σ : L2.St} {H : Hp} {Q : VK} (h : td σ H fun x H1 => ty σ H1 fun y H2 => ∃ a v, x = .ref a ∧ DGet H2 a y (some v) ∧ Q v H2) : tDGet td ty σ H Q := h
theorem r_dgetI {H : Hp} {a : Addr} {kvs : List (Key × V)} {n : Int} {v : V} {P : V → Prop} (e : H a = some (.dK kvs)) (hv : valV kvs (Sum.inl n) = some v) (h : P v) : ∃ a' v', V.ref a = .ref a' ∧ DGet H a' (.int n) (some v') ∧ P v' :=
  ⟨a, v, rfl, by rw [← hv]; exact DGet.k (k := Sum.inl n) e, h⟩
theorem r_dgetS {H : Hp} {a : Addr} {kvs : List (Key × V)} {n : Str} {v : V} {P : V → Prop} (e : H a = some (.dK kvs)) (hv : valV kvs (Sum.inr n) = some v) (h : P v) : ∃ a' v', V.ref a = .ref a' ∧ DGet H a' (.str n) (some v') ∧ P v' :=
  ⟨a, v, rfl, by rw [← hv]; exact DGet.k (k := Sum.inr n) e, h⟩
theorem join3 {n : Int} (h0 : 1 ≤ n) (h1 : n ≤ 3) : Txt.join "" [num n] = num n ∧ (num n).length ≤ 100 := by
  obtain rfl | rfl | rfl : n = 1 ∨ n = 2 ∨ n = 3 := by omega
  all_goals exact ⟨by decide +kernel, by decide +kernel⟩
theorem shp3 {n : Int} (h0 : 1 ≤ n) (h1 : n ≤ 3) : SeqAt.shaped (.list (([num n] : List Str).map .str)) = true := by
  obtain rfl | rfl | rfl : n = 1 ∨ n = 2 ∨ n = 3 := by omega
  all_goals decide +kernel
theorem shpS : SeqAt.shaped (.list ((["copy"] : List Str).map .str)) = true ∧ SeqAt.shaped (.list ((["part"] : List Str).map .str)) = true ∧ SeqAt.shaped (.list ((["3"] : List Str).map .str)) = true ∧
    SeqAt.shaped (.list ((["set"] : List Str).map .str)) = true ∧ SeqAt.shaped (.list ((["plain"] : List Str).map .str)) = true := by decide +kernel
/-- a row's words are not the one word end -/
theorem Ln.notEnd {isN : Str → Bool} {l : Ln} (h : l.rowOk isN) : SeqAt.shaped (.list (l.words.map .str)) = true ∧ PyData.eqv (.list (l.words.map .str)) (.list ((["end"] : List Str).map .str)) = false := by
  obtain ⟨c1, c2, c3, c4, c5⟩ := shpS
  cases l with
  | copy g b => exact ⟨shaped_cons h.1.ok (shaped_cons se1 (shaped_cons c1 h.2.ok)), by simp [Ln.words, PyData.eqv, PyData.eqvAll]⟩
  | bad g => exact ⟨shaped_cons h.ok (shaped_cons se1 c1), by simp [Ln.words, PyData.eqv, PyData.eqvAll]⟩
  | part g h' b => exact ⟨shaped_cons h.1.ok (shaped_cons h.2.1.ok (shaped_cons se1 (shaped_cons c2 (shaped_cons h.2.2.1.ok c3)))), by simp [Ln.words, PyData.eqv, PyData.eqvAll]⟩
  | set g n => exact ⟨shaped_cons h.1.ok (shaped_cons se1 (shaped_cons c4 (shaped_cons c5 (shp3 h.2.1 h.2.2)))), by simp [Ln.words, PyData.eqv, PyData.eqvAll]⟩
  | _ => exact h.elim
theorem Ln.firstName {isN : Str → Bool} {l : Ln} (h : l.rowOk isN) : ∃ g t, l.words = g :: t ∧ isN g = true := by
  cases l with
  | copy g b => exact ⟨_, _, rfl, h.1.nm⟩
  | bad g => exact ⟨_, _, rfl, h.nm⟩
  | part g h' b => exact ⟨_, _, rfl, h.1.nm⟩
  | set g n => exact ⟨_, _, rfl, h.1.nm⟩
  | _ => exact h.elim
end OW

set_option maxHeartbeats 4000000
namespace OW
open PySem PySem.Spec PyProof.Rows L2
/-! ### all lines -/
def DM0 : DM := ⟨0, [], .nil, [], [], [], []⟩
def DM.great (ln : Int) (M : DM) : Bool := decide (ln ≥ 60) || (decide (M.known.length > 30) || decide (M.loops.length > 3))
inductive Res where
  | ok (M : DM)
  | form (ln : Int)
  | much (ln : Int)
def readM : Int → DM → List Ln → Res
  | _, M, [] => .ok M
  | ln, M, l :: r => match l.step ln M with
    | none => .form ln
    | some M' => if M'.great ln = true then .much ln else readM (ln + 1) M' r
structure TextOk (text : Str) (ls : List Ln) : Prop where
  len : text.length ≤ 90000
  ts : ∃ ts : List Str, Txt.split text "\n" = ts ∧ ts.length = ls.length ∧ ∀ (i : Nat) (t : Str) (l : Ln), ts[i]? = some t → ls[i]? = some l → Txt.split t " " = l.words ∧ t.length ≤ 90000 ∧ ("" : Str) ∉ l.words ∧ l.words.length ≤ 10
/-! ### rows counted -/
def Rows.count : Rows → Int
  | .nil => 0
  | .row _ _ _ _ _ t => 1 + t.count
  | .rep _ tm b t => tm * b.count + t.count
def Rows.depth : Rows → Nat
  | .nil => 0
  | .row _ _ _ _ _ t => t.depth
  | .rep _ _ b t => max (b.depth + 1) t.depth
def Rows.tl : Rows → Rows
  | .nil => .nil
  | .row _ _ _ _ _ t => t
  | .rep _ _ _ t => t
def Rows.dropN : Nat → Rows → Rows
  | 0, r => r
  | i + 1, r => (Rows.dropN i r).tl
/-- all counts are small -/
def Rows.small : Rows → Prop
  | .nil => True
  | .row _ _ _ _ _ t => t.small
  | .rep _ tm b t => 0 ≤ tm ∧ tm ≤ 1000 ∧ b.count ≤ 100000000 ∧ b.small ∧ t.small
theorem Rows.count0 : ∀ {r : Rows}, r.small → 0 ≤ r.count
  | .nil, _ => by show (0 : Int) ≤ 0; decide
  | .row _ _ _ _ _ t, h => by have := Rows.count0 (r := t) h; show 0 ≤ 1 + t.count; omega
  | .rep _ tm b t, h => by
    have h1 := Rows.count0 (r := b) h.2.2.2.1
    have h2 := Rows.count0 (r := t) h.2.2.2.2
    have := Int.mul_nonneg h.1 h1
    show 0 ≤ tm * b.count + t.count
    omega
theorem RowsAt.dropN {K : PySem.W.Frag} {F : Hp} {r : Rows} {vs : List V} (h : RowsAt K F r vs) : ∀ i, RowsAt K F (r.dropN i) (vs.drop i)
  | 0 => h
  | i + 1 => by
    have h1 := RowsAt.dropN h i
    have e : vs.drop (i + 1) = (vs.drop i).tail := by rw [List.tail_drop]
    rw [e]
    show RowsAt K F (r.dropN i).tl _
    revert h1
    generalize r.dropN i = s
    generalize vs.drop i = us
    cases s with
    | nil => intro h1; subst h1; exact rfl
    | row l d g r n t => rintro ⟨a, dx, g, r, n, vs', e, h1, h2, h3, h4, h5⟩; subst e; exact h5
    | rep l m b t => rintro ⟨a, dx, b, ws, vs', e, h1, h2, h3, h4⟩; subst e; exact h4
theorem Rows.dropN_small {r : Rows} (h : r.small) : ∀ i, (r.dropN i).small ∧ (r.dropN i).depth ≤ r.depth
  | 0 => ⟨h, Nat.le_refl _⟩
  | i + 1 => by
    have h1 := Rows.dropN_small h i
    show (r.dropN i).tl.small ∧ (r.dropN i).tl.depth ≤ r.depth
    revert h1
    generalize r.dropN i = s
    cases s with
    | nil => exact fun h1 => h1
    | row l d g r n t => exact fun h1 => h1
    | rep l m b t => exact fun h1 => ⟨h1.1.2.2.2.2, Nat.le_trans (Nat.le_max_right _ _) h1.2⟩
/-- the i-th item -/
theorem RowsAt.item {K : PySem.W.Frag} {F : Hp} {r : Rows} {vs : List V} {i : Nat} {x : V} (h : RowsAt K F r vs) (hx : vs[i]? = some x) :
    (∃ ln deed gs rs ns a dx g rr n, x = .ref a ∧ r.dropN i = .row ln deed gs rs ns (r.dropN (i + 1)) ∧ F a = some (.ins (He.ga K "Row") dx (rowFs ln deed g rr n)) ∧ F g = some (.lst (gs.map .str)) ∧ F rr = some (.lst (rs.map .str)) ∧ F n = some (.lst (ns.map .int))) ∨
    (∃ ln tm body a dx b ws, x = .ref a ∧ r.dropN i = .rep ln tm body (r.dropN (i + 1)) ∧ F a = some (.ins (He.ga K "Repeat") dx (repFs ln tm b)) ∧ F b = some (.lst ws) ∧ RowsAt K F body ws) := by
  have h1 := h.dropN i
  have hi := (List.getElem?_eq_some_iff.mp hx)
  obtain ⟨hl, hx⟩ := hi
  rw [List.drop_eq_getElem_cons hl, hx] at h1
  show (∃ ln deed gs rs ns a dx g rr n, x = .ref a ∧ r.dropN i = .row ln deed gs rs ns (r.dropN i).tl ∧ _) ∨ (∃ ln tm body a dx b ws, x = .ref a ∧ r.dropN i = .rep ln tm body (r.dropN i).tl ∧ _)
  revert h1
  generalize r.dropN i = s
  cases s with
  | nil => intro h1; cases h1
  | row l d g r n t =>
    rintro ⟨a, dx, g', r', n', vs', e, h1, h2, h3, h4, h5⟩
    injection e with e1 e2
    exact .inl ⟨l, d, g, r, n, a, dx, g', r', n', e1, rfl, h1, h2, h3, h4⟩
  | rep l m b t =>
    rintro ⟨a, dx, b', ws, vs', e, h1, h2, h3, h4⟩
    injection e with e1 e2
    exact .inr ⟨l, m, b, a, dx, b', ws, e1, rfl, h1, h2, h3⟩
theorem RowsAt.done {K : PySem.W.Frag} {F : Hp} {r : Rows} {vs : List V} (h : RowsAt K F r vs) : r.dropN vs.length = .nil := by
  have h1 := h.dropN vs.length
  rw [List.drop_length] at h1
  exact h1.nil_iff.mp rfl
/-! ### the second walk -/
def KindsAt (K : PySem.W.Frag) (F : Hp) (wd : Int) (kvs : List (Key × V)) (ks : List Str) : Prop :=
  kvs.length ≤ ks.length ∧ ∀ n, (n ∈ ks → ∃ a, valV kvs (Sum.inr n) = some (.ref a) ∧ KindAt K F a ⟨.plain, wd, 0⟩) ∧ (n ∉ ks → valV kvs (Sum.inr n) = none)
theorem KindsAt.on {K : PySem.W.Frag} {F F' : Hp} {wd : Int} {kvs : List (Key × V)} {ks : List Str} (s : Same F F') (h : KindsAt K F wd kvs ks) : KindsAt K F' wd kvs ks := ⟨h.1, fun n =>
  ⟨fun hi => let ⟨k, e, q⟩ := (h.2 n).1 hi; ⟨k, e, q.on s⟩, (h.2 n).2⟩⟩
theorem KindsAt.put {K : PySem.W.Frag} {F : Hp} {wd : Int} {kvs : List (Key × V)} {ks : List Str} {k : Addr} {n : Str} (h : KindsAt K F wd kvs ks) (hn : n ∉ ks) (hk : KindAt K F k ⟨.plain, wd, 0⟩) : KindsAt K F wd (putK kvs (Sum.inr n) (.ref k)) (putN ks n) := by
  have e : putN ks n = ks ++ [n] := by unfold putN; rw [if_neg hn]
  rw [e]
  refine ⟨?_, fun i => ?_⟩
  · have := length_putK kvs (Sum.inr n) (V.ref k)
    have := h.1
    rw [List.length_append]; show _ ≤ ks.length + 1; omega
  rw [valV_put]
  by_cases e : (Sum.inr i : Key) = Sum.inr n
  · rw [if_pos e]
    refine ⟨fun _ => ⟨k, rfl, hk⟩, fun hn => absurd ?_ hn⟩
    rw [Sum.inr.inj e]
    simp
  · rw [if_neg e]
    have e' : i ≠ n := fun z => e (by rw [z])
    refine ⟨fun hi => (h.2 i).1 ?_, fun hn => (h.2 i).2 fun z => hn ?_⟩
    · simpa [e'] using hi
    · simp [z]
theorem putN_in {ks : List Str} {n : Str} (h : n ∈ ks) : putN ks n = ks := by unfold putN; rw [if_pos h]
inductive LookR where
  | ok (ks : List Str)
  | un (ln : Int) (nm : Str)
def lookM : Rows → List Str → LookR
  | .nil, ks => .ok ks
  | .row ln _ gs rs _ t, ks => match rs.find? (fun n => decide (n ∉ ks)) with
    | some nm => .un ln nm
    | none => lookM t (gs.foldl putN ks)
  | .rep _ _ b t, ks => match lookM b ks with
    | .un ln nm => .un ln nm
    | .ok ks' => lookM t ks'
/-- rows as they are told here -/
def Rows.lookOk (ch : List Int) : Rows → Prop
  | .nil => True
  | .row ln deed gs rs _ t => gs.length ≤ 3 ∧ ((ln ∈ ch ∧ rs = []) ∨ (ln ∉ ch ∧ (deed = "copy" ∨ deed = "part") ∧ ∃ b, rs = [b])) ∧ t.lookOk ch
  | .rep _ _ b t => b.lookOk ch ∧ t.lookOk ch
theorem Rows.dropN_look {ch : List Int} {r : Rows} (h : r.lookOk ch) : ∀ i, (r.dropN i).lookOk ch
  | 0 => h
  | i + 1 => by
    have h1 := Rows.dropN_look h i
    show (r.dropN i).tl.lookOk ch
    revert h1
    generalize r.dropN i = s
    cases s with
    | nil => exact fun h1 => h1
    | row l d g r n t => exact fun h1 => h1.2.2
    | rep l m b t => exact fun h1 => h1.2
theorem Rows.dropN_depth {r : Rows} : ∀ i, (r.dropN i).depth ≤ r.depth
  | 0 => Nat.le_refl _
  | i + 1 => by
    have h1 := Rows.dropN_depth (r := r) i
    show (r.dropN i).tl.depth ≤ r.depth
    revert h1
    generalize r.dropN i = s
    cases s with
    | nil => exact fun h1 => h1
    | row l d g r n t => exact fun h1 => h1
    | rep l m b t => exact fun h1 => Nat.le_trans (Nat.le_max_right _ _) h1
theorem r_dget1 {td ty : TE} {σ : L2.St} {H : Hp} {Q : VK} (h : td σ H fun x H1 => ∃ a, x = .ref a ∧ IsD H1 a ∧ ty σ H1 fun y H2 => ∃ o, DGet H2 a y o ∧ Q (o.getD .non) H2) : tDGet1 td ty σ H Q := h
theorem r_dnin {td ty : TE} {σ : L2.St} {H : Hp} {Q : VK} (h : ty σ H fun y H1 => td σ H1 fun x H2 => ∃ a o, x = .ref a ∧ DGet H2 a y o ∧ Q (.bl (!o.isSome)) H2) : tDNotIn ty td σ H Q := h
theorem r_din {td ty : TE} {σ : L2.St} {H : Hp} {Q : VK} (h : ty σ H fun y H1 => td σ H1 fun x H2 => ∃ a o, x = .ref a ∧ DGet H2 a y o ∧ Q (.bl o.isSome) H2) : tDIn ty td σ H Q := h
theorem r_dinS {H : Hp} {a : Addr} {kvs : List (Key × V)} {n : Str} {P : Option V → Prop} (e : H a = some (.dK kvs)) (h : P (valV kvs (Sum.inr n))) : ∃ a' o, V.ref a = .ref a' ∧ DGet H a' (.str n) o ∧ P o := ⟨a, _, rfl, DGet.k (k := Sum.inr n) e, h⟩
theorem r_dsetd {td ty tx : TE} {σ : L2.St} {H : Hp} {Q : VK} (h : td σ H fun x H1 => ∃ a, x = .ref a ∧ IsD H1 a ∧ ty σ H1 fun y H2 => tx σ H2 fun z H3 => ∃ (kvs : List (Key × V)) (k : Key), H3 a = some (.dK kvs) ∧ y = kV k ∧ kvs.length < sizeLine ∧
  (∀ v, valV kvs k = some v → Q v H3) ∧ (valV kvs k = none → Q z (upd H3 a (.dK (putK kvs k z))))) : tDSetd td ty tx σ H Q := h
def Rows.total : Rows → Nat
  | .nil => 0
  | .row _ _ _ _ _ t => t.total + 1
  | .rep _ _ b t => b.total + t.total
theorem lookM_len (ch : List Int) : ∀ {r : Rows} {ks ks' : List Str}, r.lookOk ch → lookM r ks = .ok ks' → ks'.length ≤ ks.length + 3 * r.total
  | .nil, ks, ks', _, h => by
    simp only [lookM, LookR.ok.injEq] at h
    subst h; exact Nat.le_refl _
  | .row ln d gs rs ns t, ks, ks', hl, h => by
    simp only [lookM] at h
    cases hf : rs.find? (fun n => decide (n ∉ ks)) with
    | some nm => rw [hf] at h; cases h
    | none =>
      rw [hf] at h
      have h1 := lookM_len ch hl.2.2 h
      have h2 := fold_len ks gs
      have h3 := hl.1
      show ks'.length ≤ ks.length + 3 * (t.total + 1)
      omega
  | .rep ln tm b t, ks, ks', hl, h => by
    simp only [lookM] at h
    cases hb : lookM b ks with
    | un a c => rw [hb] at h; cases h
    | ok k1 =>
      rw [hb] at h
      have h1 := lookM_len ch hl.1 hb
      have h2 := lookM_len ch hl.2 h
      show ks'.length ≤ ks.length + 3 * (b.total + t.total)
      omega
theorem r_oN1 {X Y : Prop} (h : X) : if (!(none : Option V).isSome) = true then X else Y := h
theorem r_oS1 {X Y : Prop} {v : V} (h : Y) : if (!(some v : Option V).isSome) = true then X else Y := h
theorem r_oN2 {X Y : Prop} (h : Y) : if (none : Option V).isSome = true then X else Y := h
theorem r_oS2 {X Y : Prop} {v : V} (h : X) : if (some v : Option V).isSome = true then X else Y := h
/-! ### items of lists, loops with any target -/
theorem InsAt.item {K : PySem.W.Frag} {F : Hp} {wd : Int} : ∀ {l : List (Int × Str)} {vs : List V} {i : Nat} {x : V}, InsAt K F wd l vs → vs[i]? = some x → ∃ ln nm t k, l[i]? = some (ln, nm) ∧ x = .ref t ∧ F t = some (.tup [.int ln, .str nm, .ref k]) ∧ KindAt K F k ⟨.plain, wd, 0⟩
  | [], _, i, x, h, e => by rw [h] at e; exact absurd e (by simp)
  | (ln, nm) :: l, _, 0, x, ⟨t, k, vs', e1, h1, h2, h3⟩, e => by
    rw [e1] at e
    exact ⟨ln, nm, t, k, rfl, (Option.some.inj e).symm, h1, h2⟩
  | (ln, nm) :: l, _, i + 1, x, ⟨t, k, vs', e1, h1, h2, h3⟩, e => by
    rw [e1] at e
    have := InsAt.item (l := l) (i := i) h3 e
    exact this
theorem OutsAt.item {F : Hp} : ∀ {l : List (Int × Str)} {vs : List V} {i : Nat} {x : V}, OutsAt F l vs → vs[i]? = some x → ∃ ln nm t, l[i]? = some (ln, nm) ∧ x = .ref t ∧ F t = some (.tup [.int ln, .str nm])
  | [], _, i, x, h, e => by rw [h] at e; exact absurd e (by simp)
  | (ln, nm) :: l, _, 0, x, ⟨t, vs', e1, h1, h3⟩, e => by
    rw [e1] at e
    exact ⟨ln, nm, t, rfl, (Option.some.inj e).symm, h1⟩
  | (ln, nm) :: l, _, i + 1, x, ⟨t, vs', e1, h1, h3⟩, e => by
    rw [e1] at e
    have := OutsAt.item (l := l) (i := i) h3 e
    exact this
theorem r_forGf {σ : L2.St} {H : Hp} {D : Ends} {K : PySem.W.Frag} {tb : TS} {g : TG} {n : Nat} {p : Addr} {xs : List V} {f : Str} {a C dx : Addr} {fs : List (Str × V)} (e : σ[n]? = some (some (.ref a))) (ho : H a = some (.ins C dx fs)) (hc : Cls K C) (hn : NoAttr K C f) (hl : fs.lookup f = some (.ref p)) (hq : SqL K H p xs)
    (Pv : Nat → L2.St → Hp → Prop) (h0 : Pv 0 σ H) (hG : ∀ i σ' H', Pv i σ' H' → SqL K H' p xs)
    (hs : ∀ i x σ' H', xs[i]? = some x → Pv i σ' H' → g x σ' H' fun σ2 H2 => tb { D with nx := Pv (i + 1), ct := Pv (i + 1), bk := D.nx } σ2 H2) (hd : ∀ σ' H', Pv xs.length σ' H' → D.nx σ' H') : tFor (iList K (tFld K (tVar n) f)) g tb D σ H := by
  refine ⟨_, e, a, C, dx, fs, _, rfl, ho, hc, hn, hl, p, rfl, ⟨xs, hq⟩, ?_⟩
  refine for_it (walk_list (xs := xs)) Pv h0 (fun i σ' H' _ q => hG i σ' H' q) (fun i x σ' H' H'' hi q y => ?_) hd
  obtain ⟨rfl, hx⟩ := y
  exact hs i x σ' _ hx q
theorem take_snd {l : List (Int × Str)} {i : Nat} {ln : Int} {nm : Str} (h : l[i]? = some (ln, nm)) : (l.take (i + 1)).map Prod.snd = (l.take i).map Prod.snd ++ [nm] := by
  rw [List.take_add_one, h, List.map_append]
  rfl
theorem nodup_take {l : List (Int × Str)} {i : Nat} {ln : Int} {nm : Str} (n : (l.map Prod.snd).Nodup) (h : l[i]? = some (ln, nm)) : nm ∉ (l.take i).map Prod.snd := by
  intro hm
  have hl := (List.getElem?_eq_some_iff.mp h).1
  have e : l.map Prod.snd = (l.take i).map Prod.snd ++ (nm :: (l.drop (i + 1)).map Prod.snd) := by
    have e2 : l.drop i = (ln, nm) :: l.drop (i + 1) := by
      rw [List.drop_eq_getElem_cons hl]
      congr 1
      rw [List.getElem?_eq_getElem hl] at h
      exact Option.some.inj h
    calc l.map Prod.snd = (l.take i ++ l.drop i).map Prod.snd := by rw [List.take_append_drop]
      _ = _ := by rw [List.map_append, e2]; rfl
  rw [e] at n
  exact (List.nodup_append.mp n).2.2 nm hm nm List.mem_cons_self rfl
end OW

set_option maxHeartbeats 4000000
namespace OW
open PySem PySem.Spec PyProof.Rows L2
/-! ### several clauses, some with names -/
def wNames (K : PySem.W.Frag) (Wout : WX) (D : Ends) : List (Value × Option Nat × (Addr → Value → Option Addr → TS)) → WX
  | [] => Wout
  | (c, none, ts) :: r => fun cls d σ H => ∃ b, PySem.W.exmOne K cls c = some b ∧ (b = true → ∀ a, H a = none → ts a cls d D σ H) ∧ (b = false → wNames K Wout D r cls d σ H)
  | (c, some i, ts) :: r => fun cls d σ H => ∃ b, PySem.W.exmOne K cls c = some b ∧ (b = true → ∀ a, H a = none → ts a cls d { nx := fun σ' H' => D.nx (σ'.set i none) H', rt := D.rt, bk := fun σ' H' => D.bk (σ'.set i none) H', ct := fun σ' H' => D.ct (σ'.set i none) H' } (σ.set i (some (.ref a))) H) ∧
      (b = false → wNames K Wout D r cls d σ H)
inductive HdsN (X : Cx) : List ExceptHandler → List (Value × Option Nat × (Addr → Value → Option Addr → TS)) → Prop
  | nil : HdsN X [] []
  | plain {x : Str} {c : Value} {ts : Addr → Value → Option Addr → TS} {b₀ : Stmt} {suite : List Stmt} {np pos' : Pos} {hds : List ExceptHandler} {l : List (Value × Option Nat × (Addr → Value → Option Addr → TS))} (hc : Names X x c)
      (hsu : ∀ (a : Addr) (oe : Obj) (cls : Value) (d : Option Addr) (pn : List (Addr × Obj)), Zc cls d oe → (∃ vs, oe.data = .fields vs) → PSs (X.suite a ((a, oe) :: pn)) (b₀ :: suite) (ts a cls d)) (r : HdsN X hds l) :
      HdsN X (.ExceptHandler (some (.Name x np)) none (b₀ :: suite) pos' :: hds) ((c, none, ts) :: l)
  | named {x n : Str} {c : Value} {i : Nat} {ts : Addr → Value → Option Addr → TS} {b₀ : Stmt} {suite : List Stmt} {np pos' : Pos} {hds : List ExceptHandler} {l : List (Value × Option Nat × (Addr → Value → Option Addr → TS))} (hc : Names X x c) (hN : X.N.Nodup) (hi : X.N[i]? = some n) (hln : X.env.kindOf n = some .local)
      (hsu : ∀ (a : Addr) (oe : Obj) (cls : Value) (d : Option Addr) (pn : List (Addr × Obj)), Zc cls d oe → (∃ vs, oe.data = .fields vs) → PSs (X.suite a ((a, oe) :: pn)) (b₀ :: suite) (ts a cls d)) (r : HdsN X hds l) :
      HdsN X (.ExceptHandler (some (.Name x np)) (some n) (b₀ :: suite) pos' :: hds) ((c, some i, ts) :: l)
section
variable {X : Cx} {body : List Stmt} {h₀ : ExceptHandler} {hds : List ExceptHandler} {l : List (Value × Option Nat × (Addr → Value → Option Addr → TS))} {pos : Pos} {tb : WX → TS} {Wout : WX}
theorem ps_try_names (hs : X.stack = X.env :: X.outer) (hf : X.env.frame = some X.env.locals) (tk : Takes X Wout)
    (hb : ∀ (W : WX) (pn : List (Addr × Obj)) (xe : Value → Shared → Prop), Takes (X.tr pn xe) W → PassesOwn (model X.prog X.w) X.A X.env xe → PSs (X.tr pn xe) body (tb W))
    (hh : HdsN X (h₀ :: hds) l) : PS X (.Try body (h₀ :: hds) [] [] pos) (fun D σ H => tb (wNames X.K Wout D l) D σ H) := by
  refine ⟨fun pins s σ H D I h => ?_⟩
  have ok := I.ok
  have hfr : X.A.frames = some (X.env :: X.outer) := by rw [ok.frames, hs]
  refine wpAny_Try_except ?_
  refine wpAny_mono ((hb (wNames X.K Wout D l) (X.pn ++ pins) (fun e s₁ => wpAny (model X.prog X.w) X.A (noteFrame e X.env) (fun _ s₂ => wpAny (model X.prog X.w) X.A (setFlight e none) (fun _ s₃ =>
    wpAny (model X.prog X.w) X.A (handleBy e X.env (h₀ :: hds)) (SP X pins D) X.xe s₃) X.xe s₂) X.xe s₁) (fun u s' xx => ?_) PassesOwn.looking).run [] s σ H D (I.toTry _) h) (fun f s1 hsp => ?_) (fun e s1 he => he)
  · -- the catch
    obtain ⟨a, B, sI, pins', σ', H', cls, d, rfl, J', nb, up, sky, na, os, ag, w⟩ := xx
    have J : Inv X pins σ' H' sI := J'.ofTry ok
    have sky' : Sky B (X.env :: X.outer) a (Zc cls d) X.env.locals s'.heap := by rw [← hs]; exact sky
    show wpAny (model X.prog X.w) X.A (noteFrame (.ref a) X.env) _ _ _
    refine Sky.land Zc.steady hfr hf sky' fun h3 fl3 up3 => ?_
    have J3 : Inv X pins σ' H' { s' with heap := h3 } := J.landed nb fl3.1 (up.trans up3) os ag
    obtain ⟨oe3, vs3, he3, hz3, hd3⟩ := fl3.there
    have notFr : ∀ {h : Heap} {o : Obj} {vs : Array Value}, h.FunFrames B (X.env :: X.outer) → h.get? a = some o → o.data = .fields vs → a ∉ frs (X.env :: X.outer) := fun {h o vs} ff e dd hm => by
      obtain ⟨_, o', e', hnf⟩ := ff.mem hm
      rw [e] at e'; cases e'
      exact hnf _ dd
    have nfr := notFr fl3.2.2.1 he3 hd3
    have nL : a ≠ X.env.locals := fun z => nfr (List.mem_filterMap.mpr ⟨X.env, List.mem_cons_self, by rw [hf, z]⟩)
    have nF : a ∉ X.fs := fun hm => by
      obtain ⟨e, he, q⟩ := List.mem_filterMap.mp hm
      exact nfr (List.mem_filterMap.mpr ⟨e, List.mem_cons_of_mem _ he, q⟩)
    have S3 := J3.suite he3 hd3 na nL nF
    have go : ∀ {hds' : List ExceptHandler} {l' : List (Value × Option Nat × (Addr → Value → Option Addr → TS))}, HdsN X hds' l' → wNames X.K Wout D l' cls d σ' H' →
        wpAny (model X.prog X.w) X.A (handleBy (.ref a) X.env hds') (SP X pins D) X.xe { s' with heap := h3 } := by
      intro hds' l' hk
      induction hk with
      | nil =>
        intro w
        refine wpAny_handleBy_nil ?_
        obtain ⟨k1, k2, k3, oe, vs, T, oT, ts', he, hz, hd, h1, hr⟩ := id fl3
        unfold PySem.passOn
        refine wpAny_bind (wpAny_field he hd h1 ?_)
        rw [if_neg (show ¬ ((Value.ref T == Value.none) = true) from by simp)]
        have fin : wpAny (model X.prog X.w) X.A (setFlight (.ref a) X.env.frame) (fun _ s4 => wpAny (model X.prog X.w) X.A (throw (.ref a) : Sem Flow) (SP X pins D) X.xe s4) X.xe { s' with heap := h3 } := by
          rw [hf]
          refine HandSPX.setFlight_upZ fl3 fun h4 hh4 up4 => wpAny_throw (tk _ _ ?_)
          exact ⟨a, B, sI, pins, σ', H', cls, d, rfl, J, nb, (up.trans up3).trans up4, .inr (.inr (by rw [hs]; exact hh4)), na, os, ag, w⟩
        first
          | exact wpAny_bind (wpAny_pure (wpAny_bind fin))
          | exact wpAny_bind fin
      | @plain x c ts b₀ suite np pos' hds2 l2 hc hsu r ih =>
        intro w
        obtain ⟨b, hb1, hyes, hno⟩ := w
        refine wpAny_handleBy_cons (codeAny_handlers_test ?_) (by intro q; cases q)
        have LT : PySem.W.Looks (model X.prog X.w) h3 (typeOf (.ref a)) cls := fun A Q E s k q => wpAny_typeOf_ref (k _ _ he3) (by rw [hz3.1]; exact q)
        have LM := PySem.W.exm_one (M := model X.prog X.w) (J3.kIn) LT hb1
        have test : ∀ {Q : Value → Shared → Prop} {E : Value → Shared → Prop}, Q c { s' with heap := h3 } → wpAny (model X.prog X.w) (X.A.mark (some (.ref a))) (eval (.Name x np) X.env) Q E { s' with heap := h3 } := fun {Q E} q => by
          obtain ⟨hg, hdbg, hm | ⟨hm, hv, hnn⟩⟩ := hc
          · exact ld_glob (X := X.suite a ((a, oe3) :: (X.pn ++ pins))) S3 hg hm q hdbg
          · exact ld_blt (X := X.suite a ((a, oe3) :: (X.pn ++ pins))) S3 hg hm hv q hnn hdbg
        refine test (LM.here ?_)
        cases b with
        | true =>
          refine codeAny_handlers_suite ?_
          refine HandSPX.lands_againZ fl3 fun h4 fl4 up4 => ?_
          have J4 : Inv X pins σ' H' { s' with heap := h4 } := J.landed nb fl4.1 ((up.trans up3).trans up4) os ag
          obtain ⟨oe4, vs4, he4, hz4, hd4⟩ := fl4.there
          have S4 := J4.suite he4 hd4 na nL nF
          refine wpAny_mono ((hsu a oe4 cls d (X.pn ++ pins) hz4 ⟨_, hd4⟩).run [] _ _ H' _ S4 (hyes rfl a na)) (fun f s6 hsp => ?_) (fun _ _ z => False.elim z)
          cases f with
          | next =>
            obtain ⟨σ6, H6, S6, q6⟩ := hsp
            exact ⟨_, _, S6.unsuite ok, q6⟩
          | brk =>
            obtain ⟨σ6, H6, S6, q6⟩ := hsp
            exact ⟨_, _, S6.unsuite ok, q6⟩
          | cont =>
            obtain ⟨σ6, H6, S6, q6⟩ := hsp
            exact ⟨_, _, S6.unsuite ok, q6⟩
          | ret u =>
            obtain ⟨v6, σ6, H6, S6, r6, q6⟩ := hsp
            exact ⟨_, _, _, S6.unsuite ok, r6, q6⟩
        | false =>
          show wpAny _ X.A (handleBy (.ref a) X.env hds2) _ _ _
          exact ih (hno rfl)
      | @named x n c i ts b₀ suite np pos' hds2 l2 hc hN hi hln hsu r ih =>
        intro w
        obtain ⟨b, hb1, hyes, hno⟩ := w
        have hloc : Loc X.env.scope n := .inl hln
        refine wpAny_handleBy_cons (codeAny_handlers_test ?_) (by intro q; cases q)
        have LT : PySem.W.Looks (model X.prog X.w) h3 (typeOf (.ref a)) cls := fun A Q E s k q => wpAny_typeOf_ref (k _ _ he3) (by rw [hz3.1]; exact q)
        have LM := PySem.W.exm_one (M := model X.prog X.w) (J3.kIn) LT hb1
        have test : ∀ {Q : Value → Shared → Prop} {E : Value → Shared → Prop}, Q c { s' with heap := h3 } → wpAny (model X.prog X.w) (X.A.mark (some (.ref a))) (eval (.Name x np) X.env) Q E { s' with heap := h3 } := fun {Q E} q => by
          obtain ⟨hg, hdbg, hm | ⟨hm, hv, hnn⟩⟩ := hc
          · exact ld_glob (X := X.suite a ((a, oe3) :: (X.pn ++ pins))) S3 hg hm q hdbg
          · exact ld_blt (X := X.suite a ((a, oe3) :: (X.pn ++ pins))) S3 hg hm hv q hnn hdbg
        refine test (LM.here ?_)
        cases b with
        | true =>
          refine codeAny_handlers_suite_as ?_
          refine HandSPX.lands_againZ fl3 fun h4 fl4 up4 => ?_
          have J4 : Inv X pins σ' H' { s' with heap := h4 } := J.landed nb fl4.1 ((up.trans up3).trans up4) os ag
          obtain ⟨oe4, vs4, he4, hz4, hd4⟩ := fl4.there
          have S4 := J4.suite he4 hd4 na nL nF
          refine store_ok (X := X.suite a ((a, oe4) :: (X.pn ++ pins))) (v := .ref a) S4 hN hi hloc rfl (fun s5 S5 => ?_) (.inr hln)
          refine wpAny_mono ((hsu a oe4 cls d (X.pn ++ pins) hz4 ⟨_, hd4⟩).run [] s5 _ H' _ S5 (hyes rfl a na)) (fun f s6 hsp => ?_) (fun _ _ z => False.elim z)
          have end_ : ∀ {σ6 : L2.St} {H6 : Hp} {Q : Shared → Prop}, Inv (X.suite a ((a, oe4) :: (X.pn ++ pins))) [] σ6 H6 s6 → (∀ s7, Inv X pins (σ6.set i none) H6 s7 → Q s7) →
              wpAny (model X.prog X.w) X.A (do bindName X.env n .none; unbindBehindTheSuite X.env n pos') (fun _ s7 => Q s7) X.xe s6 := fun {σ6 H6 Q} S6 hq => gone_ok (S6.unsuite ok) hN hi hln hq
          cases f with
          | next =>
            obtain ⟨σ6, H6, S6, q6⟩ := hsp
            exact end_ S6 fun s7 J7 => ⟨_, _, J7, q6⟩
          | brk =>
            obtain ⟨σ6, H6, S6, q6⟩ := hsp
            exact end_ S6 fun s7 J7 => ⟨_, _, J7, q6⟩
          | cont =>
            obtain ⟨σ6, H6, S6, q6⟩ := hsp
            exact end_ S6 fun s7 J7 => ⟨_, _, J7, q6⟩
          | ret u =>
            obtain ⟨v6, σ6, H6, S6, r6, q6⟩ := hsp
            exact end_ S6 fun s7 J7 => ⟨_, _, _, J7, r6, q6⟩
        | false =>
          show wpAny _ X.A (handleBy (.ref a) X.env hds2) _ _ _
          exact ih (hno rfl)
    exact go hh w
  · cases f with
    | next =>
      obtain ⟨σ', H', J', q⟩ := hsp
      exact wpAny_execs_nil ⟨σ', H', J'.ofTry ok, q⟩
    | brk =>
      obtain ⟨σ', H', J', q⟩ := hsp
      exact ⟨σ', H', J'.ofTry ok, q⟩
    | cont =>
      obtain ⟨σ', H', J', q⟩ := hsp
      exact ⟨σ', H', J'.ofTry ok, q⟩
    | ret u =>
      obtain ⟨v, σ', H', J', r, q⟩ := hsp
      exact ⟨v, σ', H', J'.ofTry ok, r, q⟩
end
/-- f(e, ..), f a def that may raise, within a try -/
theorem pe_cXS {X : Cx} {W : WX} {k j : Nat} {x : Str} {sp : Sp} {p pos : Pos} {e : Expr} {es : List Expr} {t : TA} (c : CalX X.prog X.w X.K X.mg X.base k x sp []) (hr : Room j X.A) (hk : k ≤ j) (hg : Gl X x) (tk : Takes X W) (ha : PA X (e :: es) t)
    (hdb : (x == ("__debug__" : Str)) = false := by decide) (he : starEach (e :: es) X.env = (false, eval e X.env) :: starEach es X.env := by rfl) (hpl : (backTo pos (starEach es X.env)).any (·.1) = false := by rfl) :
    PE X (.Call (.Name x p) (e :: es) [] pos) (tCallS sp (WE W) t) := by
  obtain ⟨f, fd, ps, ds, F, hm, hkp, hb, hd⟩ := c.ex
  cases hd
  exact pe_callS F (hr.mono hk) hg hm hkp hb (fun σ => passAt tk σ) ha hdb he hpl
theorem r_callS {sp : Sp} {E : L2.St → XK} {t : TA} {σ : L2.St} {H : Hp} {Q : VK} (h : t σ H fun vs H1 => sp vs H1 Q (E σ)) : tCallS sp E t σ H Q := h
theorem r_xf {a : Addr} {cls : Value} {d : Option Addr} {C : Addr} {f : Str} {te : TE} {σ : L2.St} {H : Hp} {Q : VK} (h : te σ H fun x H1 => x = .ref a ∧ cls = .ref C ∧ ∃ (dd : Addr) (fs : List (Str × V)) (v : V), d = some dd ∧ H1 dd = some (.xd fs) ∧ fs.lookup f = some v ∧ Q v H1) : tXf a cls d C f te σ H Q := h
end OW

set_option maxHeartbeats 4000000
namespace OW
open PySem PySem.Spec PyProof.Rows L2
/-! ### comprehensions, for and while, by what stands in the slots -/
section
variable {σ : L2.St} {H : Hp} {D : Ends} {K : PySem.W.Frag} {tb : TS} {n j : Nat} {p : Addr} {xs : List V}
/-- [.. for x in range(n)] -/
theorem r_lcR {Q : VK} {te : TE} {vs : List Nat} {m : Nat} (e : σ[n]? = some (some (.int (m : Int)))) (hm : m ≤ 100000) (Pv : Addr → Nat → Hp → Prop) (hw : ∀ q, wipe ((wipe σ vs).set j q) vs = wipe σ vs)
    (h0 : ∀ E, H E = none → Pv E 0 (upd H E (.lst []))) (hs : ∀ E i H', i < m → Pv E i H' → te ((wipe σ vs).set j (some (.int (i : Nat)))) H' fun z H4 => ∃ acc, H4 E = some (.lst acc) ∧ acc.length < sizeLine ∧ Pv E (i + 1) (upd H4 E (.lst (acc ++ [z]))))
    (hd : ∀ E H', Pv E m H' → Q (.ref E) H') : tLc (iRng1 (tCons (tVar n) tNil)) (gName j) tYes te vs σ H Q := by
  refine ⟨_, e, m, rfl, by omega, by omega, fun E hE => ?_⟩
  rw [Int.toNat_natCast]
  refine lc_range (lo := 0) (n := m) (Pv E) (h0 E hE) (fun i H' hi q => ?_) (fun H' q => hd E H' q)
  rw [Int.zero_add]
  exact ⟨hw _, hs E i H' hi q⟩
/-- what a comprehension over a list asks, the list evaluated -/
def LcGo (K : PySem.W.Frag) (j : Nat) (te : TE) (vs : List Nat) (τ : L2.St) (Q : VK) (a : Addr) (H : Hp) : Prop := (∃ xs, SqL K H a xs) ∧ ∀ D, H D = none → ∃ W : Nat → Nat → Hp → Prop, (∃ m, W 0 m (upd H D (.lst []))) ∧ ∀ i m H, W i m H →
      ((Itl K a).stop i H ∧ Q (.ref D) H) ∨ ((Itl K a).go i H ∧ ∃ N : Hp → Prop, (∀ H', N H' → ∃ m', m' < m ∧ W (i + 1) m' H') ∧ ∀ x H', (Itl K a).yld i H x H' → gName j x (wipe τ vs) H' fun σ2 H2 => wipe σ2 vs = wipe τ vs ∧ tYes σ2 H2 fun b H3 =>
        if b = true then te σ2 H3 fun y H4 => ∃ acc, H4 D = some (.lst acc) ∧ acc.length < sizeLine ∧ N (upd H4 D (.lst (acc ++ [y]))) else N H3)
theorem r_lcL {Q : VK} {te : TE} {vs : List Nat} {τ : L2.St} (hq : SqL K H p xs) (Pv : Addr → Nat → Hp → Prop) (hw : ∀ q, wipe ((wipe τ vs).set j q) vs = wipe τ vs)
    (h0 : ∀ E, H E = none → Pv E 0 (upd H E (.lst []))) (hG : ∀ E i H', Pv E i H' → SqL K H' p xs)
    (hs : ∀ E i x H', xs[i]? = some x → Pv E i H' → te ((wipe τ vs).set j (some x)) H' fun z H4 => ∃ acc, H4 E = some (.lst acc) ∧ acc.length < sizeLine ∧ Pv E (i + 1) (upd H4 E (.lst (acc ++ [z]))))
    (hd : ∀ E H', Pv E xs.length H' → Q (.ref E) H') : LcGo K j te vs τ Q p H := by
  refine ⟨⟨xs, hq⟩, fun E hE => ?_⟩
  refine lc_it (walk_list (xs := xs)) (Pv E) (h0 E hE) (fun i H' _ q => hG E i H' q) (fun i v H' H'' hi q y => ?_) (fun H' q => hd E H' q)
  obtain ⟨rfl, hx⟩ := y
  exact ⟨hw _, hs E i v _ hx q⟩
theorem r_lcI {ti : TE} {Q : VK} {te : TE} {vs : List Nat} (h : ti σ H fun x H1 => ∃ a, x = .ref a ∧ LcGo K j te vs σ Q a H1) : tLc (iList K ti) (gName j) tYes te vs σ H Q := h
/-- [.. for i, x in enumerate(l) if ..] -/
theorem r_lcE {Q : VK} {te : TE} {tt : TT} {vs : List Nat} {i1 i2 : Nat} (e : σ[n]? = some (some (.ref p))) (hq : SqL K H p xs) (Pv : Addr → Nat → Hp → Prop) (hw : ∀ q q', wipe (((wipe σ vs).set i1 q).set i2 q') vs = wipe σ vs)
    (h0 : ∀ E, H E = none → Pv E 0 (upd H E (.lst []))) (hG : ∀ E i H', Pv E i H' → SqL K H' p xs)
    (hs : ∀ E i x T H', xs[i]? = some x → Pv E i H' → H' T = none → tt (((wipe σ vs).set i1 (some (.int (i : Nat)))).set i2 (some x)) (upd H' T (.tup [.int (i : Nat), x])) fun b H3 =>
      if b = true then te (((wipe σ vs).set i1 (some (.int (i : Nat)))).set i2 (some x)) H3 fun z H4 => ∃ acc, H4 E = some (.lst acc) ∧ acc.length < sizeLine ∧ Pv E (i + 1) (upd H4 E (.lst (acc ++ [z]))) else Pv E (i + 1) H3)
    (hd : ∀ E H', Pv E xs.length H' → Q (.ref E) H') : tLc (iEnum K (tCons (tVar n) tNil)) (gTup K 2 (gCons (gName i1) (gCons (gName i2) gNil))) tt te vs σ H Q := by
  refine ⟨_, e, p, xs, rfl, hq, fun E hE => ?_⟩
  refine lc_it (walk_enum (xs := xs)) (Pv E) (h0 E hE) (fun i H' _ q => hG E i H' q) (fun i v H' H'' hi q y => ?_) (fun H' q => hd E H' q)
  obtain ⟨T, a, b, rfl, hT, rfl, ha, hb⟩ := y
  obtain rfl := Option.some.inj ha
  exact r_gT2 (SqT.of upd_same) ⟨hw _ _, hs E i b T H' hb q hT⟩
/-- for k in range(e) -/
theorem r_forR {ta : TA} {m : Nat} (h : ta σ H fun vs H1 => vs = [.int (m : Int)] ∧ m ≤ 100000 ∧ ∃ Pv : Nat → L2.St → Hp → Prop, Pv 0 σ H1 ∧
    (∀ i σ' H', i < m → Pv i σ' H' → tb { D with nx := Pv (i + 1), ct := Pv (i + 1), bk := D.nx } (σ'.set j (some (.int (i : Nat)))) H') ∧ ∀ σ' H', Pv m σ' H' → D.nx σ' H')
    (mono : ∀ R R' : List V → Hp → Prop, (∀ v H1, R v H1 → R' v H1) → ta σ H R → ta σ H R') : tFor (iRng1 ta) (gName j) tb D σ H := by
  refine mono _ _ (fun vs H1 ⟨e, hm, Pv, h0, hs, hd⟩ => ?_) h
  refine ⟨m, e, by omega, by omega, ?_⟩
  rw [Int.toNat_natCast]
  refine for_range (lo := 0) (n := m) Pv h0 (fun i σ' H' hi q => ?_) hd
  rw [Int.zero_add]
  exact hs i σ' H' hi q
/-- what a for over range(n) asks, n evaluated -/
def FrGo (tb : TS) (j : Nat) (D : Ends) (σ : L2.St) (n : Nat) (H : Hp) : Prop := ∃ W : Nat → Nat → L2.St → Hp → Prop, (∃ m, W 0 m σ H) ∧ ∀ i m σ H, W i m σ H →
  ((Itr 0 n).stop i H ∧ D.nx σ H) ∨ ((Itr 0 n).go i H ∧ ∃ N : L2.St → Hp → Prop, (∀ σ' H', N σ' H' → ∃ m', m' < m ∧ W (i + 1) m' σ' H') ∧ ∀ x H', (Itr 0 n).yld i H x H' → gName j x σ H' fun σ2 H2 => tb { D with nx := N, ct := N, bk := D.nx } σ2 H2)
theorem r_forI {ta : TA} (h : ta σ H fun vs H1 => ∃ i : Int, vs = [.int i] ∧ -(2 ^ 62) ≤ i ∧ i < 2 ^ 62 ∧ FrGo tb j D σ i.toNat H1) : tFor (iRng1 ta) (gName j) tb D σ H := h
theorem r_frGo {m : Nat} (Pv : Nat → L2.St → Hp → Prop) (h0 : Pv 0 σ H) (hs : ∀ i σ' H', i < m → Pv i σ' H' → tb { D with nx := Pv (i + 1), ct := Pv (i + 1), bk := D.nx } (σ'.set j (some (.int (i : Nat)))) H') (hd : ∀ σ' H', Pv m σ' H' → D.nx σ' H') : FrGo tb j D σ m H := by
  refine for_range (lo := 0) (n := m) Pv h0 (fun i σ' H' hi q => ?_) hd
  rw [Int.zero_add]
  exact hs i σ' H' hi q
theorem r_while {c : TT} (W : Nat → L2.St → Hp → Prop) (m : Nat) (h0 : W m σ H) (h : ∀ m σ H, W m σ H → c σ H fun b H1 => if b = true then ∃ N : L2.St → Hp → Prop, (∀ σ' H', N σ' H' → ∃ m', m' < m ∧ W m' σ' H') ∧ tb { D with nx := N, ct := N, bk := D.nx } σ H1 else D.nx σ H1) :
    tWhile c tb D σ H := ⟨W, ⟨m, h0⟩, h⟩
theorem r_addS {a b : Str} {P : Str → Prop} (hz : a.length + b.length ≤ 100000) (h : P (a ++ b)) : a.length + b.length ≤ sizeLine ∧ P (a ++ b) := ⟨line_le hz, h⟩
end
abbrev rInStr : R2 := fun x y H Q => ∃ i j, x = .str i ∧ y = .str j ∧ Q (.bl (!(Builtin.Str.occurrences j i 0 j.length 1).isEmpty)) H
theorem r_cut {t u : TS} {σ : L2.St} {H : Hp} {D : Ends} (Mid : L2.St → Hp → Prop) (h1 : t { D with nx := Mid } σ H) (h2 : ∀ σ' H', Mid σ' H' → u D σ' H') : C8.tCut t u D σ H := ⟨Mid, h1, h2⟩
theorem SameBut.same {r : Addr} {A B C : Hp} (f : SameBut r A B) (s : Same B C) : SameBut r A C := fun c o hc e => s _ _ (f c o hc e)
theorem SameBut.updL {r : Addr} {A B : Hp} {o : HO} (f : SameBut r A B) : SameBut r A (upd B r o) := fun c o hc e => by rw [upd_ne hc]; exact f c o hc e
theorem lenApp (a b : Str) : (a ++ b).length = a.length + b.length := Array.size_append
theorem cutTake (xs : List V) {k : Nat} (h : k ≤ xs.length) : cutV xs none (some (k : Int)) = xs.take k := by
  have e : HT.sIx xs.length xs.length (some (k : Int)) = k := by
    rw [HT.sIx_nat]; omega
  show (xs.drop 0).take (HT.sIx xs.length xs.length (some (k : Int)) - 0) = _
  rw [e]
  rfl
end OW

set_option maxHeartbeats 0
namespace OW
open PySem PySem.Spec PyProof.Rows L2

abbrev theLaw : PySem.W.OpenLaw := PySem.Challenge.rw_overwise_k68_too_much
abbrev R : PySem.W.OpenRow := PySem.W.OpenLaw.row PySem.Challenge.rw_overwise_k68_too_much
def top (i : Nat) : Stmt := PySem.Challenge.pw_overwise_k68_too_much.main.body.getD i (.Pass ⟨0, 0, 0, 0⟩)
abbrev s__wall : Stmt := top 0
abbrev s_NoWidth_init : Stmt := inClass (top 3) 0
abbrev s_NoWord_init : Stmt := inClass (top 4) 0
abbrev s_NoKind_init : Stmt := inClass (top 5) 0
abbrev s_NoText_init : Stmt := inClass (top 6) 0
abbrev s_NoProgram_init : Stmt := inClass (top 7) 0
abbrev s_TooMuch_init : Stmt := inClass (top 8) 0
abbrev s_Unknown_init : Stmt := inClass (top 9) 0
abbrev s_WrongKind_init : Stmt := inClass (top 10) 0
abbrev s_Twice_init : Stmt := inClass (top 11) 0
abbrev s_is_whole : Stmt := top 15
abbrev s_need_width : Stmt := top 16
abbrev s_are_signs : Stmt := top 17
abbrev s_Kind_init : Stmt := inClass (top 20) 0
abbrev s_Kind_word : Stmt := inClass (top 20) 1
abbrev s_Kind_least : Stmt := inClass (top 20) 2
abbrev s_Kind_greatest : Stmt := inClass (top 20) 3
abbrev s_Kind_is_count : Stmt := inClass (top 20) 4
abbrev s_Kind_count_of : Stmt := inClass (top 20) 5
abbrev s_Kind_bits_of : Stmt := inClass (top 20) 6
abbrev s_Kind_shown : Stmt := inClass (top 20) 10
abbrev s_Kind_read : Stmt := inClass (top 20) 11
abbrev s_Plain_init : Stmt := inClass (top 21) 0
abbrev s_Plain_word : Stmt := inClass (top 21) 1
abbrev s_Plain_least : Stmt := inClass (top 21) 2
abbrev s_Plain_greatest : Stmt := inClass (top 21) 3
abbrev s_Signed_init : Stmt := inClass (top 22) 0
abbrev s_Pointed_init : Stmt := inClass (top 23) 0
abbrev s_Pointed_word : Stmt := inClass (top 23) 1
abbrev s_same_kind : Stmt := top 24
abbrev s_Row_init : Stmt := inClass (top 34) 0
abbrev s_Repeat_init : Stmt := inClass (top 35) 0
abbrev s_form_of : Stmt := top 36
abbrev s_is_name : Stmt := top 37
abbrev s_number_in : Stmt := top 38
abbrev s_kind_in : Stmt := top 39
abbrev s_bits_shown : Stmt := top 40
abbrev s_taken : Stmt := top 41
abbrev s_Draft_init : Stmt := inClass (top 42) 0
abbrev s_Draft_block : Stmt := inClass (top 42) 1
abbrev s_Draft_take : Stmt := inClass (top 42) 2
abbrev s_Draft_take_width : Stmt := inClass (top 42) 3
abbrev s_Draft_take_in : Stmt := inClass (top 42) 4
abbrev s_Draft_take_out : Stmt := inClass (top 42) 5
abbrev s_Draft_take_repeat : Stmt := inClass (top 42) 6
abbrev s_Draft_take_end : Stmt := inClass (top 42) 7
abbrev s_Draft_take_row : Stmt := inClass (top 42) 8
abbrev s_Draft_is_great : Stmt := inClass (top 42) 9
abbrev s_read_lines : Stmt := top 43
abbrev s_kind_words : Stmt := top 48
abbrev s_count_rows : Stmt := top 49
abbrev s_Program_init : Stmt := inClass (top 50) 0
abbrev s_Program_names : Stmt := inClass (top 50) 2
abbrev s_Program_rows_run : Stmt := inClass (top 50) 3
abbrev s_Program_text : Stmt := inClass (top 50) 4
abbrev s_Program_write : Stmt := inClass (top 50) 5
abbrev s_Program_words_behind : Stmt := inClass (top 50) 6
abbrev s_Program_look : Stmt := inClass (top 50) 7
abbrev s_Program_made_kind : Stmt := inClass (top 50) 8
abbrev s_read_program : Stmt := top 51
abbrev s_L_cell : Stmt := top 53
abbrev s_L_box : Stmt := top 54
abbrev s_L_take : Stmt := top 55
abbrev s_L_told : Stmt := top 56
abbrev s_L_lines_right : Stmt := top 57
abbrev s_L_names_right : Stmt := top 58
abbrev s_L_loops_right : Stmt := top 59
abbrev s_L_rows_done_right : Stmt := top 60
abbrev s_law : Stmt := top 61
def d__wall : He.DefD := ⟨("_wall", none), "_wall", "_wall", defArgs s__wall, defBody s__wall, defScope s__wall, [], []⟩
def d_NoWidth_init : He.DefD := ⟨("NoWidth", some "__init__"), "__init__", "NoWidth.__init__", defArgs s_NoWidth_init, defBody s_NoWidth_init, defScope s_NoWidth_init, [], []⟩
def d_NoWord_init : He.DefD := ⟨("NoWord", some "__init__"), "__init__", "NoWord.__init__", defArgs s_NoWord_init, defBody s_NoWord_init, defScope s_NoWord_init, [], []⟩
def d_NoKind_init : He.DefD := ⟨("NoKind", some "__init__"), "__init__", "NoKind.__init__", defArgs s_NoKind_init, defBody s_NoKind_init, defScope s_NoKind_init, [], []⟩
def d_NoText_init : He.DefD := ⟨("NoText", some "__init__"), "__init__", "NoText.__init__", defArgs s_NoText_init, defBody s_NoText_init, defScope s_NoText_init, [], []⟩
def d_NoProgram_init : He.DefD := ⟨("NoProgram", some "__init__"), "__init__", "NoProgram.__init__", defArgs s_NoProgram_init, defBody s_NoProgram_init, defScope s_NoProgram_init, [], []⟩
def d_TooMuch_init : He.DefD := ⟨("TooMuch", some "__init__"), "__init__", "TooMuch.__init__", defArgs s_TooMuch_init, defBody s_TooMuch_init, defScope s_TooMuch_init, [], []⟩
def d_Unknown_init : He.DefD := ⟨("Unknown", some "__init__"), "__init__", "Unknown.__init__", defArgs s_Unknown_init, defBody s_Unknown_init, defScope s_Unknown_init, [], []⟩
def d_WrongKind_init : He.DefD := ⟨("WrongKind", some "__init__"), "__init__", "WrongKind.__init__", defArgs s_WrongKind_init, defBody s_WrongKind_init, defScope s_WrongKind_init, [], []⟩
def d_Twice_init : He.DefD := ⟨("Twice", some "__init__"), "__init__", "Twice.__init__", defArgs s_Twice_init, defBody s_Twice_init, defScope s_Twice_init, [], []⟩
def d_is_whole : He.DefD := ⟨("is_whole", none), "is_whole", "is_whole", defArgs s_is_whole, defBody s_is_whole, defScope s_is_whole, [], []⟩
def d_need_width : He.DefD := ⟨("need_width", none), "need_width", "need_width", defArgs s_need_width, defBody s_need_width, defScope s_need_width, [], []⟩
def d_are_signs : He.DefD := ⟨("are_signs", none), "are_signs", "are_signs", defArgs s_are_signs, defBody s_are_signs, defScope s_are_signs, [], []⟩
def d_Kind_init : He.DefD := ⟨("Kind", some "__init__"), "__init__", "Kind.__init__", defArgs s_Kind_init, defBody s_Kind_init, defScope s_Kind_init, [], []⟩
def d_Kind_word : He.DefD := ⟨("Kind", some "word"), "word", "Kind.word", defArgs s_Kind_word, defBody s_Kind_word, defScope s_Kind_word, [], []⟩
def d_Kind_least : He.DefD := ⟨("Kind", some "least"), "least", "Kind.least", defArgs s_Kind_least, defBody s_Kind_least, defScope s_Kind_least, [], []⟩
def d_Kind_greatest : He.DefD := ⟨("Kind", some "greatest"), "greatest", "Kind.greatest", defArgs s_Kind_greatest, defBody s_Kind_greatest, defScope s_Kind_greatest, [], []⟩
def d_Kind_is_count : He.DefD := ⟨("Kind", some "is_count"), "is_count", "Kind.is_count", defArgs s_Kind_is_count, defBody s_Kind_is_count, defScope s_Kind_is_count, [], []⟩
def d_Kind_count_of : He.DefD := ⟨("Kind", some "count_of"), "count_of", "Kind.count_of", defArgs s_Kind_count_of, defBody s_Kind_count_of, defScope s_Kind_count_of, [], []⟩
def d_Kind_bits_of : He.DefD := ⟨("Kind", some "bits_of"), "bits_of", "Kind.bits_of", defArgs s_Kind_bits_of, defBody s_Kind_bits_of, defScope s_Kind_bits_of, [], []⟩
def d_Kind_shown : He.DefD := ⟨("Kind", some "shown"), "shown", "Kind.shown", defArgs s_Kind_shown, defBody s_Kind_shown, defScope s_Kind_shown, [], []⟩
def d_Kind_read : He.DefD := ⟨("Kind", some "read"), "read", "Kind.read", defArgs s_Kind_read, defBody s_Kind_read, defScope s_Kind_read, [], []⟩
def d_Plain_init : He.DefD := ⟨("Plain", some "__init__"), "__init__", "Plain.__init__", defArgs s_Plain_init, defBody s_Plain_init, defScope s_Plain_init, [], []⟩
def d_Plain_word : He.DefD := ⟨("Plain", some "word"), "word", "Plain.word", defArgs s_Plain_word, defBody s_Plain_word, defScope s_Plain_word, [], []⟩
def d_Plain_least : He.DefD := ⟨("Plain", some "least"), "least", "Plain.least", defArgs s_Plain_least, defBody s_Plain_least, defScope s_Plain_least, [], []⟩
def d_Plain_greatest : He.DefD := ⟨("Plain", some "greatest"), "greatest", "Plain.greatest", defArgs s_Plain_greatest, defBody s_Plain_greatest, defScope s_Plain_greatest, [], []⟩
def d_Signed_init : He.DefD := ⟨("Signed", some "__init__"), "__init__", "Signed.__init__", defArgs s_Signed_init, defBody s_Signed_init, defScope s_Signed_init, [], []⟩
def d_Pointed_init : He.DefD := ⟨("Pointed", some "__init__"), "__init__", "Pointed.__init__", defArgs s_Pointed_init, defBody s_Pointed_init, defScope s_Pointed_init, [], []⟩
def d_Pointed_word : He.DefD := ⟨("Pointed", some "word"), "word", "Pointed.word", defArgs s_Pointed_word, defBody s_Pointed_word, defScope s_Pointed_word, [], []⟩
def d_same_kind : He.DefD := ⟨("same_kind", none), "same_kind", "same_kind", defArgs s_same_kind, defBody s_same_kind, defScope s_same_kind, [], []⟩
def d_Row_init : He.DefD := ⟨("Row", some "__init__"), "__init__", "Row.__init__", defArgs s_Row_init, defBody s_Row_init, defScope s_Row_init, [], []⟩
def d_Repeat_init : He.DefD := ⟨("Repeat", some "__init__"), "__init__", "Repeat.__init__", defArgs s_Repeat_init, defBody s_Repeat_init, defScope s_Repeat_init, [], []⟩
def d_form_of : He.DefD := ⟨("form_of", none), "form_of", "form_of", defArgs s_form_of, defBody s_form_of, defScope s_form_of, [], []⟩
def d_is_name : He.DefD := ⟨("is_name", none), "is_name", "is_name", defArgs s_is_name, defBody s_is_name, defScope s_is_name, [], []⟩
def d_number_in : He.DefD := ⟨("number_in", none), "number_in", "number_in", defArgs s_number_in, defBody s_number_in, defScope s_number_in, [], []⟩
def d_kind_in : He.DefD := ⟨("kind_in", none), "kind_in", "kind_in", defArgs s_kind_in, defBody s_kind_in, defScope s_kind_in, [], []⟩
def d_bits_shown : He.DefD := ⟨("bits_shown", none), "bits_shown", "bits_shown", defArgs s_bits_shown, defBody s_bits_shown, defScope s_bits_shown, [], []⟩
def d_taken : He.DefD := ⟨("taken", none), "taken", "taken", defArgs s_taken, defBody s_taken, defScope s_taken, [], []⟩
def d_Draft_init : He.DefD := ⟨("Draft", some "__init__"), "__init__", "Draft.__init__", defArgs s_Draft_init, defBody s_Draft_init, defScope s_Draft_init, [], []⟩
def d_Draft_block : He.DefD := ⟨("Draft", some "block"), "block", "Draft.block", defArgs s_Draft_block, defBody s_Draft_block, defScope s_Draft_block, [], []⟩
def d_Draft_take : He.DefD := ⟨("Draft", some "take"), "take", "Draft.take", defArgs s_Draft_take, defBody s_Draft_take, defScope s_Draft_take, [], []⟩
def d_Draft_take_width : He.DefD := ⟨("Draft", some "take_width"), "take_width", "Draft.take_width", defArgs s_Draft_take_width, defBody s_Draft_take_width, defScope s_Draft_take_width, [], []⟩
def d_Draft_take_in : He.DefD := ⟨("Draft", some "take_in"), "take_in", "Draft.take_in", defArgs s_Draft_take_in, defBody s_Draft_take_in, defScope s_Draft_take_in, [], []⟩
def d_Draft_take_out : He.DefD := ⟨("Draft", some "take_out"), "take_out", "Draft.take_out", defArgs s_Draft_take_out, defBody s_Draft_take_out, defScope s_Draft_take_out, [], []⟩
def d_Draft_take_repeat : He.DefD := ⟨("Draft", some "take_repeat"), "take_repeat", "Draft.take_repeat", defArgs s_Draft_take_repeat, defBody s_Draft_take_repeat, defScope s_Draft_take_repeat, [], []⟩
def d_Draft_take_end : He.DefD := ⟨("Draft", some "take_end"), "take_end", "Draft.take_end", defArgs s_Draft_take_end, defBody s_Draft_take_end, defScope s_Draft_take_end, [], []⟩
def d_Draft_take_row : He.DefD := ⟨("Draft", some "take_row"), "take_row", "Draft.take_row", defArgs s_Draft_take_row, defBody s_Draft_take_row, defScope s_Draft_take_row, [], []⟩
def d_Draft_is_great : He.DefD := ⟨("Draft", some "is_great"), "is_great", "Draft.is_great", defArgs s_Draft_is_great, defBody s_Draft_is_great, defScope s_Draft_is_great, [], []⟩
def d_read_lines : He.DefD := ⟨("read_lines", none), "read_lines", "read_lines", defArgs s_read_lines, defBody s_read_lines, defScope s_read_lines, [], []⟩
def d_kind_words : He.DefD := ⟨("kind_words", none), "kind_words", "kind_words", defArgs s_kind_words, defBody s_kind_words, defScope s_kind_words, [], []⟩
def d_count_rows : He.DefD := ⟨("count_rows", none), "count_rows", "count_rows", defArgs s_count_rows, defBody s_count_rows, defScope s_count_rows, [], []⟩
def d_Program_init : He.DefD := ⟨("Program", some "__init__"), "__init__", "Program.__init__", defArgs s_Program_init, defBody s_Program_init, defScope s_Program_init, [], []⟩
def d_Program_names : He.DefD := ⟨("Program", some "names"), "names", "Program.names", defArgs s_Program_names, defBody s_Program_names, defScope s_Program_names, [], []⟩
def d_Program_rows_run : He.DefD := ⟨("Program", some "rows_run"), "rows_run", "Program.rows_run", defArgs s_Program_rows_run, defBody s_Program_rows_run, defScope s_Program_rows_run, [], []⟩
def d_Program_text : He.DefD := ⟨("Program", some "text"), "text", "Program.text", defArgs s_Program_text, defBody s_Program_text, defScope s_Program_text, [], []⟩
def d_Program_write : He.DefD := ⟨("Program", some "write"), "write", "Program.write", defArgs s_Program_write, defBody s_Program_write, defScope s_Program_write, [], []⟩
def d_Program_words_behind : He.DefD := ⟨("Program", some "words_behind"), "words_behind", "Program.words_behind", defArgs s_Program_words_behind, defBody s_Program_words_behind, defScope s_Program_words_behind, [], []⟩
def d_Program_look : He.DefD := ⟨("Program", some "look"), "look", "Program.look", defArgs s_Program_look, defBody s_Program_look, defScope s_Program_look, [], []⟩
def d_Program_made_kind : He.DefD := ⟨("Program", some "made_kind"), "made_kind", "Program.made_kind", defArgs s_Program_made_kind, defBody s_Program_made_kind, defScope s_Program_made_kind, [], []⟩
def d_read_program : He.DefD := ⟨("read_program", none), "read_program", "read_program", defArgs s_read_program, defBody s_read_program, defScope s_read_program, [], []⟩
def d_L_cell : He.DefD := ⟨("_law_cell", none), "_law_cell", "_law_cell", defArgs s_L_cell, defBody s_L_cell, defScope s_L_cell, [], []⟩
def d_L_box : He.DefD := ⟨("_law_box", none), "_law_box", "_law_box", defArgs s_L_box, defBody s_L_box, defScope s_L_box, [], []⟩
def d_L_take : He.DefD := ⟨("_law_take", none), "_law_take", "_law_take", defArgs s_L_take, defBody s_L_take, defScope s_L_take, [], []⟩
def d_L_told : He.DefD := ⟨("_law_told", none), "_law_told", "_law_told", defArgs s_L_told, defBody s_L_told, defScope s_L_told, [], []⟩
def d_L_lines_right : He.DefD := ⟨("_law_lines_right", none), "_law_lines_right", "_law_lines_right", defArgs s_L_lines_right, defBody s_L_lines_right, defScope s_L_lines_right, [], []⟩
def d_L_names_right : He.DefD := ⟨("_law_names_right", none), "_law_names_right", "_law_names_right", defArgs s_L_names_right, defBody s_L_names_right, defScope s_L_names_right, [], []⟩
def d_L_loops_right : He.DefD := ⟨("_law_loops_right", none), "_law_loops_right", "_law_loops_right", defArgs s_L_loops_right, defBody s_L_loops_right, defScope s_L_loops_right, [], []⟩
def d_L_rows_done_right : He.DefD := ⟨("_law_rows_done_right", none), "_law_rows_done_right", "_law_rows_done_right", defArgs s_L_rows_done_right, defBody s_L_rows_done_right, defScope s_L_rows_done_right, [], []⟩
def d_law : He.DefD := ⟨("law", none), "law", "law", defArgs s_law, defBody s_law, defScope s_law, [], []⟩
def d_Plain__is_count : He.DefD := ⟨("Plain", some "is_count"), "is_count", "Kind.is_count", defArgs s_Kind_is_count, defBody s_Kind_is_count, defScope s_Kind_is_count, [], []⟩
def d_Plain__count_of : He.DefD := ⟨("Plain", some "count_of"), "count_of", "Kind.count_of", defArgs s_Kind_count_of, defBody s_Kind_count_of, defScope s_Kind_count_of, [], []⟩
def d_Plain__bits_of : He.DefD := ⟨("Plain", some "bits_of"), "bits_of", "Kind.bits_of", defArgs s_Kind_bits_of, defBody s_Kind_bits_of, defScope s_Kind_bits_of, [], []⟩
def d_Plain__shown : He.DefD := ⟨("Plain", some "shown"), "shown", "Kind.shown", defArgs s_Kind_shown, defBody s_Kind_shown, defScope s_Kind_shown, [], []⟩
def d_Plain__read : He.DefD := ⟨("Plain", some "read"), "read", "Kind.read", defArgs s_Kind_read, defBody s_Kind_read, defScope s_Kind_read, [], []⟩
def d_Signed__word : He.DefD := ⟨("Signed", some "word"), "word", "Kind.word", defArgs s_Kind_word, defBody s_Kind_word, defScope s_Kind_word, [], []⟩
def d_Signed__least : He.DefD := ⟨("Signed", some "least"), "least", "Kind.least", defArgs s_Kind_least, defBody s_Kind_least, defScope s_Kind_least, [], []⟩
def d_Signed__greatest : He.DefD := ⟨("Signed", some "greatest"), "greatest", "Kind.greatest", defArgs s_Kind_greatest, defBody s_Kind_greatest, defScope s_Kind_greatest, [], []⟩
def d_Signed__is_count : He.DefD := ⟨("Signed", some "is_count"), "is_count", "Kind.is_count", defArgs s_Kind_is_count, defBody s_Kind_is_count, defScope s_Kind_is_count, [], []⟩
def d_Signed__count_of : He.DefD := ⟨("Signed", some "count_of"), "count_of", "Kind.count_of", defArgs s_Kind_count_of, defBody s_Kind_count_of, defScope s_Kind_count_of, [], []⟩
def d_Signed__bits_of : He.DefD := ⟨("Signed", some "bits_of"), "bits_of", "Kind.bits_of", defArgs s_Kind_bits_of, defBody s_Kind_bits_of, defScope s_Kind_bits_of, [], []⟩
def d_Signed__shown : He.DefD := ⟨("Signed", some "shown"), "shown", "Kind.shown", defArgs s_Kind_shown, defBody s_Kind_shown, defScope s_Kind_shown, [], []⟩
def d_Signed__read : He.DefD := ⟨("Signed", some "read"), "read", "Kind.read", defArgs s_Kind_read, defBody s_Kind_read, defScope s_Kind_read, [], []⟩
def d_Pointed__least : He.DefD := ⟨("Pointed", some "least"), "least", "Kind.least", defArgs s_Kind_least, defBody s_Kind_least, defScope s_Kind_least, [], []⟩
def d_Pointed__greatest : He.DefD := ⟨("Pointed", some "greatest"), "greatest", "Kind.greatest", defArgs s_Kind_greatest, defBody s_Kind_greatest, defScope s_Kind_greatest, [], []⟩
def d_Pointed__is_count : He.DefD := ⟨("Pointed", some "is_count"), "is_count", "Kind.is_count", defArgs s_Kind_is_count, defBody s_Kind_is_count, defScope s_Kind_is_count, [], []⟩
def d_Pointed__count_of : He.DefD := ⟨("Pointed", some "count_of"), "count_of", "Kind.count_of", defArgs s_Kind_count_of, defBody s_Kind_count_of, defScope s_Kind_count_of, [], []⟩
def d_Pointed__bits_of : He.DefD := ⟨("Pointed", some "bits_of"), "bits_of", "Kind.bits_of", defArgs s_Kind_bits_of, defBody s_Kind_bits_of, defScope s_Kind_bits_of, [], []⟩
def d_Pointed__shown : He.DefD := ⟨("Pointed", some "shown"), "shown", "Kind.shown", defArgs s_Kind_shown, defBody s_Kind_shown, defScope s_Kind_shown, [], []⟩
def d_Pointed__read : He.DefD := ⟨("Pointed", some "read"), "read", "Kind.read", defArgs s_Kind_read, defBody s_Kind_read, defScope s_Kind_read, [], []⟩
def fnL : List He.DefD := [d__wall, d_NoWidth_init, d_NoWord_init, d_NoKind_init, d_NoText_init, d_NoProgram_init, d_TooMuch_init, d_Unknown_init, d_WrongKind_init, d_Twice_init, d_is_whole, d_need_width, d_are_signs, d_Kind_init, d_Kind_word, d_Kind_least, d_Kind_greatest, d_Kind_is_count, d_Kind_count_of, d_Kind_bits_of, d_Kind_shown, d_Kind_read, d_Plain_init, d_Plain_word, d_Plain_least, d_Plain_greatest, d_Signed_init, d_Pointed_init, d_Pointed_word, d_same_kind, d_Row_init, d_Repeat_init, d_form_of, d_is_name, d_number_in, d_kind_in, d_bits_shown, d_taken, d_Draft_init, d_Draft_block, d_Draft_take, d_Draft_take_width, d_Draft_take_in, d_Draft_take_out, d_Draft_take_repeat, d_Draft_take_end, d_Draft_take_row, d_Draft_is_great, d_read_lines, d_kind_words, d_count_rows, d_Program_init, d_Program_names, d_Program_rows_run, d_Program_text, d_Program_write, d_Program_words_behind, d_Program_look, d_Program_made_kind, d_read_program, d_L_cell, d_L_box, d_L_take, d_L_told, d_L_lines_right, d_L_names_right, d_L_loops_right, d_L_rows_done_right, d_law, d_Plain__is_count, d_Plain__count_of, d_Plain__bits_of, d_Plain__shown, d_Plain__read, d_Signed__word, d_Signed__least, d_Signed__greatest, d_Signed__is_count, d_Signed__count_of, d_Signed__bits_of, d_Signed__shown, d_Signed__read, d_Pointed__least, d_Pointed__greatest, d_Pointed__is_count, d_Pointed__count_of, d_Pointed__bits_of, d_Pointed__shown, d_Pointed__read]
def faL : List He.Fa := [.glo "_wall", .glo "is_whole", .glo "need_width", .glo "are_signs", .glo "same_kind", .glo "form_of", .glo "is_name", .glo "number_in", .glo "kind_in", .glo "bits_shown", .glo "taken", .glo "read_lines", .glo "kind_words", .glo "count_rows", .glo "read_program", .glo "_law_cell", .glo "_law_box", .glo "_law_take", .glo "_law_told", .glo "_law_lines_right", .glo "_law_names_right", .glo "_law_loops_right", .glo "_law_rows_done_right", .glo "law", .glo "WiseError", .keep "WiseError", .glo "NoWidth", .keep "NoWidth", .noat "NoWidth" "found", .glo "NoWord", .keep "NoWord", .noat "NoWord" "found", .glo "NoKind", .keep "NoKind", .noat "NoKind" "found", .glo "NoText", .keep "NoText", .noat "NoText" "found", .glo "NoProgram", .keep "NoProgram", .noat "NoProgram" "line", .glo "TooMuch", .keep "TooMuch", .noat "TooMuch" "line", .glo "Unknown", .keep "Unknown", .noat "Unknown" "line", .noat "Unknown" "name", .glo "WrongKind", .keep "WrongKind", .noat "WrongKind" "line", .noat "WrongKind" "name", .glo "Twice", .keep "Twice", .noat "Twice" "line", .noat "Twice" "name", .glo "Kind", .keep "Kind", .cls "Kind", .mkr "Kind", .noat "Kind" "width", .noat "Kind" "point", .meth "Kind" "word", .meth "Kind" "least", .meth "Kind" "greatest", .meth "Kind" "is_count", .meth "Kind" "count_of", .meth "Kind" "bits_of", .meth "Kind" "value_of", .meth "Kind" "go_round", .meth "Kind" "stop_at", .meth "Kind" "shown", .meth "Kind" "read", .glo "Plain", .keep "Plain", .cls "Plain", .mkr "Plain", .noat "Plain" "width", .noat "Plain" "point", .meth "Plain" "word", .meth "Plain" "least", .meth "Plain" "greatest", .meth "Plain" "is_count", .meth "Plain" "count_of", .meth "Plain" "bits_of", .meth "Plain" "value_of", .meth "Plain" "go_round", .meth "Plain" "stop_at", .meth "Plain" "shown", .meth "Plain" "read", .glo "Signed", .keep "Signed", .cls "Signed", .mkr "Signed", .noat "Signed" "width", .noat "Signed" "point", .meth "Signed" "word", .meth "Signed" "least", .meth "Signed" "greatest", .meth "Signed" "is_count", .meth "Signed" "count_of", .meth "Signed" "bits_of", .meth "Signed" "value_of", .meth "Signed" "go_round", .meth "Signed" "stop_at", .meth "Signed" "shown", .meth "Signed" "read", .glo "Pointed", .keep "Pointed", .cls "Pointed", .mkr "Pointed", .noat "Pointed" "width", .noat "Pointed" "point", .meth "Pointed" "word", .meth "Pointed" "least", .meth "Pointed" "greatest", .meth "Pointed" "is_count", .meth "Pointed" "count_of", .meth "Pointed" "bits_of", .meth "Pointed" "value_of", .meth "Pointed" "go_round", .meth "Pointed" "stop_at", .meth "Pointed" "shown", .meth "Pointed" "read", .glo "Row", .keep "Row", .cls "Row", .mkr "Row", .noat "Row" "line", .noat "Row" "deed", .noat "Row" "goals", .noat "Row" "reads", .noat "Row" "numbers", .noat "Row" "way", .glo "Repeat", .keep "Repeat", .cls "Repeat", .mkr "Repeat", .noat "Repeat" "line", .noat "Repeat" "times", .noat "Repeat" "rows", .glo "Draft", .keep "Draft", .cls "Draft", .mkr "Draft", .noat "Draft" "width", .noat "Draft" "inputs", .noat "Draft" "rows", .noat "Draft" "outs", .noat "Draft" "loops", .noat "Draft" "known", .noat "Draft" "chosen", .meth "Draft" "block", .meth "Draft" "take", .meth "Draft" "take_width", .meth "Draft" "take_in", .meth "Draft" "take_out", .meth "Draft" "take_repeat", .meth "Draft" "take_end", .meth "Draft" "take_row", .meth "Draft" "is_great", .glo "Program", .keep "Program", .cls "Program", .mkr "Program", .noat "Program" "width", .noat "Program" "inputs", .noat "Program" "rows", .noat "Program" "outs", .noat "Program" "kinds", .meth "Program" "kind_of", .meth "Program" "names", .meth "Program" "rows_run", .meth "Program" "text", .meth "Program" "write", .meth "Program" "words_behind", .meth "Program" "look", .meth "Program" "made_kind", .free "len", .free "isinstance", .free "int", .free "bool", .free "str", .free "list", .free "abs", .free "divmod", .free "range", .free "enumerate", .free "zip", .free "max", .free "min", .free "all", .free "ValueError", .int "LEAST_WIDTH" 4, .int "GREATEST_WIDTH" 32, .int "LONGEST_SHOWN" 60, .int "MOST_LINES" 60, .int "MOST_NAMES" 30, .int "DEEPEST" 3, .int "MOST_TURNS" 32, .int "LONGEST_NAME" 6, .int "LONGEST_NUMBER" 10, .glo "WAYS", .glo "HEADS", .int "MOST_RUN" 600, .glo "PLAIN_DEEDS", .glo "LIKE_DEEDS", .exm "NoWidth" "NoText" false, .exm "NoWord" "NoText" false, .exm "NoKind" "NoText" false, .exm "NoText" "NoText" true, .exm "NoProgram" "NoText" false, .exm "TooMuch" "NoText" false, .exm "Unknown" "NoText" false, .exm "WrongKind" "NoText" false, .exm "Twice" "NoText" false, .exm "NoWidth" "NoProgram" false, .exm "NoWord" "NoProgram" false, .exm "NoKind" "NoProgram" false, .exm "NoText" "NoProgram" false, .exm "NoProgram" "NoProgram" true, .exm "TooMuch" "NoProgram" false, .exm "Unknown" "NoProgram" false, .exm "WrongKind" "NoProgram" false, .exm "Twice" "NoProgram" false, .exm "NoWidth" "TooMuch" false, .exm "NoWord" "TooMuch" false, .exm "NoKind" "TooMuch" false, .exm "NoText" "TooMuch" false, .exm "NoProgram" "TooMuch" false, .exm "TooMuch" "TooMuch" true, .exm "Unknown" "TooMuch" false, .exm "WrongKind" "TooMuch" false, .exm "Twice" "TooMuch" false, .exm "NoWidth" "Unknown" false, .exm "NoWord" "Unknown" false, .exm "NoKind" "Unknown" false, .exm "NoText" "Unknown" false, .exm "NoProgram" "Unknown" false, .exm "TooMuch" "Unknown" false, .exm "Unknown" "Unknown" true, .exm "WrongKind" "Unknown" false, .exm "Twice" "Unknown" false, .exm "NoWidth" "WiseError" true, .exm "NoWord" "WiseError" true, .exm "NoKind" "WiseError" true, .exm "NoText" "WiseError" true, .exm "NoProgram" "WiseError" true, .exm "TooMuch" "WiseError" true, .exm "Unknown" "WiseError" true, .exm "WrongKind" "WiseError" true, .exm "Twice" "WiseError" true]
def exL : List (PySem.W.Frag → Bool) := [fun K => He2.excB "WiseError" K, fun K => He2.excB "NoWidth" K, fun K => He2.einB "NoWidth" K, fun K => He2.excB "NoWord" K, fun K => He2.einB "NoWord" K, fun K => He2.excB "NoKind" K, fun K => He2.einB "NoKind" K, fun K => He2.excB "NoText" K, fun K => He2.einB "NoText" K, fun K => He2.excB "NoProgram" K, fun K => He2.einB "NoProgram" K, fun K => He2.excB "TooMuch" K, fun K => He2.einB "TooMuch" K, fun K => He2.excB "Unknown" K, fun K => He2.einB "Unknown" K, fun K => He2.excB "WrongKind" K, fun K => He2.einB "WrongKind" K, fun K => He2.excB "Twice" K, fun K => He2.einB "Twice" K, fun K => He.tupB K "WAYS" [.str "down", .str "up", .str "cut", .str "near"], fun K => He.tupB K "HEADS" [.str "width", .str "in", .str "out", .str "plain", .str "signed", .str "point", .str "set", .str "repeat", .str "end"], fun K => He.tupB K "PLAIN_DEEDS" [.str "low", .str "high", .str "rest", .str "over", .str "part"], fun K => He.tupB K "LIKE_DEEDS" [.str "add", .str "sub", .str "addstop", .str "substop", .str "less", .str "same"], fun K => !decide (He.ga K "Kind" = He.ga K "Plain"), fun K => !decide (He.ga K "Kind" = He.ga K "Signed"), fun K => !decide (He.ga K "Kind" = He.ga K "Pointed"), fun K => !decide (He.ga K "Kind" = He.ga K "Row"), fun K => !decide (He.ga K "Kind" = He.ga K "Repeat"), fun K => !decide (He.ga K "Kind" = He.ga K "Draft"), fun K => !decide (He.ga K "Kind" = He.ga K "Program"), fun K => !decide (He.ga K "Plain" = He.ga K "Signed"), fun K => !decide (He.ga K "Plain" = He.ga K "Pointed"), fun K => !decide (He.ga K "Plain" = He.ga K "Row"), fun K => !decide (He.ga K "Plain" = He.ga K "Repeat"), fun K => !decide (He.ga K "Plain" = He.ga K "Draft"), fun K => !decide (He.ga K "Plain" = He.ga K "Program"), fun K => !decide (He.ga K "Signed" = He.ga K "Pointed"), fun K => !decide (He.ga K "Signed" = He.ga K "Row"), fun K => !decide (He.ga K "Signed" = He.ga K "Repeat"), fun K => !decide (He.ga K "Signed" = He.ga K "Draft"), fun K => !decide (He.ga K "Signed" = He.ga K "Program"), fun K => !decide (He.ga K "Pointed" = He.ga K "Row"), fun K => !decide (He.ga K "Pointed" = He.ga K "Repeat"), fun K => !decide (He.ga K "Pointed" = He.ga K "Draft"), fun K => !decide (He.ga K "Pointed" = He.ga K "Program"), fun K => !decide (He.ga K "Row" = He.ga K "Repeat"), fun K => !decide (He.ga K "Row" = He.ga K "Draft"), fun K => !decide (He.ga K "Row" = He.ga K "Program"), fun K => !decide (He.ga K "Repeat" = He.ga K "Draft"), fun K => !decide (He.ga K "Repeat" = He.ga K "Program"), fun K => !decide (He.ga K "Draft" = He.ga K "Program"), fun K => He2.catB "WiseError" "__init__" (He2.vBlt "ValueError.__init__") K, fun K => He2.catB "Kind" "__init__" (He2.vDef "Kind" "__init__") K, fun K => He2.isiB "Kind" K, fun K => He2.kitB "Kind" "Repeat" false K, fun K => He2.isiB "Plain" K, fun K => He2.kitB "Plain" "Repeat" false K, fun K => He2.isiB "Signed" K, fun K => He2.kitB "Signed" "Repeat" false K, fun K => He2.isiB "Pointed" K, fun K => He2.kitB "Pointed" "Repeat" false K, fun K => He2.isiB "Row" K, fun K => He2.kitB "Row" "Repeat" false K, fun K => He2.isiB "Repeat" K, fun K => He2.kitB "Repeat" "Repeat" true K, fun K => He2.isiB "Draft" K, fun K => He2.kitB "Draft" "Repeat" false K, fun K => He2.isiB "Program" K, fun K => He2.kitB "Program" "Repeat" false K]
def exB (K : PySem.W.Frag) : Bool := exL.all fun f => f K
def loose0 : List PySem.Str := ["_wall", "WiseError", "NoWidth", "NoWord", "NoKind", "NoText", "NoProgram", "TooMuch", "Unknown", "WrongKind", "Twice", "LEAST_WIDTH", "GREATEST_WIDTH", "is_whole", "need_width", "are_signs", "LONGEST_SHOWN", "Kind", "Plain", "Signed", "Pointed", "same_kind", "MOST_LINES", "MOST_NAMES", "DEEPEST", "MOST_TURNS", "LONGEST_NAME", "LONGEST_NUMBER", "WAYS", "HEADS"]
def loose1 : List PySem.Str := ["Row", "Repeat", "form_of", "is_name", "number_in", "kind_in", "bits_shown", "taken", "Draft", "read_lines", "MOST_RUN", "PLAIN_DEEDS", "LIKE_DEEDS", "kind_words", "count_rows", "Program", "read_program", "_law_cell", "_law_box", "_law_take", "_law_told", "_law_lines_right", "_law_names_right", "_law_loops_right", "_law_rows_done_right"]
def looseL : List PySem.Str := loose0 ++ loose1
def lawI : Nat := 61
abbrev hk : PySem.W.Hook := He2.hookM faL fnL exB
def ob (s : PySem.W.SharedT) : He2.AlM := He2.obsMG faL fnL exB (HandSHeadRun.getT s)
theorem ob_eq (s : PySem.W.SharedT) : ob s = hk.obs s.abs := He2.obsMG_eq (HandSHeadRun.getT_eq s)
theorem run (w : World) : HandSHeadRun.RunEq R (PySem.W.view R.prog [61]) hk ob 20000 looseL w := by
  intro os
  kernel_rfl
/-! ### the facts by their names -/
structure Tx (K : PySem.W.Frag) (mg : Str → Option Value) : Prop where
  c : He2.SaysM faL fnL exB K
  h : ∃ h : Heap, K.In h ∧ h.Ns mainGlobals mg
section
variable {K : PySem.W.Frag} {mg : Str → Option Value}
theorem Tx.fa (T : Tx K mg) (i : Nat) {f : He.Fa} (e : faL[i]? = some f := by rfl) : f.ok K = true := T.c.1.fact i e
theorem Tx.glo (T : Tx K mg) (i : Nat) {x : Str} (e : faL[i]? = some (.glo x) := by rfl) : mg x = some (.ref (He.ga K x)) := by
  obtain ⟨h, X, G⟩ := T.h
  exact He.glo_ok X G (T.fa i e)
theorem Tx.free (T : Tx K mg) (i : Nat) {x : Str} (e : faL[i]? = some (.free x) := by rfl) : mg x = none := by
  obtain ⟨h, X, G⟩ := T.h
  exact He.free_ok X G (T.fa i e)
theorem Tx.int (T : Tx K mg) (i : Nat) {x : Str} {n : Int} (e : faL[i]? = some (.int x n) := by rfl) : ∃ t, mg x = some (.int n t) := by
  obtain ⟨h, X, G⟩ := T.h
  exact He.int_ok X G (T.fa i e)
theorem Tx.ex (T : Tx K mg) (i : Nat) {f : PySem.W.Frag → Bool} (e : exL[i]? = some f := by rfl) : f K = true := List.all_eq_true.mp (show (exL.all fun f => f K) = true from T.c.2) f (List.mem_of_getElem? e)
theorem Tx.def_ (T : Tx K mg) (i : Nat) {d : He.DefD} (e : fnL[i]? = some d := by rfl) : ∃ fd, FunD K d.name d.qual d.params d.body d.scope (d.dvs K) (d.kws K) (He.fAd K d.at_) fd := T.c.1.def_ i e
theorem g__wall (T : Tx K mg) : mg "_wall" = some (.ref (He.ga K "_wall")) := T.glo 0
theorem g_is_whole (T : Tx K mg) : mg "is_whole" = some (.ref (He.ga K "is_whole")) := T.glo 1
theorem g_need_width (T : Tx K mg) : mg "need_width" = some (.ref (He.ga K "need_width")) := T.glo 2
theorem g_are_signs (T : Tx K mg) : mg "are_signs" = some (.ref (He.ga K "are_signs")) := T.glo 3
theorem g_same_kind (T : Tx K mg) : mg "same_kind" = some (.ref (He.ga K "same_kind")) := T.glo 4
theorem g_form_of (T : Tx K mg) : mg "form_of" = some (.ref (He.ga K "form_of")) := T.glo 5
theorem g_is_name (T : Tx K mg) : mg "is_name" = some (.ref (He.ga K "is_name")) := T.glo 6
theorem g_number_in (T : Tx K mg) : mg "number_in" = some (.ref (He.ga K "number_in")) := T.glo 7
theorem g_kind_in (T : Tx K mg) : mg "kind_in" = some (.ref (He.ga K "kind_in")) := T.glo 8
theorem g_bits_shown (T : Tx K mg) : mg "bits_shown" = some (.ref (He.ga K "bits_shown")) := T.glo 9
theorem g_taken (T : Tx K mg) : mg "taken" = some (.ref (He.ga K "taken")) := T.glo 10
theorem g_read_lines (T : Tx K mg) : mg "read_lines" = some (.ref (He.ga K "read_lines")) := T.glo 11
theorem g_kind_words (T : Tx K mg) : mg "kind_words" = some (.ref (He.ga K "kind_words")) := T.glo 12
theorem g_count_rows (T : Tx K mg) : mg "count_rows" = some (.ref (He.ga K "count_rows")) := T.glo 13
theorem g_read_program (T : Tx K mg) : mg "read_program" = some (.ref (He.ga K "read_program")) := T.glo 14
theorem g__law_cell (T : Tx K mg) : mg "_law_cell" = some (.ref (He.ga K "_law_cell")) := T.glo 15
theorem g__law_box (T : Tx K mg) : mg "_law_box" = some (.ref (He.ga K "_law_box")) := T.glo 16
theorem g__law_take (T : Tx K mg) : mg "_law_take" = some (.ref (He.ga K "_law_take")) := T.glo 17
theorem g__law_told (T : Tx K mg) : mg "_law_told" = some (.ref (He.ga K "_law_told")) := T.glo 18
theorem g__law_lines_right (T : Tx K mg) : mg "_law_lines_right" = some (.ref (He.ga K "_law_lines_right")) := T.glo 19
theorem g__law_names_right (T : Tx K mg) : mg "_law_names_right" = some (.ref (He.ga K "_law_names_right")) := T.glo 20
theorem g__law_loops_right (T : Tx K mg) : mg "_law_loops_right" = some (.ref (He.ga K "_law_loops_right")) := T.glo 21
theorem g__law_rows_done_right (T : Tx K mg) : mg "_law_rows_done_right" = some (.ref (He.ga K "_law_rows_done_right")) := T.glo 22
theorem g_law (T : Tx K mg) : mg "law" = some (.ref (He.ga K "law")) := T.glo 23
theorem g_WiseError (T : Tx K mg) : mg "WiseError" = some (.ref (He.ga K "WiseError")) := T.glo 24
theorem kp_WiseError (T : Tx K mg) : PySem.W.keepIn K (.ref (He.ga K "WiseError")) = true := He.keep_ok (T.fa 25)
theorem g_NoWidth (T : Tx K mg) : mg "NoWidth" = some (.ref (He.ga K "NoWidth")) := T.glo 26
theorem kp_NoWidth (T : Tx K mg) : PySem.W.keepIn K (.ref (He.ga K "NoWidth")) = true := He.keep_ok (T.fa 27)
theorem na_NoWidth_found (T : Tx K mg) : NoAttr K (He.ga K "NoWidth") "found" := He.noat_ok (T.fa 28)
theorem g_NoWord (T : Tx K mg) : mg "NoWord" = some (.ref (He.ga K "NoWord")) := T.glo 29
theorem kp_NoWord (T : Tx K mg) : PySem.W.keepIn K (.ref (He.ga K "NoWord")) = true := He.keep_ok (T.fa 30)
theorem na_NoWord_found (T : Tx K mg) : NoAttr K (He.ga K "NoWord") "found" := He.noat_ok (T.fa 31)
theorem g_NoKind (T : Tx K mg) : mg "NoKind" = some (.ref (He.ga K "NoKind")) := T.glo 32
theorem kp_NoKind (T : Tx K mg) : PySem.W.keepIn K (.ref (He.ga K "NoKind")) = true := He.keep_ok (T.fa 33)
theorem na_NoKind_found (T : Tx K mg) : NoAttr K (He.ga K "NoKind") "found" := He.noat_ok (T.fa 34)
theorem g_NoText (T : Tx K mg) : mg "NoText" = some (.ref (He.ga K "NoText")) := T.glo 35
theorem kp_NoText (T : Tx K mg) : PySem.W.keepIn K (.ref (He.ga K "NoText")) = true := He.keep_ok (T.fa 36)
theorem na_NoText_found (T : Tx K mg) : NoAttr K (He.ga K "NoText") "found" := He.noat_ok (T.fa 37)
theorem g_NoProgram (T : Tx K mg) : mg "NoProgram" = some (.ref (He.ga K "NoProgram")) := T.glo 38
theorem kp_NoProgram (T : Tx K mg) : PySem.W.keepIn K (.ref (He.ga K "NoProgram")) = true := He.keep_ok (T.fa 39)
theorem na_NoProgram_line (T : Tx K mg) : NoAttr K (He.ga K "NoProgram") "line" := He.noat_ok (T.fa 40)
theorem g_TooMuch (T : Tx K mg) : mg "TooMuch" = some (.ref (He.ga K "TooMuch")) := T.glo 41
theorem kp_TooMuch (T : Tx K mg) : PySem.W.keepIn K (.ref (He.ga K "TooMuch")) = true := He.keep_ok (T.fa 42)
theorem na_TooMuch_line (T : Tx K mg) : NoAttr K (He.ga K "TooMuch") "line" := He.noat_ok (T.fa 43)
theorem g_Unknown (T : Tx K mg) : mg "Unknown" = some (.ref (He.ga K "Unknown")) := T.glo 44
theorem kp_Unknown (T : Tx K mg) : PySem.W.keepIn K (.ref (He.ga K "Unknown")) = true := He.keep_ok (T.fa 45)
theorem na_Unknown_line (T : Tx K mg) : NoAttr K (He.ga K "Unknown") "line" := He.noat_ok (T.fa 46)
theorem na_Unknown_name (T : Tx K mg) : NoAttr K (He.ga K "Unknown") "name" := He.noat_ok (T.fa 47)
theorem g_WrongKind (T : Tx K mg) : mg "WrongKind" = some (.ref (He.ga K "WrongKind")) := T.glo 48
theorem kp_WrongKind (T : Tx K mg) : PySem.W.keepIn K (.ref (He.ga K "WrongKind")) = true := He.keep_ok (T.fa 49)
theorem na_WrongKind_line (T : Tx K mg) : NoAttr K (He.ga K "WrongKind") "line" := He.noat_ok (T.fa 50)
theorem na_WrongKind_name (T : Tx K mg) : NoAttr K (He.ga K "WrongKind") "name" := He.noat_ok (T.fa 51)
theorem g_Twice (T : Tx K mg) : mg "Twice" = some (.ref (He.ga K "Twice")) := T.glo 52
theorem kp_Twice (T : Tx K mg) : PySem.W.keepIn K (.ref (He.ga K "Twice")) = true := He.keep_ok (T.fa 53)
theorem na_Twice_line (T : Tx K mg) : NoAttr K (He.ga K "Twice") "line" := He.noat_ok (T.fa 54)
theorem na_Twice_name (T : Tx K mg) : NoAttr K (He.ga K "Twice") "name" := He.noat_ok (T.fa 55)
theorem g_Kind (T : Tx K mg) : mg "Kind" = some (.ref (He.ga K "Kind")) := T.glo 56
theorem kp_Kind (T : Tx K mg) : PySem.W.keepIn K (.ref (He.ga K "Kind")) = true := He.keep_ok (T.fa 57)
theorem c_Kind (T : Tx K mg) : Cls K (He.ga K "Kind") := He.cls_ok (T.fa 58)
theorem mk_Kind (T : Tx K mg) : Mk K (He.ga K "Kind") (He.ma K (He.ga K "Kind") "__init__") := He.mkr_ok (T.fa 59)
theorem na_Kind_width (T : Tx K mg) : NoAttr K (He.ga K "Kind") "width" := He.noat_ok (T.fa 60)
theorem na_Kind_point (T : Tx K mg) : NoAttr K (He.ga K "Kind") "point" := He.noat_ok (T.fa 61)
theorem m_Kind_word (T : Tx K mg) : Meth K (He.ga K "Kind") "word" (He.ma K (He.ga K "Kind") "word") := He.meth_ok (T.fa 62)
theorem m_Kind_least (T : Tx K mg) : Meth K (He.ga K "Kind") "least" (He.ma K (He.ga K "Kind") "least") := He.meth_ok (T.fa 63)
theorem m_Kind_greatest (T : Tx K mg) : Meth K (He.ga K "Kind") "greatest" (He.ma K (He.ga K "Kind") "greatest") := He.meth_ok (T.fa 64)
theorem m_Kind_is_count (T : Tx K mg) : Meth K (He.ga K "Kind") "is_count" (He.ma K (He.ga K "Kind") "is_count") := He.meth_ok (T.fa 65)
theorem m_Kind_count_of (T : Tx K mg) : Meth K (He.ga K "Kind") "count_of" (He.ma K (He.ga K "Kind") "count_of") := He.meth_ok (T.fa 66)
theorem m_Kind_bits_of (T : Tx K mg) : Meth K (He.ga K "Kind") "bits_of" (He.ma K (He.ga K "Kind") "bits_of") := He.meth_ok (T.fa 67)
theorem m_Kind_value_of (T : Tx K mg) : Meth K (He.ga K "Kind") "value_of" (He.ma K (He.ga K "Kind") "value_of") := He.meth_ok (T.fa 68)
theorem m_Kind_go_round (T : Tx K mg) : Meth K (He.ga K "Kind") "go_round" (He.ma K (He.ga K "Kind") "go_round") := He.meth_ok (T.fa 69)
theorem m_Kind_stop_at (T : Tx K mg) : Meth K (He.ga K "Kind") "stop_at" (He.ma K (He.ga K "Kind") "stop_at") := He.meth_ok (T.fa 70)
theorem m_Kind_shown (T : Tx K mg) : Meth K (He.ga K "Kind") "shown" (He.ma K (He.ga K "Kind") "shown") := He.meth_ok (T.fa 71)
theorem m_Kind_read (T : Tx K mg) : Meth K (He.ga K "Kind") "read" (He.ma K (He.ga K "Kind") "read") := He.meth_ok (T.fa 72)
theorem g_Plain (T : Tx K mg) : mg "Plain" = some (.ref (He.ga K "Plain")) := T.glo 73
theorem kp_Plain (T : Tx K mg) : PySem.W.keepIn K (.ref (He.ga K "Plain")) = true := He.keep_ok (T.fa 74)
theorem c_Plain (T : Tx K mg) : Cls K (He.ga K "Plain") := He.cls_ok (T.fa 75)
theorem mk_Plain (T : Tx K mg) : Mk K (He.ga K "Plain") (He.ma K (He.ga K "Plain") "__init__") := He.mkr_ok (T.fa 76)
theorem na_Plain_width (T : Tx K mg) : NoAttr K (He.ga K "Plain") "width" := He.noat_ok (T.fa 77)
theorem na_Plain_point (T : Tx K mg) : NoAttr K (He.ga K "Plain") "point" := He.noat_ok (T.fa 78)
theorem m_Plain_word (T : Tx K mg) : Meth K (He.ga K "Plain") "word" (He.ma K (He.ga K "Plain") "word") := He.meth_ok (T.fa 79)
theorem m_Plain_least (T : Tx K mg) : Meth K (He.ga K "Plain") "least" (He.ma K (He.ga K "Plain") "least") := He.meth_ok (T.fa 80)
theorem m_Plain_greatest (T : Tx K mg) : Meth K (He.ga K "Plain") "greatest" (He.ma K (He.ga K "Plain") "greatest") := He.meth_ok (T.fa 81)
theorem m_Plain_is_count (T : Tx K mg) : Meth K (He.ga K "Plain") "is_count" (He.ma K (He.ga K "Plain") "is_count") := He.meth_ok (T.fa 82)
theorem m_Plain_count_of (T : Tx K mg) : Meth K (He.ga K "Plain") "count_of" (He.ma K (He.ga K "Plain") "count_of") := He.meth_ok (T.fa 83)
theorem m_Plain_bits_of (T : Tx K mg) : Meth K (He.ga K "Plain") "bits_of" (He.ma K (He.ga K "Plain") "bits_of") := He.meth_ok (T.fa 84)
theorem m_Plain_value_of (T : Tx K mg) : Meth K (He.ga K "Plain") "value_of" (He.ma K (He.ga K "Plain") "value_of") := He.meth_ok (T.fa 85)
theorem m_Plain_go_round (T : Tx K mg) : Meth K (He.ga K "Plain") "go_round" (He.ma K (He.ga K "Plain") "go_round") := He.meth_ok (T.fa 86)
theorem m_Plain_stop_at (T : Tx K mg) : Meth K (He.ga K "Plain") "stop_at" (He.ma K (He.ga K "Plain") "stop_at") := He.meth_ok (T.fa 87)
theorem m_Plain_shown (T : Tx K mg) : Meth K (He.ga K "Plain") "shown" (He.ma K (He.ga K "Plain") "shown") := He.meth_ok (T.fa 88)
theorem m_Plain_read (T : Tx K mg) : Meth K (He.ga K "Plain") "read" (He.ma K (He.ga K "Plain") "read") := He.meth_ok (T.fa 89)
theorem g_Signed (T : Tx K mg) : mg "Signed" = some (.ref (He.ga K "Signed")) := T.glo 90
theorem kp_Signed (T : Tx K mg) : PySem.W.keepIn K (.ref (He.ga K "Signed")) = true := He.keep_ok (T.fa 91)
theorem c_Signed (T : Tx K mg) : Cls K (He.ga K "Signed") := He.cls_ok (T.fa 92)
theorem mk_Signed (T : Tx K mg) : Mk K (He.ga K "Signed") (He.ma K (He.ga K "Signed") "__init__") := He.mkr_ok (T.fa 93)
theorem na_Signed_width (T : Tx K mg) : NoAttr K (He.ga K "Signed") "width" := He.noat_ok (T.fa 94)
theorem na_Signed_point (T : Tx K mg) : NoAttr K (He.ga K "Signed") "point" := He.noat_ok (T.fa 95)
theorem m_Signed_word (T : Tx K mg) : Meth K (He.ga K "Signed") "word" (He.ma K (He.ga K "Signed") "word") := He.meth_ok (T.fa 96)
theorem m_Signed_least (T : Tx K mg) : Meth K (He.ga K "Signed") "least" (He.ma K (He.ga K "Signed") "least") := He.meth_ok (T.fa 97)
theorem m_Signed_greatest (T : Tx K mg) : Meth K (He.ga K "Signed") "greatest" (He.ma K (He.ga K "Signed") "greatest") := He.meth_ok (T.fa 98)
theorem m_Signed_is_count (T : Tx K mg) : Meth K (He.ga K "Signed") "is_count" (He.ma K (He.ga K "Signed") "is_count") := He.meth_ok (T.fa 99)
theorem m_Signed_count_of (T : Tx K mg) : Meth K (He.ga K "Signed") "count_of" (He.ma K (He.ga K "Signed") "count_of") := He.meth_ok (T.fa 100)
theorem m_Signed_bits_of (T : Tx K mg) : Meth K (He.ga K "Signed") "bits_of" (He.ma K (He.ga K "Signed") "bits_of") := He.meth_ok (T.fa 101)
theorem m_Signed_value_of (T : Tx K mg) : Meth K (He.ga K "Signed") "value_of" (He.ma K (He.ga K "Signed") "value_of") := He.meth_ok (T.fa 102)
theorem m_Signed_go_round (T : Tx K mg) : Meth K (He.ga K "Signed") "go_round" (He.ma K (He.ga K "Signed") "go_round") := He.meth_ok (T.fa 103)
theorem m_Signed_stop_at (T : Tx K mg) : Meth K (He.ga K "Signed") "stop_at" (He.ma K (He.ga K "Signed") "stop_at") := He.meth_ok (T.fa 104)
theorem m_Signed_shown (T : Tx K mg) : Meth K (He.ga K "Signed") "shown" (He.ma K (He.ga K "Signed") "shown") := He.meth_ok (T.fa 105)
theorem m_Signed_read (T : Tx K mg) : Meth K (He.ga K "Signed") "read" (He.ma K (He.ga K "Signed") "read") := He.meth_ok (T.fa 106)
theorem g_Pointed (T : Tx K mg) : mg "Pointed" = some (.ref (He.ga K "Pointed")) := T.glo 107
theorem kp_Pointed (T : Tx K mg) : PySem.W.keepIn K (.ref (He.ga K "Pointed")) = true := He.keep_ok (T.fa 108)
theorem c_Pointed (T : Tx K mg) : Cls K (He.ga K "Pointed") := He.cls_ok (T.fa 109)
theorem mk_Pointed (T : Tx K mg) : Mk K (He.ga K "Pointed") (He.ma K (He.ga K "Pointed") "__init__") := He.mkr_ok (T.fa 110)
theorem na_Pointed_width (T : Tx K mg) : NoAttr K (He.ga K "Pointed") "width" := He.noat_ok (T.fa 111)
theorem na_Pointed_point (T : Tx K mg) : NoAttr K (He.ga K "Pointed") "point" := He.noat_ok (T.fa 112)
theorem m_Pointed_word (T : Tx K mg) : Meth K (He.ga K "Pointed") "word" (He.ma K (He.ga K "Pointed") "word") := He.meth_ok (T.fa 113)
theorem m_Pointed_least (T : Tx K mg) : Meth K (He.ga K "Pointed") "least" (He.ma K (He.ga K "Pointed") "least") := He.meth_ok (T.fa 114)
theorem m_Pointed_greatest (T : Tx K mg) : Meth K (He.ga K "Pointed") "greatest" (He.ma K (He.ga K "Pointed") "greatest") := He.meth_ok (T.fa 115)
theorem m_Pointed_is_count (T : Tx K mg) : Meth K (He.ga K "Pointed") "is_count" (He.ma K (He.ga K "Pointed") "is_count") := He.meth_ok (T.fa 116)
theorem m_Pointed_count_of (T : Tx K mg) : Meth K (He.ga K "Pointed") "count_of" (He.ma K (He.ga K "Pointed") "count_of") := He.meth_ok (T.fa 117)
theorem m_Pointed_bits_of (T : Tx K mg) : Meth K (He.ga K "Pointed") "bits_of" (He.ma K (He.ga K "Pointed") "bits_of") := He.meth_ok (T.fa 118)
theorem m_Pointed_value_of (T : Tx K mg) : Meth K (He.ga K "Pointed") "value_of" (He.ma K (He.ga K "Pointed") "value_of") := He.meth_ok (T.fa 119)
theorem m_Pointed_go_round (T : Tx K mg) : Meth K (He.ga K "Pointed") "go_round" (He.ma K (He.ga K "Pointed") "go_round") := He.meth_ok (T.fa 120)
theorem m_Pointed_stop_at (T : Tx K mg) : Meth K (He.ga K "Pointed") "stop_at" (He.ma K (He.ga K "Pointed") "stop_at") := He.meth_ok (T.fa 121)
theorem m_Pointed_shown (T : Tx K mg) : Meth K (He.ga K "Pointed") "shown" (He.ma K (He.ga K "Pointed") "shown") := He.meth_ok (T.fa 122)
theorem m_Pointed_read (T : Tx K mg) : Meth K (He.ga K "Pointed") "read" (He.ma K (He.ga K "Pointed") "read") := He.meth_ok (T.fa 123)
theorem g_Row (T : Tx K mg) : mg "Row" = some (.ref (He.ga K "Row")) := T.glo 124
theorem kp_Row (T : Tx K mg) : PySem.W.keepIn K (.ref (He.ga K "Row")) = true := He.keep_ok (T.fa 125)
theorem c_Row (T : Tx K mg) : Cls K (He.ga K "Row") := He.cls_ok (T.fa 126)
theorem mk_Row (T : Tx K mg) : Mk K (He.ga K "Row") (He.ma K (He.ga K "Row") "__init__") := He.mkr_ok (T.fa 127)
theorem na_Row_line (T : Tx K mg) : NoAttr K (He.ga K "Row") "line" := He.noat_ok (T.fa 128)
theorem na_Row_deed (T : Tx K mg) : NoAttr K (He.ga K "Row") "deed" := He.noat_ok (T.fa 129)
theorem na_Row_goals (T : Tx K mg) : NoAttr K (He.ga K "Row") "goals" := He.noat_ok (T.fa 130)
theorem na_Row_reads (T : Tx K mg) : NoAttr K (He.ga K "Row") "reads" := He.noat_ok (T.fa 131)
theorem na_Row_numbers (T : Tx K mg) : NoAttr K (He.ga K "Row") "numbers" := He.noat_ok (T.fa 132)
theorem na_Row_way (T : Tx K mg) : NoAttr K (He.ga K "Row") "way" := He.noat_ok (T.fa 133)
theorem g_Repeat (T : Tx K mg) : mg "Repeat" = some (.ref (He.ga K "Repeat")) := T.glo 134
theorem kp_Repeat (T : Tx K mg) : PySem.W.keepIn K (.ref (He.ga K "Repeat")) = true := He.keep_ok (T.fa 135)
theorem c_Repeat (T : Tx K mg) : Cls K (He.ga K "Repeat") := He.cls_ok (T.fa 136)
theorem mk_Repeat (T : Tx K mg) : Mk K (He.ga K "Repeat") (He.ma K (He.ga K "Repeat") "__init__") := He.mkr_ok (T.fa 137)
theorem na_Repeat_line (T : Tx K mg) : NoAttr K (He.ga K "Repeat") "line" := He.noat_ok (T.fa 138)
theorem na_Repeat_times (T : Tx K mg) : NoAttr K (He.ga K "Repeat") "times" := He.noat_ok (T.fa 139)
theorem na_Repeat_rows (T : Tx K mg) : NoAttr K (He.ga K "Repeat") "rows" := He.noat_ok (T.fa 140)
theorem g_Draft (T : Tx K mg) : mg "Draft" = some (.ref (He.ga K "Draft")) := T.glo 141
theorem kp_Draft (T : Tx K mg) : PySem.W.keepIn K (.ref (He.ga K "Draft")) = true := He.keep_ok (T.fa 142)
theorem c_Draft (T : Tx K mg) : Cls K (He.ga K "Draft") := He.cls_ok (T.fa 143)
theorem mk_Draft (T : Tx K mg) : Mk K (He.ga K "Draft") (He.ma K (He.ga K "Draft") "__init__") := He.mkr_ok (T.fa 144)
theorem na_Draft_width (T : Tx K mg) : NoAttr K (He.ga K "Draft") "width" := He.noat_ok (T.fa 145)
theorem na_Draft_inputs (T : Tx K mg) : NoAttr K (He.ga K "Draft") "inputs" := He.noat_ok (T.fa 146)
theorem na_Draft_rows (T : Tx K mg) : NoAttr K (He.ga K "Draft") "rows" := He.noat_ok (T.fa 147)
theorem na_Draft_outs (T : Tx K mg) : NoAttr K (He.ga K "Draft") "outs" := He.noat_ok (T.fa 148)
theorem na_Draft_loops (T : Tx K mg) : NoAttr K (He.ga K "Draft") "loops" := He.noat_ok (T.fa 149)
theorem na_Draft_known (T : Tx K mg) : NoAttr K (He.ga K "Draft") "known" := He.noat_ok (T.fa 150)
theorem na_Draft_chosen (T : Tx K mg) : NoAttr K (He.ga K "Draft") "chosen" := He.noat_ok (T.fa 151)
theorem m_Draft_block (T : Tx K mg) : Meth K (He.ga K "Draft") "block" (He.ma K (He.ga K "Draft") "block") := He.meth_ok (T.fa 152)
theorem m_Draft_take (T : Tx K mg) : Meth K (He.ga K "Draft") "take" (He.ma K (He.ga K "Draft") "take") := He.meth_ok (T.fa 153)
theorem m_Draft_take_width (T : Tx K mg) : Meth K (He.ga K "Draft") "take_width" (He.ma K (He.ga K "Draft") "take_width") := He.meth_ok (T.fa 154)
theorem m_Draft_take_in (T : Tx K mg) : Meth K (He.ga K "Draft") "take_in" (He.ma K (He.ga K "Draft") "take_in") := He.meth_ok (T.fa 155)
theorem m_Draft_take_out (T : Tx K mg) : Meth K (He.ga K "Draft") "take_out" (He.ma K (He.ga K "Draft") "take_out") := He.meth_ok (T.fa 156)
theorem m_Draft_take_repeat (T : Tx K mg) : Meth K (He.ga K "Draft") "take_repeat" (He.ma K (He.ga K "Draft") "take_repeat") := He.meth_ok (T.fa 157)
theorem m_Draft_take_end (T : Tx K mg) : Meth K (He.ga K "Draft") "take_end" (He.ma K (He.ga K "Draft") "take_end") := He.meth_ok (T.fa 158)
theorem m_Draft_take_row (T : Tx K mg) : Meth K (He.ga K "Draft") "take_row" (He.ma K (He.ga K "Draft") "take_row") := He.meth_ok (T.fa 159)
theorem m_Draft_is_great (T : Tx K mg) : Meth K (He.ga K "Draft") "is_great" (He.ma K (He.ga K "Draft") "is_great") := He.meth_ok (T.fa 160)
theorem g_Program (T : Tx K mg) : mg "Program" = some (.ref (He.ga K "Program")) := T.glo 161
theorem kp_Program (T : Tx K mg) : PySem.W.keepIn K (.ref (He.ga K "Program")) = true := He.keep_ok (T.fa 162)
theorem c_Program (T : Tx K mg) : Cls K (He.ga K "Program") := He.cls_ok (T.fa 163)
theorem mk_Program (T : Tx K mg) : Mk K (He.ga K "Program") (He.ma K (He.ga K "Program") "__init__") := He.mkr_ok (T.fa 164)
theorem na_Program_width (T : Tx K mg) : NoAttr K (He.ga K "Program") "width" := He.noat_ok (T.fa 165)
theorem na_Program_inputs (T : Tx K mg) : NoAttr K (He.ga K "Program") "inputs" := He.noat_ok (T.fa 166)
theorem na_Program_rows (T : Tx K mg) : NoAttr K (He.ga K "Program") "rows" := He.noat_ok (T.fa 167)
theorem na_Program_outs (T : Tx K mg) : NoAttr K (He.ga K "Program") "outs" := He.noat_ok (T.fa 168)
theorem na_Program_kinds (T : Tx K mg) : NoAttr K (He.ga K "Program") "kinds" := He.noat_ok (T.fa 169)
theorem m_Program_kind_of (T : Tx K mg) : Meth K (He.ga K "Program") "kind_of" (He.ma K (He.ga K "Program") "kind_of") := He.meth_ok (T.fa 170)
theorem m_Program_names (T : Tx K mg) : Meth K (He.ga K "Program") "names" (He.ma K (He.ga K "Program") "names") := He.meth_ok (T.fa 171)
theorem m_Program_rows_run (T : Tx K mg) : Meth K (He.ga K "Program") "rows_run" (He.ma K (He.ga K "Program") "rows_run") := He.meth_ok (T.fa 172)
theorem m_Program_text (T : Tx K mg) : Meth K (He.ga K "Program") "text" (He.ma K (He.ga K "Program") "text") := He.meth_ok (T.fa 173)
theorem m_Program_write (T : Tx K mg) : Meth K (He.ga K "Program") "write" (He.ma K (He.ga K "Program") "write") := He.meth_ok (T.fa 174)
theorem m_Program_words_behind (T : Tx K mg) : Meth K (He.ga K "Program") "words_behind" (He.ma K (He.ga K "Program") "words_behind") := He.meth_ok (T.fa 175)
theorem m_Program_look (T : Tx K mg) : Meth K (He.ga K "Program") "look" (He.ma K (He.ga K "Program") "look") := He.meth_ok (T.fa 176)
theorem m_Program_made_kind (T : Tx K mg) : Meth K (He.ga K "Program") "made_kind" (He.ma K (He.ga K "Program") "made_kind") := He.meth_ok (T.fa 177)
theorem fr_len (T : Tx K mg) : mg "len" = none := T.free 178
theorem fr_isinstance (T : Tx K mg) : mg "isinstance" = none := T.free 179
theorem fr_int (T : Tx K mg) : mg "int" = none := T.free 180
theorem fr_bool (T : Tx K mg) : mg "bool" = none := T.free 181
theorem fr_str (T : Tx K mg) : mg "str" = none := T.free 182
theorem fr_list (T : Tx K mg) : mg "list" = none := T.free 183
theorem fr_abs (T : Tx K mg) : mg "abs" = none := T.free 184
theorem fr_divmod (T : Tx K mg) : mg "divmod" = none := T.free 185
theorem fr_range (T : Tx K mg) : mg "range" = none := T.free 186
theorem fr_enumerate (T : Tx K mg) : mg "enumerate" = none := T.free 187
theorem fr_zip (T : Tx K mg) : mg "zip" = none := T.free 188
theorem fr_max (T : Tx K mg) : mg "max" = none := T.free 189
theorem fr_min (T : Tx K mg) : mg "min" = none := T.free 190
theorem fr_all (T : Tx K mg) : mg "all" = none := T.free 191
theorem fr_ValueError (T : Tx K mg) : mg "ValueError" = none := T.free 192
theorem i_LEAST_WIDTH (T : Tx K mg) : ∃ t, mg "LEAST_WIDTH" = some (.int 4 t) := T.int 193
theorem i_GREATEST_WIDTH (T : Tx K mg) : ∃ t, mg "GREATEST_WIDTH" = some (.int 32 t) := T.int 194
theorem i_LONGEST_SHOWN (T : Tx K mg) : ∃ t, mg "LONGEST_SHOWN" = some (.int 60 t) := T.int 195
theorem i_MOST_LINES (T : Tx K mg) : ∃ t, mg "MOST_LINES" = some (.int 60 t) := T.int 196
theorem i_MOST_NAMES (T : Tx K mg) : ∃ t, mg "MOST_NAMES" = some (.int 30 t) := T.int 197
theorem i_DEEPEST (T : Tx K mg) : ∃ t, mg "DEEPEST" = some (.int 3 t) := T.int 198
theorem i_MOST_TURNS (T : Tx K mg) : ∃ t, mg "MOST_TURNS" = some (.int 32 t) := T.int 199
theorem i_LONGEST_NAME (T : Tx K mg) : ∃ t, mg "LONGEST_NAME" = some (.int 6 t) := T.int 200
theorem i_LONGEST_NUMBER (T : Tx K mg) : ∃ t, mg "LONGEST_NUMBER" = some (.int 10 t) := T.int 201
theorem g_WAYS (T : Tx K mg) : mg "WAYS" = some (.ref (He.ga K "WAYS")) := T.glo 202
theorem g_HEADS (T : Tx K mg) : mg "HEADS" = some (.ref (He.ga K "HEADS")) := T.glo 203
theorem i_MOST_RUN (T : Tx K mg) : ∃ t, mg "MOST_RUN" = some (.int 600 t) := T.int 204
theorem g_PLAIN_DEEDS (T : Tx K mg) : mg "PLAIN_DEEDS" = some (.ref (He.ga K "PLAIN_DEEDS")) := T.glo 205
theorem g_LIKE_DEEDS (T : Tx K mg) : mg "LIKE_DEEDS" = some (.ref (He.ga K "LIKE_DEEDS")) := T.glo 206
theorem xm_NoWidth_NoText (T : Tx K mg) : PySem.W.exmOne K (.ref (He.ga K "NoWidth")) (.ref (He.ga K "NoText")) = some false := He.exm_ok (T.fa 207)
theorem xm_NoWord_NoText (T : Tx K mg) : PySem.W.exmOne K (.ref (He.ga K "NoWord")) (.ref (He.ga K "NoText")) = some false := He.exm_ok (T.fa 208)
theorem xm_NoKind_NoText (T : Tx K mg) : PySem.W.exmOne K (.ref (He.ga K "NoKind")) (.ref (He.ga K "NoText")) = some false := He.exm_ok (T.fa 209)
theorem xm_NoText_NoText (T : Tx K mg) : PySem.W.exmOne K (.ref (He.ga K "NoText")) (.ref (He.ga K "NoText")) = some true := He.exm_ok (T.fa 210)
theorem xm_NoProgram_NoText (T : Tx K mg) : PySem.W.exmOne K (.ref (He.ga K "NoProgram")) (.ref (He.ga K "NoText")) = some false := He.exm_ok (T.fa 211)
theorem xm_TooMuch_NoText (T : Tx K mg) : PySem.W.exmOne K (.ref (He.ga K "TooMuch")) (.ref (He.ga K "NoText")) = some false := He.exm_ok (T.fa 212)
theorem xm_Unknown_NoText (T : Tx K mg) : PySem.W.exmOne K (.ref (He.ga K "Unknown")) (.ref (He.ga K "NoText")) = some false := He.exm_ok (T.fa 213)
theorem xm_WrongKind_NoText (T : Tx K mg) : PySem.W.exmOne K (.ref (He.ga K "WrongKind")) (.ref (He.ga K "NoText")) = some false := He.exm_ok (T.fa 214)
theorem xm_Twice_NoText (T : Tx K mg) : PySem.W.exmOne K (.ref (He.ga K "Twice")) (.ref (He.ga K "NoText")) = some false := He.exm_ok (T.fa 215)
theorem xm_NoWidth_NoProgram (T : Tx K mg) : PySem.W.exmOne K (.ref (He.ga K "NoWidth")) (.ref (He.ga K "NoProgram")) = some false := He.exm_ok (T.fa 216)
theorem xm_NoWord_NoProgram (T : Tx K mg) : PySem.W.exmOne K (.ref (He.ga K "NoWord")) (.ref (He.ga K "NoProgram")) = some false := He.exm_ok (T.fa 217)
theorem xm_NoKind_NoProgram (T : Tx K mg) : PySem.W.exmOne K (.ref (He.ga K "NoKind")) (.ref (He.ga K "NoProgram")) = some false := He.exm_ok (T.fa 218)
theorem xm_NoText_NoProgram (T : Tx K mg) : PySem.W.exmOne K (.ref (He.ga K "NoText")) (.ref (He.ga K "NoProgram")) = some false := He.exm_ok (T.fa 219)
theorem xm_NoProgram_NoProgram (T : Tx K mg) : PySem.W.exmOne K (.ref (He.ga K "NoProgram")) (.ref (He.ga K "NoProgram")) = some true := He.exm_ok (T.fa 220)
theorem xm_TooMuch_NoProgram (T : Tx K mg) : PySem.W.exmOne K (.ref (He.ga K "TooMuch")) (.ref (He.ga K "NoProgram")) = some false := He.exm_ok (T.fa 221)
theorem xm_Unknown_NoProgram (T : Tx K mg) : PySem.W.exmOne K (.ref (He.ga K "Unknown")) (.ref (He.ga K "NoProgram")) = some false := He.exm_ok (T.fa 222)
theorem xm_WrongKind_NoProgram (T : Tx K mg) : PySem.W.exmOne K (.ref (He.ga K "WrongKind")) (.ref (He.ga K "NoProgram")) = some false := He.exm_ok (T.fa 223)
theorem xm_Twice_NoProgram (T : Tx K mg) : PySem.W.exmOne K (.ref (He.ga K "Twice")) (.ref (He.ga K "NoProgram")) = some false := He.exm_ok (T.fa 224)
theorem xm_NoWidth_TooMuch (T : Tx K mg) : PySem.W.exmOne K (.ref (He.ga K "NoWidth")) (.ref (He.ga K "TooMuch")) = some false := He.exm_ok (T.fa 225)
theorem xm_NoWord_TooMuch (T : Tx K mg) : PySem.W.exmOne K (.ref (He.ga K "NoWord")) (.ref (He.ga K "TooMuch")) = some false := He.exm_ok (T.fa 226)
theorem xm_NoKind_TooMuch (T : Tx K mg) : PySem.W.exmOne K (.ref (He.ga K "NoKind")) (.ref (He.ga K "TooMuch")) = some false := He.exm_ok (T.fa 227)
theorem xm_NoText_TooMuch (T : Tx K mg) : PySem.W.exmOne K (.ref (He.ga K "NoText")) (.ref (He.ga K "TooMuch")) = some false := He.exm_ok (T.fa 228)
theorem xm_NoProgram_TooMuch (T : Tx K mg) : PySem.W.exmOne K (.ref (He.ga K "NoProgram")) (.ref (He.ga K "TooMuch")) = some false := He.exm_ok (T.fa 229)
theorem xm_TooMuch_TooMuch (T : Tx K mg) : PySem.W.exmOne K (.ref (He.ga K "TooMuch")) (.ref (He.ga K "TooMuch")) = some true := He.exm_ok (T.fa 230)
theorem xm_Unknown_TooMuch (T : Tx K mg) : PySem.W.exmOne K (.ref (He.ga K "Unknown")) (.ref (He.ga K "TooMuch")) = some false := He.exm_ok (T.fa 231)
theorem xm_WrongKind_TooMuch (T : Tx K mg) : PySem.W.exmOne K (.ref (He.ga K "WrongKind")) (.ref (He.ga K "TooMuch")) = some false := He.exm_ok (T.fa 232)
theorem xm_Twice_TooMuch (T : Tx K mg) : PySem.W.exmOne K (.ref (He.ga K "Twice")) (.ref (He.ga K "TooMuch")) = some false := He.exm_ok (T.fa 233)
theorem xm_NoWidth_Unknown (T : Tx K mg) : PySem.W.exmOne K (.ref (He.ga K "NoWidth")) (.ref (He.ga K "Unknown")) = some false := He.exm_ok (T.fa 234)
theorem xm_NoWord_Unknown (T : Tx K mg) : PySem.W.exmOne K (.ref (He.ga K "NoWord")) (.ref (He.ga K "Unknown")) = some false := He.exm_ok (T.fa 235)
theorem xm_NoKind_Unknown (T : Tx K mg) : PySem.W.exmOne K (.ref (He.ga K "NoKind")) (.ref (He.ga K "Unknown")) = some false := He.exm_ok (T.fa 236)
theorem xm_NoText_Unknown (T : Tx K mg) : PySem.W.exmOne K (.ref (He.ga K "NoText")) (.ref (He.ga K "Unknown")) = some false := He.exm_ok (T.fa 237)
theorem xm_NoProgram_Unknown (T : Tx K mg) : PySem.W.exmOne K (.ref (He.ga K "NoProgram")) (.ref (He.ga K "Unknown")) = some false := He.exm_ok (T.fa 238)
theorem xm_TooMuch_Unknown (T : Tx K mg) : PySem.W.exmOne K (.ref (He.ga K "TooMuch")) (.ref (He.ga K "Unknown")) = some false := He.exm_ok (T.fa 239)
theorem xm_Unknown_Unknown (T : Tx K mg) : PySem.W.exmOne K (.ref (He.ga K "Unknown")) (.ref (He.ga K "Unknown")) = some true := He.exm_ok (T.fa 240)
theorem xm_WrongKind_Unknown (T : Tx K mg) : PySem.W.exmOne K (.ref (He.ga K "WrongKind")) (.ref (He.ga K "Unknown")) = some false := He.exm_ok (T.fa 241)
theorem xm_Twice_Unknown (T : Tx K mg) : PySem.W.exmOne K (.ref (He.ga K "Twice")) (.ref (He.ga K "Unknown")) = some false := He.exm_ok (T.fa 242)
theorem xm_NoWidth_WiseError (T : Tx K mg) : PySem.W.exmOne K (.ref (He.ga K "NoWidth")) (.ref (He.ga K "WiseError")) = some true := He.exm_ok (T.fa 243)
theorem xm_NoWord_WiseError (T : Tx K mg) : PySem.W.exmOne K (.ref (He.ga K "NoWord")) (.ref (He.ga K "WiseError")) = some true := He.exm_ok (T.fa 244)
theorem xm_NoKind_WiseError (T : Tx K mg) : PySem.W.exmOne K (.ref (He.ga K "NoKind")) (.ref (He.ga K "WiseError")) = some true := He.exm_ok (T.fa 245)
theorem xm_NoText_WiseError (T : Tx K mg) : PySem.W.exmOne K (.ref (He.ga K "NoText")) (.ref (He.ga K "WiseError")) = some true := He.exm_ok (T.fa 246)
theorem xm_NoProgram_WiseError (T : Tx K mg) : PySem.W.exmOne K (.ref (He.ga K "NoProgram")) (.ref (He.ga K "WiseError")) = some true := He.exm_ok (T.fa 247)
theorem xm_TooMuch_WiseError (T : Tx K mg) : PySem.W.exmOne K (.ref (He.ga K "TooMuch")) (.ref (He.ga K "WiseError")) = some true := He.exm_ok (T.fa 248)
theorem xm_Unknown_WiseError (T : Tx K mg) : PySem.W.exmOne K (.ref (He.ga K "Unknown")) (.ref (He.ga K "WiseError")) = some true := He.exm_ok (T.fa 249)
theorem xm_WrongKind_WiseError (T : Tx K mg) : PySem.W.exmOne K (.ref (He.ga K "WrongKind")) (.ref (He.ga K "WiseError")) = some true := He.exm_ok (T.fa 250)
theorem xm_Twice_WiseError (T : Tx K mg) : PySem.W.exmOne K (.ref (He.ga K "Twice")) (.ref (He.ga K "WiseError")) = some true := He.exm_ok (T.fa 251)
theorem xc_WiseError (T : Tx K mg) : He2.ExcC K (He.ga K "WiseError") := He2.exc_ok (T.ex 0)
theorem xc_NoWidth (T : Tx K mg) : He2.ExcC K (He.ga K "NoWidth") := He2.exc_ok (T.ex 1)
theorem xi_NoWidth (T : Tx K mg) : PySem.W.findIn K (.ref (He.ga K "NoWidth")) "__init__" = some (some (.ref (He.ma K (He.ga K "NoWidth") "__init__"))) ∧ PySem.W.typeIn K (.ref (He.ma K (He.ga K "NoWidth") "__init__")) = some (.type "function") := He2.ein_ok (T.ex 2)
theorem xc_NoWord (T : Tx K mg) : He2.ExcC K (He.ga K "NoWord") := He2.exc_ok (T.ex 3)
theorem xi_NoWord (T : Tx K mg) : PySem.W.findIn K (.ref (He.ga K "NoWord")) "__init__" = some (some (.ref (He.ma K (He.ga K "NoWord") "__init__"))) ∧ PySem.W.typeIn K (.ref (He.ma K (He.ga K "NoWord") "__init__")) = some (.type "function") := He2.ein_ok (T.ex 4)
theorem xc_NoKind (T : Tx K mg) : He2.ExcC K (He.ga K "NoKind") := He2.exc_ok (T.ex 5)
theorem xi_NoKind (T : Tx K mg) : PySem.W.findIn K (.ref (He.ga K "NoKind")) "__init__" = some (some (.ref (He.ma K (He.ga K "NoKind") "__init__"))) ∧ PySem.W.typeIn K (.ref (He.ma K (He.ga K "NoKind") "__init__")) = some (.type "function") := He2.ein_ok (T.ex 6)
theorem xc_NoText (T : Tx K mg) : He2.ExcC K (He.ga K "NoText") := He2.exc_ok (T.ex 7)
theorem xi_NoText (T : Tx K mg) : PySem.W.findIn K (.ref (He.ga K "NoText")) "__init__" = some (some (.ref (He.ma K (He.ga K "NoText") "__init__"))) ∧ PySem.W.typeIn K (.ref (He.ma K (He.ga K "NoText") "__init__")) = some (.type "function") := He2.ein_ok (T.ex 8)
theorem xc_NoProgram (T : Tx K mg) : He2.ExcC K (He.ga K "NoProgram") := He2.exc_ok (T.ex 9)
theorem xi_NoProgram (T : Tx K mg) : PySem.W.findIn K (.ref (He.ga K "NoProgram")) "__init__" = some (some (.ref (He.ma K (He.ga K "NoProgram") "__init__"))) ∧ PySem.W.typeIn K (.ref (He.ma K (He.ga K "NoProgram") "__init__")) = some (.type "function") := He2.ein_ok (T.ex 10)
theorem xc_TooMuch (T : Tx K mg) : He2.ExcC K (He.ga K "TooMuch") := He2.exc_ok (T.ex 11)
theorem xi_TooMuch (T : Tx K mg) : PySem.W.findIn K (.ref (He.ga K "TooMuch")) "__init__" = some (some (.ref (He.ma K (He.ga K "TooMuch") "__init__"))) ∧ PySem.W.typeIn K (.ref (He.ma K (He.ga K "TooMuch") "__init__")) = some (.type "function") := He2.ein_ok (T.ex 12)
theorem xc_Unknown (T : Tx K mg) : He2.ExcC K (He.ga K "Unknown") := He2.exc_ok (T.ex 13)
theorem xi_Unknown (T : Tx K mg) : PySem.W.findIn K (.ref (He.ga K "Unknown")) "__init__" = some (some (.ref (He.ma K (He.ga K "Unknown") "__init__"))) ∧ PySem.W.typeIn K (.ref (He.ma K (He.ga K "Unknown") "__init__")) = some (.type "function") := He2.ein_ok (T.ex 14)
theorem xc_WrongKind (T : Tx K mg) : He2.ExcC K (He.ga K "WrongKind") := He2.exc_ok (T.ex 15)
theorem xi_WrongKind (T : Tx K mg) : PySem.W.findIn K (.ref (He.ga K "WrongKind")) "__init__" = some (some (.ref (He.ma K (He.ga K "WrongKind") "__init__"))) ∧ PySem.W.typeIn K (.ref (He.ma K (He.ga K "WrongKind") "__init__")) = some (.type "function") := He2.ein_ok (T.ex 16)
theorem xc_Twice (T : Tx K mg) : He2.ExcC K (He.ga K "Twice") := He2.exc_ok (T.ex 17)
theorem xi_Twice (T : Tx K mg) : PySem.W.findIn K (.ref (He.ga K "Twice")) "__init__" = some (some (.ref (He.ma K (He.ga K "Twice") "__init__"))) ∧ PySem.W.typeIn K (.ref (He.ma K (He.ga K "Twice") "__init__")) = some (.type "function") := He2.ein_ok (T.ex 18)
theorem tp_WAYS (T : Tx K mg) (H : Hp) : SqT K H (He.ga K "WAYS") (([.str "down", .str "up", .str "cut", .str "near"] : List He.Dv).map (He.Dv.v K)) := He.tupB_ok (T.ex 19) H
theorem tp_HEADS (T : Tx K mg) (H : Hp) : SqT K H (He.ga K "HEADS") (([.str "width", .str "in", .str "out", .str "plain", .str "signed", .str "point", .str "set", .str "repeat", .str "end"] : List He.Dv).map (He.Dv.v K)) := He.tupB_ok (T.ex 20) H
theorem tp_PLAIN_DEEDS (T : Tx K mg) (H : Hp) : SqT K H (He.ga K "PLAIN_DEEDS") (([.str "low", .str "high", .str "rest", .str "over", .str "part"] : List He.Dv).map (He.Dv.v K)) := He.tupB_ok (T.ex 21) H
theorem tp_LIKE_DEEDS (T : Tx K mg) (H : Hp) : SqT K H (He.ga K "LIKE_DEEDS") (([.str "add", .str "sub", .str "addstop", .str "substop", .str "less", .str "same"] : List He.Dv).map (He.Dv.v K)) := He.tupB_ok (T.ex 22) H
theorem ne_Kind_Plain (T : Tx K mg) : He.ga K "Kind" ≠ He.ga K "Plain" := by have h := T.ex 23; simpa using h
theorem ne_Kind_Signed (T : Tx K mg) : He.ga K "Kind" ≠ He.ga K "Signed" := by have h := T.ex 24; simpa using h
theorem ne_Kind_Pointed (T : Tx K mg) : He.ga K "Kind" ≠ He.ga K "Pointed" := by have h := T.ex 25; simpa using h
theorem ne_Kind_Row (T : Tx K mg) : He.ga K "Kind" ≠ He.ga K "Row" := by have h := T.ex 26; simpa using h
theorem ne_Kind_Repeat (T : Tx K mg) : He.ga K "Kind" ≠ He.ga K "Repeat" := by have h := T.ex 27; simpa using h
theorem ne_Kind_Draft (T : Tx K mg) : He.ga K "Kind" ≠ He.ga K "Draft" := by have h := T.ex 28; simpa using h
theorem ne_Kind_Program (T : Tx K mg) : He.ga K "Kind" ≠ He.ga K "Program" := by have h := T.ex 29; simpa using h
theorem ne_Plain_Signed (T : Tx K mg) : He.ga K "Plain" ≠ He.ga K "Signed" := by have h := T.ex 30; simpa using h
theorem ne_Plain_Pointed (T : Tx K mg) : He.ga K "Plain" ≠ He.ga K "Pointed" := by have h := T.ex 31; simpa using h
theorem ne_Plain_Row (T : Tx K mg) : He.ga K "Plain" ≠ He.ga K "Row" := by have h := T.ex 32; simpa using h
theorem ne_Plain_Repeat (T : Tx K mg) : He.ga K "Plain" ≠ He.ga K "Repeat" := by have h := T.ex 33; simpa using h
theorem ne_Plain_Draft (T : Tx K mg) : He.ga K "Plain" ≠ He.ga K "Draft" := by have h := T.ex 34; simpa using h
theorem ne_Plain_Program (T : Tx K mg) : He.ga K "Plain" ≠ He.ga K "Program" := by have h := T.ex 35; simpa using h
theorem ne_Signed_Pointed (T : Tx K mg) : He.ga K "Signed" ≠ He.ga K "Pointed" := by have h := T.ex 36; simpa using h
theorem ne_Signed_Row (T : Tx K mg) : He.ga K "Signed" ≠ He.ga K "Row" := by have h := T.ex 37; simpa using h
theorem ne_Signed_Repeat (T : Tx K mg) : He.ga K "Signed" ≠ He.ga K "Repeat" := by have h := T.ex 38; simpa using h
theorem ne_Signed_Draft (T : Tx K mg) : He.ga K "Signed" ≠ He.ga K "Draft" := by have h := T.ex 39; simpa using h
theorem ne_Signed_Program (T : Tx K mg) : He.ga K "Signed" ≠ He.ga K "Program" := by have h := T.ex 40; simpa using h
theorem ne_Pointed_Row (T : Tx K mg) : He.ga K "Pointed" ≠ He.ga K "Row" := by have h := T.ex 41; simpa using h
theorem ne_Pointed_Repeat (T : Tx K mg) : He.ga K "Pointed" ≠ He.ga K "Repeat" := by have h := T.ex 42; simpa using h
theorem ne_Pointed_Draft (T : Tx K mg) : He.ga K "Pointed" ≠ He.ga K "Draft" := by have h := T.ex 43; simpa using h
theorem ne_Pointed_Program (T : Tx K mg) : He.ga K "Pointed" ≠ He.ga K "Program" := by have h := T.ex 44; simpa using h
theorem ne_Row_Repeat (T : Tx K mg) : He.ga K "Row" ≠ He.ga K "Repeat" := by have h := T.ex 45; simpa using h
theorem ne_Row_Draft (T : Tx K mg) : He.ga K "Row" ≠ He.ga K "Draft" := by have h := T.ex 46; simpa using h
theorem ne_Row_Program (T : Tx K mg) : He.ga K "Row" ≠ He.ga K "Program" := by have h := T.ex 47; simpa using h
theorem ne_Repeat_Draft (T : Tx K mg) : He.ga K "Repeat" ≠ He.ga K "Draft" := by have h := T.ex 48; simpa using h
theorem ne_Repeat_Program (T : Tx K mg) : He.ga K "Repeat" ≠ He.ga K "Program" := by have h := T.ex 49; simpa using h
theorem ne_Draft_Program (T : Tx K mg) : He.ga K "Draft" ≠ He.ga K "Program" := by have h := T.ex 50; simpa using h
theorem ct_WiseError_init (T : Tx K mg) : He2.CAt K (He.ga K "WiseError") "__init__" ((He2.vBlt "ValueError.__init__") K) := He2.cat_ok (T.ex 51)
theorem ct_Kind_init (T : Tx K mg) : He2.CAt K (He.ga K "Kind") "__init__" ((He2.vDef "Kind" "__init__") K) := He2.cat_ok (T.ex 52)
theorem is_Kind (T : Tx K mg) : He2.IsiC K (He.ga K "Kind") := He2.isi_ok (T.ex 53)
theorem ki_Kind_Repeat (T : Tx K mg) : PySem.W.kitOne K (.ref (He.ga K "Kind")) (.ref (He.ga K "Repeat")) = some false := of_decide_eq_true (T.ex 54)
theorem is_Plain (T : Tx K mg) : He2.IsiC K (He.ga K "Plain") := He2.isi_ok (T.ex 55)
theorem ki_Plain_Repeat (T : Tx K mg) : PySem.W.kitOne K (.ref (He.ga K "Plain")) (.ref (He.ga K "Repeat")) = some false := of_decide_eq_true (T.ex 56)
theorem is_Signed (T : Tx K mg) : He2.IsiC K (He.ga K "Signed") := He2.isi_ok (T.ex 57)
theorem ki_Signed_Repeat (T : Tx K mg) : PySem.W.kitOne K (.ref (He.ga K "Signed")) (.ref (He.ga K "Repeat")) = some false := of_decide_eq_true (T.ex 58)
theorem is_Pointed (T : Tx K mg) : He2.IsiC K (He.ga K "Pointed") := He2.isi_ok (T.ex 59)
theorem ki_Pointed_Repeat (T : Tx K mg) : PySem.W.kitOne K (.ref (He.ga K "Pointed")) (.ref (He.ga K "Repeat")) = some false := of_decide_eq_true (T.ex 60)
theorem is_Row (T : Tx K mg) : He2.IsiC K (He.ga K "Row") := He2.isi_ok (T.ex 61)
theorem ki_Row_Repeat (T : Tx K mg) : PySem.W.kitOne K (.ref (He.ga K "Row")) (.ref (He.ga K "Repeat")) = some false := of_decide_eq_true (T.ex 62)
theorem is_Repeat (T : Tx K mg) : He2.IsiC K (He.ga K "Repeat") := He2.isi_ok (T.ex 63)
theorem ki_Repeat_Repeat (T : Tx K mg) : PySem.W.kitOne K (.ref (He.ga K "Repeat")) (.ref (He.ga K "Repeat")) = some true := of_decide_eq_true (T.ex 64)
theorem is_Draft (T : Tx K mg) : He2.IsiC K (He.ga K "Draft") := He2.isi_ok (T.ex 65)
theorem ki_Draft_Repeat (T : Tx K mg) : PySem.W.kitOne K (.ref (He.ga K "Draft")) (.ref (He.ga K "Repeat")) = some false := of_decide_eq_true (T.ex 66)
theorem is_Program (T : Tx K mg) : He2.IsiC K (He.ga K "Program") := He2.isi_ok (T.ex 67)
theorem ki_Program_Repeat (T : Tx K mg) : PySem.W.kitOne K (.ref (He.ga K "Program")) (.ref (He.ga K "Repeat")) = some false := of_decide_eq_true (T.ex 68)
theorem fn__wall (T : Tx K mg) : ∃ fd, FunD K "_wall" "_wall" (defArgs s__wall) (defBody s__wall) (defScope s__wall) [] [] (He.fAd K ("_wall", none)) fd := T.def_ 0
theorem fn_NoWidth_init (T : Tx K mg) : ∃ fd, FunD K "__init__" "NoWidth.__init__" (defArgs s_NoWidth_init) (defBody s_NoWidth_init) (defScope s_NoWidth_init) [] [] (He.fAd K ("NoWidth", some "__init__")) fd := T.def_ 1
theorem fn_NoWord_init (T : Tx K mg) : ∃ fd, FunD K "__init__" "NoWord.__init__" (defArgs s_NoWord_init) (defBody s_NoWord_init) (defScope s_NoWord_init) [] [] (He.fAd K ("NoWord", some "__init__")) fd := T.def_ 2
theorem fn_NoKind_init (T : Tx K mg) : ∃ fd, FunD K "__init__" "NoKind.__init__" (defArgs s_NoKind_init) (defBody s_NoKind_init) (defScope s_NoKind_init) [] [] (He.fAd K ("NoKind", some "__init__")) fd := T.def_ 3
theorem fn_NoText_init (T : Tx K mg) : ∃ fd, FunD K "__init__" "NoText.__init__" (defArgs s_NoText_init) (defBody s_NoText_init) (defScope s_NoText_init) [] [] (He.fAd K ("NoText", some "__init__")) fd := T.def_ 4
theorem fn_NoProgram_init (T : Tx K mg) : ∃ fd, FunD K "__init__" "NoProgram.__init__" (defArgs s_NoProgram_init) (defBody s_NoProgram_init) (defScope s_NoProgram_init) [] [] (He.fAd K ("NoProgram", some "__init__")) fd := T.def_ 5
theorem fn_TooMuch_init (T : Tx K mg) : ∃ fd, FunD K "__init__" "TooMuch.__init__" (defArgs s_TooMuch_init) (defBody s_TooMuch_init) (defScope s_TooMuch_init) [] [] (He.fAd K ("TooMuch", some "__init__")) fd := T.def_ 6
theorem fn_Unknown_init (T : Tx K mg) : ∃ fd, FunD K "__init__" "Unknown.__init__" (defArgs s_Unknown_init) (defBody s_Unknown_init) (defScope s_Unknown_init) [] [] (He.fAd K ("Unknown", some "__init__")) fd := T.def_ 7
theorem fn_WrongKind_init (T : Tx K mg) : ∃ fd, FunD K "__init__" "WrongKind.__init__" (defArgs s_WrongKind_init) (defBody s_WrongKind_init) (defScope s_WrongKind_init) [] [] (He.fAd K ("WrongKind", some "__init__")) fd := T.def_ 8
theorem fn_Twice_init (T : Tx K mg) : ∃ fd, FunD K "__init__" "Twice.__init__" (defArgs s_Twice_init) (defBody s_Twice_init) (defScope s_Twice_init) [] [] (He.fAd K ("Twice", some "__init__")) fd := T.def_ 9
theorem fn_is_whole (T : Tx K mg) : ∃ fd, FunD K "is_whole" "is_whole" (defArgs s_is_whole) (defBody s_is_whole) (defScope s_is_whole) [] [] (He.fAd K ("is_whole", none)) fd := T.def_ 10
theorem fn_need_width (T : Tx K mg) : ∃ fd, FunD K "need_width" "need_width" (defArgs s_need_width) (defBody s_need_width) (defScope s_need_width) [] [] (He.fAd K ("need_width", none)) fd := T.def_ 11
theorem fn_are_signs (T : Tx K mg) : ∃ fd, FunD K "are_signs" "are_signs" (defArgs s_are_signs) (defBody s_are_signs) (defScope s_are_signs) [] [] (He.fAd K ("are_signs", none)) fd := T.def_ 12
theorem fn_Kind_init (T : Tx K mg) : ∃ fd, FunD K "__init__" "Kind.__init__" (defArgs s_Kind_init) (defBody s_Kind_init) (defScope s_Kind_init) [] [] (He.fAd K ("Kind", some "__init__")) fd := T.def_ 13
theorem fn_Kind_word (T : Tx K mg) : ∃ fd, FunD K "word" "Kind.word" (defArgs s_Kind_word) (defBody s_Kind_word) (defScope s_Kind_word) [] [] (He.fAd K ("Kind", some "word")) fd := T.def_ 14
theorem fn_Kind_least (T : Tx K mg) : ∃ fd, FunD K "least" "Kind.least" (defArgs s_Kind_least) (defBody s_Kind_least) (defScope s_Kind_least) [] [] (He.fAd K ("Kind", some "least")) fd := T.def_ 15
theorem fn_Kind_greatest (T : Tx K mg) : ∃ fd, FunD K "greatest" "Kind.greatest" (defArgs s_Kind_greatest) (defBody s_Kind_greatest) (defScope s_Kind_greatest) [] [] (He.fAd K ("Kind", some "greatest")) fd := T.def_ 16
theorem fn_Kind_is_count (T : Tx K mg) : ∃ fd, FunD K "is_count" "Kind.is_count" (defArgs s_Kind_is_count) (defBody s_Kind_is_count) (defScope s_Kind_is_count) [] [] (He.fAd K ("Kind", some "is_count")) fd := T.def_ 17
theorem fn_Kind_count_of (T : Tx K mg) : ∃ fd, FunD K "count_of" "Kind.count_of" (defArgs s_Kind_count_of) (defBody s_Kind_count_of) (defScope s_Kind_count_of) [] [] (He.fAd K ("Kind", some "count_of")) fd := T.def_ 18
theorem fn_Kind_bits_of (T : Tx K mg) : ∃ fd, FunD K "bits_of" "Kind.bits_of" (defArgs s_Kind_bits_of) (defBody s_Kind_bits_of) (defScope s_Kind_bits_of) [] [] (He.fAd K ("Kind", some "bits_of")) fd := T.def_ 19
theorem fn_Kind_shown (T : Tx K mg) : ∃ fd, FunD K "shown" "Kind.shown" (defArgs s_Kind_shown) (defBody s_Kind_shown) (defScope s_Kind_shown) [] [] (He.fAd K ("Kind", some "shown")) fd := T.def_ 20
theorem fn_Kind_read (T : Tx K mg) : ∃ fd, FunD K "read" "Kind.read" (defArgs s_Kind_read) (defBody s_Kind_read) (defScope s_Kind_read) [] [] (He.fAd K ("Kind", some "read")) fd := T.def_ 21
theorem fn_Plain_init (T : Tx K mg) : ∃ fd, FunD K "__init__" "Plain.__init__" (defArgs s_Plain_init) (defBody s_Plain_init) (defScope s_Plain_init) [] [] (He.fAd K ("Plain", some "__init__")) fd := T.def_ 22
theorem fn_Plain_word (T : Tx K mg) : ∃ fd, FunD K "word" "Plain.word" (defArgs s_Plain_word) (defBody s_Plain_word) (defScope s_Plain_word) [] [] (He.fAd K ("Plain", some "word")) fd := T.def_ 23
theorem fn_Plain_least (T : Tx K mg) : ∃ fd, FunD K "least" "Plain.least" (defArgs s_Plain_least) (defBody s_Plain_least) (defScope s_Plain_least) [] [] (He.fAd K ("Plain", some "least")) fd := T.def_ 24
theorem fn_Plain_greatest (T : Tx K mg) : ∃ fd, FunD K "greatest" "Plain.greatest" (defArgs s_Plain_greatest) (defBody s_Plain_greatest) (defScope s_Plain_greatest) [] [] (He.fAd K ("Plain", some "greatest")) fd := T.def_ 25
theorem fn_Signed_init (T : Tx K mg) : ∃ fd, FunD K "__init__" "Signed.__init__" (defArgs s_Signed_init) (defBody s_Signed_init) (defScope s_Signed_init) [] [] (He.fAd K ("Signed", some "__init__")) fd := T.def_ 26
theorem fn_Pointed_init (T : Tx K mg) : ∃ fd, FunD K "__init__" "Pointed.__init__" (defArgs s_Pointed_init) (defBody s_Pointed_init) (defScope s_Pointed_init) [] [] (He.fAd K ("Pointed", some "__init__")) fd := T.def_ 27
theorem fn_Pointed_word (T : Tx K mg) : ∃ fd, FunD K "word" "Pointed.word" (defArgs s_Pointed_word) (defBody s_Pointed_word) (defScope s_Pointed_word) [] [] (He.fAd K ("Pointed", some "word")) fd := T.def_ 28
theorem fn_same_kind (T : Tx K mg) : ∃ fd, FunD K "same_kind" "same_kind" (defArgs s_same_kind) (defBody s_same_kind) (defScope s_same_kind) [] [] (He.fAd K ("same_kind", none)) fd := T.def_ 29
theorem fn_Row_init (T : Tx K mg) : ∃ fd, FunD K "__init__" "Row.__init__" (defArgs s_Row_init) (defBody s_Row_init) (defScope s_Row_init) [] [] (He.fAd K ("Row", some "__init__")) fd := T.def_ 30
theorem fn_Repeat_init (T : Tx K mg) : ∃ fd, FunD K "__init__" "Repeat.__init__" (defArgs s_Repeat_init) (defBody s_Repeat_init) (defScope s_Repeat_init) [] [] (He.fAd K ("Repeat", some "__init__")) fd := T.def_ 31
theorem fn_form_of (T : Tx K mg) : ∃ fd, FunD K "form_of" "form_of" (defArgs s_form_of) (defBody s_form_of) (defScope s_form_of) [] [] (He.fAd K ("form_of", none)) fd := T.def_ 32
theorem fn_is_name (T : Tx K mg) : ∃ fd, FunD K "is_name" "is_name" (defArgs s_is_name) (defBody s_is_name) (defScope s_is_name) [] [] (He.fAd K ("is_name", none)) fd := T.def_ 33
theorem fn_number_in (T : Tx K mg) : ∃ fd, FunD K "number_in" "number_in" (defArgs s_number_in) (defBody s_number_in) (defScope s_number_in) [] [] (He.fAd K ("number_in", none)) fd := T.def_ 34
theorem fn_kind_in (T : Tx K mg) : ∃ fd, FunD K "kind_in" "kind_in" (defArgs s_kind_in) (defBody s_kind_in) (defScope s_kind_in) [] [] (He.fAd K ("kind_in", none)) fd := T.def_ 35
theorem fn_bits_shown (T : Tx K mg) : ∃ fd, FunD K "bits_shown" "bits_shown" (defArgs s_bits_shown) (defBody s_bits_shown) (defScope s_bits_shown) [] [] (He.fAd K ("bits_shown", none)) fd := T.def_ 36
theorem fn_taken (T : Tx K mg) : ∃ fd, FunD K "taken" "taken" (defArgs s_taken) (defBody s_taken) (defScope s_taken) [] [] (He.fAd K ("taken", none)) fd := T.def_ 37
theorem fn_Draft_init (T : Tx K mg) : ∃ fd, FunD K "__init__" "Draft.__init__" (defArgs s_Draft_init) (defBody s_Draft_init) (defScope s_Draft_init) [] [] (He.fAd K ("Draft", some "__init__")) fd := T.def_ 38
theorem fn_Draft_block (T : Tx K mg) : ∃ fd, FunD K "block" "Draft.block" (defArgs s_Draft_block) (defBody s_Draft_block) (defScope s_Draft_block) [] [] (He.fAd K ("Draft", some "block")) fd := T.def_ 39
theorem fn_Draft_take (T : Tx K mg) : ∃ fd, FunD K "take" "Draft.take" (defArgs s_Draft_take) (defBody s_Draft_take) (defScope s_Draft_take) [] [] (He.fAd K ("Draft", some "take")) fd := T.def_ 40
theorem fn_Draft_take_width (T : Tx K mg) : ∃ fd, FunD K "take_width" "Draft.take_width" (defArgs s_Draft_take_width) (defBody s_Draft_take_width) (defScope s_Draft_take_width) [] [] (He.fAd K ("Draft", some "take_width")) fd := T.def_ 41
theorem fn_Draft_take_in (T : Tx K mg) : ∃ fd, FunD K "take_in" "Draft.take_in" (defArgs s_Draft_take_in) (defBody s_Draft_take_in) (defScope s_Draft_take_in) [] [] (He.fAd K ("Draft", some "take_in")) fd := T.def_ 42
theorem fn_Draft_take_out (T : Tx K mg) : ∃ fd, FunD K "take_out" "Draft.take_out" (defArgs s_Draft_take_out) (defBody s_Draft_take_out) (defScope s_Draft_take_out) [] [] (He.fAd K ("Draft", some "take_out")) fd := T.def_ 43
theorem fn_Draft_take_repeat (T : Tx K mg) : ∃ fd, FunD K "take_repeat" "Draft.take_repeat" (defArgs s_Draft_take_repeat) (defBody s_Draft_take_repeat) (defScope s_Draft_take_repeat) [] [] (He.fAd K ("Draft", some "take_repeat")) fd := T.def_ 44
theorem fn_Draft_take_end (T : Tx K mg) : ∃ fd, FunD K "take_end" "Draft.take_end" (defArgs s_Draft_take_end) (defBody s_Draft_take_end) (defScope s_Draft_take_end) [] [] (He.fAd K ("Draft", some "take_end")) fd := T.def_ 45
theorem fn_Draft_take_row (T : Tx K mg) : ∃ fd, FunD K "take_row" "Draft.take_row" (defArgs s_Draft_take_row) (defBody s_Draft_take_row) (defScope s_Draft_take_row) [] [] (He.fAd K ("Draft", some "take_row")) fd := T.def_ 46
theorem fn_Draft_is_great (T : Tx K mg) : ∃ fd, FunD K "is_great" "Draft.is_great" (defArgs s_Draft_is_great) (defBody s_Draft_is_great) (defScope s_Draft_is_great) [] [] (He.fAd K ("Draft", some "is_great")) fd := T.def_ 47
theorem fn_read_lines (T : Tx K mg) : ∃ fd, FunD K "read_lines" "read_lines" (defArgs s_read_lines) (defBody s_read_lines) (defScope s_read_lines) [] [] (He.fAd K ("read_lines", none)) fd := T.def_ 48
theorem fn_kind_words (T : Tx K mg) : ∃ fd, FunD K "kind_words" "kind_words" (defArgs s_kind_words) (defBody s_kind_words) (defScope s_kind_words) [] [] (He.fAd K ("kind_words", none)) fd := T.def_ 49
theorem fn_count_rows (T : Tx K mg) : ∃ fd, FunD K "count_rows" "count_rows" (defArgs s_count_rows) (defBody s_count_rows) (defScope s_count_rows) [] [] (He.fAd K ("count_rows", none)) fd := T.def_ 50
theorem fn_Program_init (T : Tx K mg) : ∃ fd, FunD K "__init__" "Program.__init__" (defArgs s_Program_init) (defBody s_Program_init) (defScope s_Program_init) [] [] (He.fAd K ("Program", some "__init__")) fd := T.def_ 51
theorem fn_Program_names (T : Tx K mg) : ∃ fd, FunD K "names" "Program.names" (defArgs s_Program_names) (defBody s_Program_names) (defScope s_Program_names) [] [] (He.fAd K ("Program", some "names")) fd := T.def_ 52
theorem fn_Program_rows_run (T : Tx K mg) : ∃ fd, FunD K "rows_run" "Program.rows_run" (defArgs s_Program_rows_run) (defBody s_Program_rows_run) (defScope s_Program_rows_run) [] [] (He.fAd K ("Program", some "rows_run")) fd := T.def_ 53
theorem fn_Program_text (T : Tx K mg) : ∃ fd, FunD K "text" "Program.text" (defArgs s_Program_text) (defBody s_Program_text) (defScope s_Program_text) [] [] (He.fAd K ("Program", some "text")) fd := T.def_ 54
theorem fn_Program_write (T : Tx K mg) : ∃ fd, FunD K "write" "Program.write" (defArgs s_Program_write) (defBody s_Program_write) (defScope s_Program_write) [] [] (He.fAd K ("Program", some "write")) fd := T.def_ 55
theorem fn_Program_words_behind (T : Tx K mg) : ∃ fd, FunD K "words_behind" "Program.words_behind" (defArgs s_Program_words_behind) (defBody s_Program_words_behind) (defScope s_Program_words_behind) [] [] (He.fAd K ("Program", some "words_behind")) fd := T.def_ 56
theorem fn_Program_look (T : Tx K mg) : ∃ fd, FunD K "look" "Program.look" (defArgs s_Program_look) (defBody s_Program_look) (defScope s_Program_look) [] [] (He.fAd K ("Program", some "look")) fd := T.def_ 57
theorem fn_Program_made_kind (T : Tx K mg) : ∃ fd, FunD K "made_kind" "Program.made_kind" (defArgs s_Program_made_kind) (defBody s_Program_made_kind) (defScope s_Program_made_kind) [] [] (He.fAd K ("Program", some "made_kind")) fd := T.def_ 58
theorem fn_read_program (T : Tx K mg) : ∃ fd, FunD K "read_program" "read_program" (defArgs s_read_program) (defBody s_read_program) (defScope s_read_program) [] [] (He.fAd K ("read_program", none)) fd := T.def_ 59
theorem fn_L_cell (T : Tx K mg) : ∃ fd, FunD K "_law_cell" "_law_cell" (defArgs s_L_cell) (defBody s_L_cell) (defScope s_L_cell) [] [] (He.fAd K ("_law_cell", none)) fd := T.def_ 60
theorem fn_L_box (T : Tx K mg) : ∃ fd, FunD K "_law_box" "_law_box" (defArgs s_L_box) (defBody s_L_box) (defScope s_L_box) [] [] (He.fAd K ("_law_box", none)) fd := T.def_ 61
theorem fn_L_take (T : Tx K mg) : ∃ fd, FunD K "_law_take" "_law_take" (defArgs s_L_take) (defBody s_L_take) (defScope s_L_take) [] [] (He.fAd K ("_law_take", none)) fd := T.def_ 62
theorem fn_L_told (T : Tx K mg) : ∃ fd, FunD K "_law_told" "_law_told" (defArgs s_L_told) (defBody s_L_told) (defScope s_L_told) [] [] (He.fAd K ("_law_told", none)) fd := T.def_ 63
theorem fn_L_lines_right (T : Tx K mg) : ∃ fd, FunD K "_law_lines_right" "_law_lines_right" (defArgs s_L_lines_right) (defBody s_L_lines_right) (defScope s_L_lines_right) [] [] (He.fAd K ("_law_lines_right", none)) fd := T.def_ 64
theorem fn_L_names_right (T : Tx K mg) : ∃ fd, FunD K "_law_names_right" "_law_names_right" (defArgs s_L_names_right) (defBody s_L_names_right) (defScope s_L_names_right) [] [] (He.fAd K ("_law_names_right", none)) fd := T.def_ 65
theorem fn_L_loops_right (T : Tx K mg) : ∃ fd, FunD K "_law_loops_right" "_law_loops_right" (defArgs s_L_loops_right) (defBody s_L_loops_right) (defScope s_L_loops_right) [] [] (He.fAd K ("_law_loops_right", none)) fd := T.def_ 66
theorem fn_L_rows_done_right (T : Tx K mg) : ∃ fd, FunD K "_law_rows_done_right" "_law_rows_done_right" (defArgs s_L_rows_done_right) (defBody s_L_rows_done_right) (defScope s_L_rows_done_right) [] [] (He.fAd K ("_law_rows_done_right", none)) fd := T.def_ 67
theorem fn_law (T : Tx K mg) : ∃ fd, FunD K "law" "law" (defArgs s_law) (defBody s_law) (defScope s_law) [] [] (He.fAd K ("law", none)) fd := T.def_ 68
theorem fn_Plain__is_count (T : Tx K mg) : ∃ fd, FunD K "is_count" "Kind.is_count" (defArgs s_Kind_is_count) (defBody s_Kind_is_count) (defScope s_Kind_is_count) [] [] (He.fAd K ("Plain", some "is_count")) fd := T.def_ 69
theorem fn_Plain__count_of (T : Tx K mg) : ∃ fd, FunD K "count_of" "Kind.count_of" (defArgs s_Kind_count_of) (defBody s_Kind_count_of) (defScope s_Kind_count_of) [] [] (He.fAd K ("Plain", some "count_of")) fd := T.def_ 70
theorem fn_Plain__bits_of (T : Tx K mg) : ∃ fd, FunD K "bits_of" "Kind.bits_of" (defArgs s_Kind_bits_of) (defBody s_Kind_bits_of) (defScope s_Kind_bits_of) [] [] (He.fAd K ("Plain", some "bits_of")) fd := T.def_ 71
theorem fn_Plain__shown (T : Tx K mg) : ∃ fd, FunD K "shown" "Kind.shown" (defArgs s_Kind_shown) (defBody s_Kind_shown) (defScope s_Kind_shown) [] [] (He.fAd K ("Plain", some "shown")) fd := T.def_ 72
theorem fn_Plain__read (T : Tx K mg) : ∃ fd, FunD K "read" "Kind.read" (defArgs s_Kind_read) (defBody s_Kind_read) (defScope s_Kind_read) [] [] (He.fAd K ("Plain", some "read")) fd := T.def_ 73
theorem fn_Signed__word (T : Tx K mg) : ∃ fd, FunD K "word" "Kind.word" (defArgs s_Kind_word) (defBody s_Kind_word) (defScope s_Kind_word) [] [] (He.fAd K ("Signed", some "word")) fd := T.def_ 74
theorem fn_Signed__least (T : Tx K mg) : ∃ fd, FunD K "least" "Kind.least" (defArgs s_Kind_least) (defBody s_Kind_least) (defScope s_Kind_least) [] [] (He.fAd K ("Signed", some "least")) fd := T.def_ 75
theorem fn_Signed__greatest (T : Tx K mg) : ∃ fd, FunD K "greatest" "Kind.greatest" (defArgs s_Kind_greatest) (defBody s_Kind_greatest) (defScope s_Kind_greatest) [] [] (He.fAd K ("Signed", some "greatest")) fd := T.def_ 76
theorem fn_Signed__is_count (T : Tx K mg) : ∃ fd, FunD K "is_count" "Kind.is_count" (defArgs s_Kind_is_count) (defBody s_Kind_is_count) (defScope s_Kind_is_count) [] [] (He.fAd K ("Signed", some "is_count")) fd := T.def_ 77
theorem fn_Signed__count_of (T : Tx K mg) : ∃ fd, FunD K "count_of" "Kind.count_of" (defArgs s_Kind_count_of) (defBody s_Kind_count_of) (defScope s_Kind_count_of) [] [] (He.fAd K ("Signed", some "count_of")) fd := T.def_ 78
theorem fn_Signed__bits_of (T : Tx K mg) : ∃ fd, FunD K "bits_of" "Kind.bits_of" (defArgs s_Kind_bits_of) (defBody s_Kind_bits_of) (defScope s_Kind_bits_of) [] [] (He.fAd K ("Signed", some "bits_of")) fd := T.def_ 79
theorem fn_Signed__shown (T : Tx K mg) : ∃ fd, FunD K "shown" "Kind.shown" (defArgs s_Kind_shown) (defBody s_Kind_shown) (defScope s_Kind_shown) [] [] (He.fAd K ("Signed", some "shown")) fd := T.def_ 80
theorem fn_Signed__read (T : Tx K mg) : ∃ fd, FunD K "read" "Kind.read" (defArgs s_Kind_read) (defBody s_Kind_read) (defScope s_Kind_read) [] [] (He.fAd K ("Signed", some "read")) fd := T.def_ 81
theorem fn_Pointed__least (T : Tx K mg) : ∃ fd, FunD K "least" "Kind.least" (defArgs s_Kind_least) (defBody s_Kind_least) (defScope s_Kind_least) [] [] (He.fAd K ("Pointed", some "least")) fd := T.def_ 82
theorem fn_Pointed__greatest (T : Tx K mg) : ∃ fd, FunD K "greatest" "Kind.greatest" (defArgs s_Kind_greatest) (defBody s_Kind_greatest) (defScope s_Kind_greatest) [] [] (He.fAd K ("Pointed", some "greatest")) fd := T.def_ 83
theorem fn_Pointed__is_count (T : Tx K mg) : ∃ fd, FunD K "is_count" "Kind.is_count" (defArgs s_Kind_is_count) (defBody s_Kind_is_count) (defScope s_Kind_is_count) [] [] (He.fAd K ("Pointed", some "is_count")) fd := T.def_ 84
theorem fn_Pointed__count_of (T : Tx K mg) : ∃ fd, FunD K "count_of" "Kind.count_of" (defArgs s_Kind_count_of) (defBody s_Kind_count_of) (defScope s_Kind_count_of) [] [] (He.fAd K ("Pointed", some "count_of")) fd := T.def_ 85
theorem fn_Pointed__bits_of (T : Tx K mg) : ∃ fd, FunD K "bits_of" "Kind.bits_of" (defArgs s_Kind_bits_of) (defBody s_Kind_bits_of) (defScope s_Kind_bits_of) [] [] (He.fAd K ("Pointed", some "bits_of")) fd := T.def_ 86
theorem fn_Pointed__shown (T : Tx K mg) : ∃ fd, FunD K "shown" "Kind.shown" (defArgs s_Kind_shown) (defBody s_Kind_shown) (defScope s_Kind_shown) [] [] (He.fAd K ("Pointed", some "shown")) fd := T.def_ 87
theorem fn_Pointed__read (T : Tx K mg) : ∃ fd, FunD K "read" "Kind.read" (defArgs s_Kind_read) (defBody s_Kind_read) (defScope s_Kind_read) [] [] (He.fAd K ("Pointed", some "read")) fd := T.def_ 88
end
end OW

set_option maxHeartbeats 4000000
namespace OW
open PySem PySem.Spec PyProof.Rows L2
local macro_rules | `(tactic| walk_at "rd1") => `(tactic| first
  | with_reducible refine r_seq ?_ | with_reducible refine r_asg ?_ | with_reducible refine r_ret ?_ | with_reducible refine r_if ?_ | with_reducible refine r_next ?_ | with_reducible refine r_drop ?_ | with_reducible refine r_retN ?_
  | with_reducible refine r_var rfl ?_ | with_reducible refine r_c ?_ | with_reducible refine r_op ?_ | with_reducible refine r_I0 ?_ | with_reducible refine r_test ?_ | with_reducible refine r_bl ?_
  | with_reducible refine r_eqI ?_ | with_reducible refine r_eqS ?_ | with_reducible refine r_neI ?_ | with_reducible refine r_neS ?_ | with_reducible refine r_and ?_ | with_reducible refine r_or ?_ | with_reducible refine r_not ?_ | with_reducible refine r_B ?_
  | with_reducible refine r_andV ?_ | with_reducible refine r_orV ?_ | with_reducible refine r_notV ?_ | with_reducible refine r_chain ?_ | with_reducible refine r_cons ?_ | with_reducible refine r_nil ?_ | with_reducible refine r_cb ?_ | with_reducible refine r_call ?_
  | with_reducible refine r_isN ?_ | with_reducible refine r_notN ?_ | with_reducible refine r_tup ?_ | with_reducible refine r_lst ?_ | with_reducible refine r_sl ?_ | with_reducible refine r_noPart ?_ | with_reducible refine r_part ?_
  | with_reducible refine r_fld ?_ | with_reducible refine r_meth ?_ | with_reducible refine r_un ?_ | with_reducible refine r_U ?_ | with_reducible refine r_ifE ?_ | with_reducible refine r_par ?_ | with_reducible refine r_par2 ?_ | with_reducible refine r_ipI ?_ | with_reducible refine r_aug rfl ?_
  | with_reducible refine r_vei ?_ | with_reducible refine r_mko ?_ | with_reducible refine r_ost ?_ | with_reducible refine r_fldS ?_ | with_reducible refine r_asgG ?_ | with_reducible refine r_eqB ?_ | with_reducible refine r_neB ?_ | with_reducible refine r_in ?_ | with_reducible refine r_st ?_ | with_reducible refine r_rf ?_ | with_reducible refine r_sgn ?_ | with_reducible refine r_ss ?_ | with_reducible refine r_ii ?_
  | with_reducible refine r_make ?_ | with_reducible refine r_oN1 ?_ | with_reducible refine r_oS1 ?_ | with_reducible refine r_oN2 ?_ | with_reducible refine r_oS2 ?_ | with_reducible refine r_thru ?_ | with_reducible refine r_bm ?_ | with_reducible refine r_bm0 ?_ | with_reducible refine r_dput ?_ | with_reducible refine r_T ?_ | with_reducible refine r_F ?_ | with_reducible refine r_NT ?_ | with_reducible refine r_NF ?_)
local macro_rules | `(tactic| walk_at "rd") => `(tactic| repeat walk_at "rd1")
local macro_rules | `(tactic| walk_at "rds") => `(tactic| repeat first
  | with_reducible refine r_seq ?_ | with_reducible refine r_asg ?_ | with_reducible refine r_next ?_ | with_reducible refine r_drop ?_ | with_reducible refine r_var rfl ?_ | with_reducible refine r_c ?_
  | with_reducible refine r_T ?_ | with_reducible refine r_F ?_ | with_reducible refine r_NT ?_ | with_reducible refine r_NF ?_)
local macro_rules | `(tactic| walk_at "rdo") => `(tactic| repeat first
  | walk_at "rd1" | with_reducible refine r_DT (by omega) ?_ | with_reducible refine r_DF (by omega) ?_ | with_reducible refine r_NDT (by omega) ?_ | with_reducible refine r_NDF (by omega) ?_
  | with_reducible refine r_NDT rfl ?_ | with_reducible refine r_DT rfl ?_ | refine r_DF (of_decide_eq_false rfl) ?_ | refine r_DT (of_decide_eq_true rfl) ?_ | refine r_NDF (of_decide_eq_false rfl) ?_ | with_reducible refine r_in1 ?_ | with_reducible refine r_s1 ?_)
section
variable {P : Program} {w : World} {K : PySem.W.Frag} {mg : Str → Option Value} {base : Heap}
def sp_is_whole (K : PySem.W.Frag) : Sp := fun vs H Q _ => ∃ x t, vs = [x] ∧ TyX K H x (.type t) ∧ t ∈ ["int", "bool", "str", "NoneType", "list", "tuple", "dict"] ∧ Q (.bl (t == "int")) H
abbrev N_is_whole : List Str := ["thing"]
theorem sc_is_whole : FnScope ["thing"] ["thing"] (defScope s_is_whole) := ⟨rfl, rfl, rfl, by decide +kernel, rfl, by decide +kernel, by decide +kernel⟩
theorem ok_is_whole {f : Addr} {fd : FuncData} (T : Tx K mg)  (F : FunP K "is_whole" "is_whole" s_is_whole f fd) : FnOk P w K mg base (L2.CX P w) 1 f fd ["thing"] (sp_is_whole K) := by
  refine F.ok sc_is_whole (fun vs H Q E h => ?_) (fun cdv A outer s H vs Q E hr h => ?_)
  · repeat first | (obtain ⟨e, _⟩ := h; subst e; rfl; done) | (obtain ⟨_, h⟩ := h)
  refine ⟨_, (pss_one (ps_ret (pe_and (pe_callB call_isi (by rfl) (fr_isinstance T) (by decide +kernel) (pa_cons (pv 0) (pa_cons (pe_ty (n := "int") rfl (fr_int T) (by decide +kernel)) pa_nil))) (pe_one (pe_not (pe_callB call_isi (by rfl) (fr_isinstance T) (by decide +kernel) (pa_cons (pv 0) (pa_cons (pe_ty (n := "bool") rfl (fr_bool T) (by decide +kernel)) pa_nil)))))))), ?_⟩
  try dsimp only [cxK]
  obtain ⟨x, t, rfl, ht, hm, k⟩ := h
  walk_at "rd"
  have e1 : ∃ b1 b2, kitB t "int" = some b1 ∧ kitB t "bool" = some b2 ∧ (b1 && !b2) = (t == "int") := by
    simp only [List.mem_cons, List.not_mem_nil, or_false] at hm
    rcases hm with rfl | rfl | rfl | rfl | rfl | rfl | rfl
    · exact ⟨true, false, by decide +kernel, by decide +kernel, by decide +kernel⟩
    · exact ⟨true, true, by decide +kernel, by decide +kernel, by decide +kernel⟩
    all_goals exact ⟨false, false, by decide +kernel, by decide +kernel, by decide +kernel⟩
  obtain ⟨b1, b2, h1, h2, h3⟩ := e1
  refine ⟨x, .ty "int", _, _, b1, rfl, .ty _, ht, kit_ty h1, ?_⟩
  walk_at "rd"
  rw [← h3] at k
  cases b1
  · walk_at "rd"
    exact k
  · walk_at "rd"
    refine ⟨x, .ty "bool", _, _, b2, rfl, .ty _, ht, kit_ty h2, ?_⟩
    walk_at "rd"
    exact k
theorem cal_is_whole (T : Tx K mg) : CalX P w K mg base 1 "is_whole" (sp_is_whole K) [] := by
  obtain ⟨fd, F⟩ := fn_is_whole T
  exact ⟨_, fd, _, [], ok_is_whole T F, g_is_whole T, F.kp, F.bindsN fun _ _ _ _ _ _ us hl => match us, hl with | [_], _ => rfl, .nil⟩

end
section
variable {P : Program} {w : World} {K : PySem.W.Frag} {mg : Str → Option Value} {base : Heap}

abbrev N_NoWidth_init : List Str := ["self", "found"]
theorem sc_NoWidth_init : FnScope ["self", "found"] ["self", "found"] (defScope s_NoWidth_init) := ⟨rfl, rfl, rfl, by decide +kernel, rfl, by decide +kernel, by decide +kernel⟩
theorem ok_NoWidth_init {f : Addr} {fd : FuncData} (T : Tx K mg)  (F : FunP K "__init__" "NoWidth.__init__" s_NoWidth_init f fd) : FnOk P w K mg base (L2.CX P w) 1 f fd ["self", "found"] (sp_exc1 K (He.ga K "NoWidth") "found") := by
  refine F.ok sc_NoWidth_init (fun vs H Q E h => ?_) (fun cdv A outer s H vs Q E hr h => ?_)
  · repeat first | (obtain ⟨e, _⟩ := h; subst e; rfl; done) | (obtain ⟨_, h⟩ := h)
  refine ⟨_, (pss_cons (ps_expr (He2.pe_weinit rfl (g_WiseError T) (ct_WiseError_init T) (pa_cons (pv 0) (pa_cons pe_str pa_nil))))
  (pss_one (ps_ost (pv 0) (pv 1)))), ?_⟩
  try dsimp only [cxK]
  obtain ⟨a, v, rfl, ha, k⟩ := h
  walk_at "rd"
  refine ⟨a, He.ga K "NoWidth", _, rfl, (by show 1 ≤ 1000; decide), (xc_NoWidth T).oex, ha, ?_⟩
  walk_at "rd"
  refine ⟨a, He.ga K "NoWidth", rfl, (xc_NoWidth T).oex, na_NoWidth_found T, .inl ⟨ha, fun dx hd hne => ?_⟩⟩
  exact k dx hd hne
theorem exc_NoWidth (T : Tx K mg) : ExcX P w K mg base 1 "NoWidth" (He.ga K "NoWidth") (sp_exc1 K (He.ga K "NoWidth") "found") := by
  obtain ⟨fd, F⟩ := fn_NoWidth_init T
  exact ⟨_, fd, _, (xc_NoWidth T).oex, (xi_NoWidth T).1, (xi_NoWidth T).2, ok_NoWidth_init T F, g_NoWidth T, F.bindsN fun _ _ _ _ _ _ us hl => match us, hl with | [_, _], _ => rfl⟩

end
section
variable {P : Program} {w : World} {K : PySem.W.Frag} {mg : Str → Option Value} {base : Heap}

abbrev N_NoWord_init : List Str := ["self", "found"]
theorem sc_NoWord_init : FnScope ["self", "found"] ["self", "found"] (defScope s_NoWord_init) := ⟨rfl, rfl, rfl, by decide +kernel, rfl, by decide +kernel, by decide +kernel⟩
theorem ok_NoWord_init {f : Addr} {fd : FuncData} (T : Tx K mg)  (F : FunP K "__init__" "NoWord.__init__" s_NoWord_init f fd) : FnOk P w K mg base (L2.CX P w) 1 f fd ["self", "found"] (sp_exc1 K (He.ga K "NoWord") "found") := by
  refine F.ok sc_NoWord_init (fun vs H Q E h => ?_) (fun cdv A outer s H vs Q E hr h => ?_)
  · repeat first | (obtain ⟨e, _⟩ := h; subst e; rfl; done) | (obtain ⟨_, h⟩ := h)
  refine ⟨_, (pss_cons (ps_expr (He2.pe_weinit rfl (g_WiseError T) (ct_WiseError_init T) (pa_cons (pv 0) (pa_cons pe_str pa_nil))))
  (pss_one (ps_ost (pv 0) (pv 1)))), ?_⟩
  try dsimp only [cxK]
  obtain ⟨a, v, rfl, ha, k⟩ := h
  walk_at "rd"
  refine ⟨a, He.ga K "NoWord", _, rfl, (by show 1 ≤ 1000; decide), (xc_NoWord T).oex, ha, ?_⟩
  walk_at "rd"
  refine ⟨a, He.ga K "NoWord", rfl, (xc_NoWord T).oex, na_NoWord_found T, .inl ⟨ha, fun dx hd hne => ?_⟩⟩
  exact k dx hd hne
theorem exc_NoWord (T : Tx K mg) : ExcX P w K mg base 1 "NoWord" (He.ga K "NoWord") (sp_exc1 K (He.ga K "NoWord") "found") := by
  obtain ⟨fd, F⟩ := fn_NoWord_init T
  exact ⟨_, fd, _, (xc_NoWord T).oex, (xi_NoWord T).1, (xi_NoWord T).2, ok_NoWord_init T F, g_NoWord T, F.bindsN fun _ _ _ _ _ _ us hl => match us, hl with | [_, _], _ => rfl⟩

end
section
variable {P : Program} {w : World} {K : PySem.W.Frag} {mg : Str → Option Value} {base : Heap}

abbrev N_NoKind_init : List Str := ["self", "found"]
theorem sc_NoKind_init : FnScope ["self", "found"] ["self", "found"] (defScope s_NoKind_init) := ⟨rfl, rfl, rfl, by decide +kernel, rfl, by decide +kernel, by decide +kernel⟩
theorem ok_NoKind_init {f : Addr} {fd : FuncData} (T : Tx K mg)  (F : FunP K "__init__" "NoKind.__init__" s_NoKind_init f fd) : FnOk P w K mg base (L2.CX P w) 1 f fd ["self", "found"] (sp_exc1 K (He.ga K "NoKind") "found") := by
  refine F.ok sc_NoKind_init (fun vs H Q E h => ?_) (fun cdv A outer s H vs Q E hr h => ?_)
  · repeat first | (obtain ⟨e, _⟩ := h; subst e; rfl; done) | (obtain ⟨_, h⟩ := h)
  refine ⟨_, (pss_cons (ps_expr (He2.pe_weinit rfl (g_WiseError T) (ct_WiseError_init T) (pa_cons (pv 0) (pa_cons pe_str pa_nil))))
  (pss_one (ps_ost (pv 0) (pv 1)))), ?_⟩
  try dsimp only [cxK]
  obtain ⟨a, v, rfl, ha, k⟩ := h
  walk_at "rd"
  refine ⟨a, He.ga K "NoKind", _, rfl, (by show 1 ≤ 1000; decide), (xc_NoKind T).oex, ha, ?_⟩
  walk_at "rd"
  refine ⟨a, He.ga K "NoKind", rfl, (xc_NoKind T).oex, na_NoKind_found T, .inl ⟨ha, fun dx hd hne => ?_⟩⟩
  exact k dx hd hne
theorem exc_NoKind (T : Tx K mg) : ExcX P w K mg base 1 "NoKind" (He.ga K "NoKind") (sp_exc1 K (He.ga K "NoKind") "found") := by
  obtain ⟨fd, F⟩ := fn_NoKind_init T
  exact ⟨_, fd, _, (xc_NoKind T).oex, (xi_NoKind T).1, (xi_NoKind T).2, ok_NoKind_init T F, g_NoKind T, F.bindsN fun _ _ _ _ _ _ us hl => match us, hl with | [_, _], _ => rfl⟩

end
section
variable {P : Program} {w : World} {K : PySem.W.Frag} {mg : Str → Option Value} {base : Heap}

abbrev N_NoText_init : List Str := ["self", "found"]
theorem sc_NoText_init : FnScope ["self", "found"] ["self", "found"] (defScope s_NoText_init) := ⟨rfl, rfl, rfl, by decide +kernel, rfl, by decide +kernel, by decide +kernel⟩
theorem ok_NoText_init {f : Addr} {fd : FuncData} (T : Tx K mg)  (F : FunP K "__init__" "NoText.__init__" s_NoText_init f fd) : FnOk P w K mg base (L2.CX P w) 1 f fd ["self", "found"] (sp_exc1 K (He.ga K "NoText") "found") := by
  refine F.ok sc_NoText_init (fun vs H Q E h => ?_) (fun cdv A outer s H vs Q E hr h => ?_)
  · repeat first | (obtain ⟨e, _⟩ := h; subst e; rfl; done) | (obtain ⟨_, h⟩ := h)
  refine ⟨_, (pss_cons (ps_expr (He2.pe_weinit rfl (g_WiseError T) (ct_WiseError_init T) (pa_cons (pv 0) (pa_cons pe_str pa_nil))))
  (pss_one (ps_ost (pv 0) (pv 1)))), ?_⟩
  try dsimp only [cxK]
  obtain ⟨a, v, rfl, ha, k⟩ := h
  walk_at "rd"
  refine ⟨a, He.ga K "NoText", _, rfl, (by show 1 ≤ 1000; decide), (xc_NoText T).oex, ha, ?_⟩
  walk_at "rd"
  refine ⟨a, He.ga K "NoText", rfl, (xc_NoText T).oex, na_NoText_found T, .inl ⟨ha, fun dx hd hne => ?_⟩⟩
  exact k dx hd hne
theorem exc_NoText (T : Tx K mg) : ExcX P w K mg base 1 "NoText" (He.ga K "NoText") (sp_exc1 K (He.ga K "NoText") "found") := by
  obtain ⟨fd, F⟩ := fn_NoText_init T
  exact ⟨_, fd, _, (xc_NoText T).oex, (xi_NoText T).1, (xi_NoText T).2, ok_NoText_init T F, g_NoText T, F.bindsN fun _ _ _ _ _ _ us hl => match us, hl with | [_, _], _ => rfl⟩

end
section
variable {P : Program} {w : World} {K : PySem.W.Frag} {mg : Str → Option Value} {base : Heap}

abbrev N_NoProgram_init : List Str := ["self", "line"]
theorem sc_NoProgram_init : FnScope ["self", "line"] ["self", "line"] (defScope s_NoProgram_init) := ⟨rfl, rfl, rfl, by decide +kernel, rfl, by decide +kernel, by decide +kernel⟩
theorem ok_NoProgram_init {f : Addr} {fd : FuncData} (T : Tx K mg)  (F : FunP K "__init__" "NoProgram.__init__" s_NoProgram_init f fd) : FnOk P w K mg base (L2.CX P w) 1 f fd ["self", "line"] (sp_exc1 K (He.ga K "NoProgram") "line") := by
  refine F.ok sc_NoProgram_init (fun vs H Q E h => ?_) (fun cdv A outer s H vs Q E hr h => ?_)
  · repeat first | (obtain ⟨e, _⟩ := h; subst e; rfl; done) | (obtain ⟨_, h⟩ := h)
  refine ⟨_, (pss_cons (ps_expr (He2.pe_weinit rfl (g_WiseError T) (ct_WiseError_init T) (pa_cons (pv 0) (pa_cons pe_str pa_nil))))
  (pss_one (ps_ost (pv 0) (pv 1)))), ?_⟩
  try dsimp only [cxK]
  obtain ⟨a, v, rfl, ha, k⟩ := h
  walk_at "rd"
  refine ⟨a, He.ga K "NoProgram", _, rfl, (by show 1 ≤ 1000; decide), (xc_NoProgram T).oex, ha, ?_⟩
  walk_at "rd"
  refine ⟨a, He.ga K "NoProgram", rfl, (xc_NoProgram T).oex, na_NoProgram_line T, .inl ⟨ha, fun dx hd hne => ?_⟩⟩
  exact k dx hd hne
theorem exc_NoProgram (T : Tx K mg) : ExcX P w K mg base 1 "NoProgram" (He.ga K "NoProgram") (sp_exc1 K (He.ga K "NoProgram") "line") := by
  obtain ⟨fd, F⟩ := fn_NoProgram_init T
  exact ⟨_, fd, _, (xc_NoProgram T).oex, (xi_NoProgram T).1, (xi_NoProgram T).2, ok_NoProgram_init T F, g_NoProgram T, F.bindsN fun _ _ _ _ _ _ us hl => match us, hl with | [_, _], _ => rfl⟩

end
section
variable {P : Program} {w : World} {K : PySem.W.Frag} {mg : Str → Option Value} {base : Heap}

abbrev N_TooMuch_init : List Str := ["self", "line"]
theorem sc_TooMuch_init : FnScope ["self", "line"] ["self", "line"] (defScope s_TooMuch_init) := ⟨rfl, rfl, rfl, by decide +kernel, rfl, by decide +kernel, by decide +kernel⟩
theorem ok_TooMuch_init {f : Addr} {fd : FuncData} (T : Tx K mg)  (F : FunP K "__init__" "TooMuch.__init__" s_TooMuch_init f fd) : FnOk P w K mg base (L2.CX P w) 1 f fd ["self", "line"] (sp_exc1 K (He.ga K "TooMuch") "line") := by
  refine F.ok sc_TooMuch_init (fun vs H Q E h => ?_) (fun cdv A outer s H vs Q E hr h => ?_)
  · repeat first | (obtain ⟨e, _⟩ := h; subst e; rfl; done) | (obtain ⟨_, h⟩ := h)
  refine ⟨_, (pss_cons (ps_expr (He2.pe_weinit rfl (g_WiseError T) (ct_WiseError_init T) (pa_cons (pv 0) (pa_cons pe_str pa_nil))))
  (pss_one (ps_ost (pv 0) (pv 1)))), ?_⟩
  try dsimp only [cxK]
  obtain ⟨a, v, rfl, ha, k⟩ := h
  walk_at "rd"
  refine ⟨a, He.ga K "TooMuch", _, rfl, (by show 1 ≤ 1000; decide), (xc_TooMuch T).oex, ha, ?_⟩
  walk_at "rd"
  refine ⟨a, He.ga K "TooMuch", rfl, (xc_TooMuch T).oex, na_TooMuch_line T, .inl ⟨ha, fun dx hd hne => ?_⟩⟩
  exact k dx hd hne
theorem exc_TooMuch (T : Tx K mg) : ExcX P w K mg base 1 "TooMuch" (He.ga K "TooMuch") (sp_exc1 K (He.ga K "TooMuch") "line") := by
  obtain ⟨fd, F⟩ := fn_TooMuch_init T
  exact ⟨_, fd, _, (xc_TooMuch T).oex, (xi_TooMuch T).1, (xi_TooMuch T).2, ok_TooMuch_init T F, g_TooMuch T, F.bindsN fun _ _ _ _ _ _ us hl => match us, hl with | [_, _], _ => rfl⟩

end
section
variable {P : Program} {w : World} {K : PySem.W.Frag} {mg : Str → Option Value} {base : Heap}

abbrev N_Unknown_init : List Str := ["self", "line", "name"]
theorem sc_Unknown_init : FnScope ["self", "line", "name"] ["self", "line", "name"] (defScope s_Unknown_init) := ⟨rfl, rfl, rfl, by decide +kernel, rfl, by decide +kernel, by decide +kernel⟩
theorem ok_Unknown_init {f : Addr} {fd : FuncData} (T : Tx K mg)  (F : FunP K "__init__" "Unknown.__init__" s_Unknown_init f fd) : FnOk P w K mg base (L2.CX P w) 1 f fd ["self", "line", "name"] (sp_exc2 K (He.ga K "Unknown") "line" "name") := by
  refine F.ok sc_Unknown_init (fun vs H Q E h => ?_) (fun cdv A outer s H vs Q E hr h => ?_)
  · repeat first | (obtain ⟨e, _⟩ := h; subst e; rfl; done) | (obtain ⟨_, h⟩ := h)
  refine ⟨_, (pss_cons (ps_expr (He2.pe_weinit rfl (g_WiseError T) (ct_WiseError_init T) (pa_cons (pv 0) (pa_cons pe_str pa_nil))))
  (pss_cons (ps_ost (pv 0) (pv 1))
  (pss_one (ps_ost (pv 0) (pv 2))))), ?_⟩
  try dsimp only [cxK]
  obtain ⟨a, v, u, rfl, ha, k⟩ := h
  walk_at "rd"
  refine ⟨a, He.ga K "Unknown", _, rfl, (by show 1 ≤ 1000; decide), (xc_Unknown T).oex, ha, ?_⟩
  walk_at "rd"
  refine ⟨a, He.ga K "Unknown", rfl, (xc_Unknown T).oex, na_Unknown_line T, .inl ⟨ha, fun dx hd hne => ?_⟩⟩
  walk_at "rd"
  refine ⟨a, He.ga K "Unknown", rfl, (xc_Unknown T).oex, na_Unknown_name T, .inr ⟨dx, _, upd_same, by rw [upd_ne hne, upd_same], (by show 1 ≤ 900; decide), ?_⟩⟩
  exact k dx hd hne
theorem exc_Unknown (T : Tx K mg) : ExcX P w K mg base 1 "Unknown" (He.ga K "Unknown") (sp_exc2 K (He.ga K "Unknown") "line" "name") := by
  obtain ⟨fd, F⟩ := fn_Unknown_init T
  exact ⟨_, fd, _, (xc_Unknown T).oex, (xi_Unknown T).1, (xi_Unknown T).2, ok_Unknown_init T F, g_Unknown T, F.bindsN fun _ _ _ _ _ _ us hl => match us, hl with | [_, _, _], _ => rfl⟩

end
section
variable {P : Program} {w : World} {K : PySem.W.Frag} {mg : Str → Option Value} {base : Heap}

abbrev N_WrongKind_init : List Str := ["self", "line", "name"]
theorem sc_WrongKind_init : FnScope ["self", "line", "name"] ["self", "line", "name"] (defScope s_WrongKind_init) := ⟨rfl, rfl, rfl, by decide +kernel, rfl, by decide +kernel, by decide +kernel⟩
theorem ok_WrongKind_init {f : Addr} {fd : FuncData} (T : Tx K mg)  (F : FunP K "__init__" "WrongKind.__init__" s_WrongKind_init f fd) : FnOk P w K mg base (L2.CX P w) 1 f fd ["self", "line", "name"] (sp_exc2 K (He.ga K "WrongKind") "line" "name") := by
  refine F.ok sc_WrongKind_init (fun vs H Q E h => ?_) (fun cdv A outer s H vs Q E hr h => ?_)
  · repeat first | (obtain ⟨e, _⟩ := h; subst e; rfl; done) | (obtain ⟨_, h⟩ := h)
  refine ⟨_, (pss_cons (ps_expr (He2.pe_weinit rfl (g_WiseError T) (ct_WiseError_init T) (pa_cons (pv 0) (pa_cons pe_str pa_nil))))
  (pss_cons (ps_ost (pv 0) (pv 1))
  (pss_one (ps_ost (pv 0) (pv 2))))), ?_⟩
  try dsimp only [cxK]
  obtain ⟨a, v, u, rfl, ha, k⟩ := h
  walk_at "rd"
  refine ⟨a, He.ga K "WrongKind", _, rfl, (by show 1 ≤ 1000; decide), (xc_WrongKind T).oex, ha, ?_⟩
  walk_at "rd"
  refine ⟨a, He.ga K "WrongKind", rfl, (xc_WrongKind T).oex, na_WrongKind_line T, .inl ⟨ha, fun dx hd hne => ?_⟩⟩
  walk_at "rd"
  refine ⟨a, He.ga K "WrongKind", rfl, (xc_WrongKind T).oex, na_WrongKind_name T, .inr ⟨dx, _, upd_same, by rw [upd_ne hne, upd_same], (by show 1 ≤ 900; decide), ?_⟩⟩
  exact k dx hd hne
theorem exc_WrongKind (T : Tx K mg) : ExcX P w K mg base 1 "WrongKind" (He.ga K "WrongKind") (sp_exc2 K (He.ga K "WrongKind") "line" "name") := by
  obtain ⟨fd, F⟩ := fn_WrongKind_init T
  exact ⟨_, fd, _, (xc_WrongKind T).oex, (xi_WrongKind T).1, (xi_WrongKind T).2, ok_WrongKind_init T F, g_WrongKind T, F.bindsN fun _ _ _ _ _ _ us hl => match us, hl with | [_, _, _], _ => rfl⟩

end
section
variable {P : Program} {w : World} {K : PySem.W.Frag} {mg : Str → Option Value} {base : Heap}

abbrev N_Twice_init : List Str := ["self", "line", "name"]
theorem sc_Twice_init : FnScope ["self", "line", "name"] ["self", "line", "name"] (defScope s_Twice_init) := ⟨rfl, rfl, rfl, by decide +kernel, rfl, by decide +kernel, by decide +kernel⟩
theorem ok_Twice_init {f : Addr} {fd : FuncData} (T : Tx K mg)  (F : FunP K "__init__" "Twice.__init__" s_Twice_init f fd) : FnOk P w K mg base (L2.CX P w) 1 f fd ["self", "line", "name"] (sp_exc2 K (He.ga K "Twice") "line" "name") := by
  refine F.ok sc_Twice_init (fun vs H Q E h => ?_) (fun cdv A outer s H vs Q E hr h => ?_)
  · repeat first | (obtain ⟨e, _⟩ := h; subst e; rfl; done) | (obtain ⟨_, h⟩ := h)
  refine ⟨_, (pss_cons (ps_expr (He2.pe_weinit rfl (g_WiseError T) (ct_WiseError_init T) (pa_cons (pv 0) (pa_cons pe_str pa_nil))))
  (pss_cons (ps_ost (pv 0) (pv 1))
  (pss_one (ps_ost (pv 0) (pv 2))))), ?_⟩
  try dsimp only [cxK]
  obtain ⟨a, v, u, rfl, ha, k⟩ := h
  walk_at "rd"
  refine ⟨a, He.ga K "Twice", _, rfl, (by show 1 ≤ 1000; decide), (xc_Twice T).oex, ha, ?_⟩
  walk_at "rd"
  refine ⟨a, He.ga K "Twice", rfl, (xc_Twice T).oex, na_Twice_line T, .inl ⟨ha, fun dx hd hne => ?_⟩⟩
  walk_at "rd"
  refine ⟨a, He.ga K "Twice", rfl, (xc_Twice T).oex, na_Twice_name T, .inr ⟨dx, _, upd_same, by rw [upd_ne hne, upd_same], (by show 1 ≤ 900; decide), ?_⟩⟩
  exact k dx hd hne
theorem exc_Twice (T : Tx K mg) : ExcX P w K mg base 1 "Twice" (He.ga K "Twice") (sp_exc2 K (He.ga K "Twice") "line" "name") := by
  obtain ⟨fd, F⟩ := fn_Twice_init T
  exact ⟨_, fd, _, (xc_Twice T).oex, (xi_Twice T).1, (xi_Twice T).2, ok_Twice_init T F, g_Twice T, F.bindsN fun _ _ _ _ _ _ us hl => match us, hl with | [_, _, _], _ => rfl⟩

end
section
variable {P : Program} {w : World} {K : PySem.W.Frag} {mg : Str → Option Value} {base : Heap}
def sp_need_width (K : PySem.W.Frag) : Sp := fun vs H Q E => ∃ x t, vs = [x] ∧ TyX K H x (.type t) ∧ t ∈ ["int", "bool", "str", "NoneType", "list", "tuple", "dict"] ∧ ((∃ i, x = .int i ∧ 4 ≤ i ∧ i ≤ 32 ∧ Q .non H) ∨ ((∀ i, x = .int i → t = "int" ∧ ¬ (4 ≤ i ∧ i ≤ 32)) ∧ (t = "int" → ∃ i, x = .int i) ∧ Rz1 K E H "NoWidth" "found" x))
abbrev N_need_width : List Str := ["width"]
theorem sc_need_width : FnScope ["width"] ["width"] (defScope s_need_width) := ⟨rfl, rfl, rfl, by decide +kernel, rfl, by decide +kernel, by decide +kernel⟩
theorem ok_need_width {f : Addr} {fd : FuncData} (T : Tx K mg)  (F : FunP K "need_width" "need_width" s_need_width f fd) : FnOk P w K mg base (L2.CX P w) 3 f fd ["width"] (sp_need_width K) := by
  refine F.ok sc_need_width (fun vs H Q E h => ?_) (fun cdv A outer s H vs Q E hr h => ?_)
  · repeat first | (obtain ⟨e, _⟩ := h; subst e; rfl; done) | (obtain ⟨_, h⟩ := h)
  refine ⟨_, (pss_one (ps_if (PW.pt (pw_or (pt_not (pt_val (pe_cX (cal_is_whole T) hr (by decide) rfl pU (pa_cons (pv 0) pa_nil)))) (pw_or1 (pt_not (pt_chain op_le op_le (pe_gint rfl (i_LEAST_WIDTH T)) (pv 0) (pe_gint rfl (i_GREATEST_WIDTH T))))))) (pss_one (ps_rX rfl tU (exc_NoWidth T) hr (by decide) rfl (pa_cons (pv 0) pa_nil))) pss_nil)), ?_⟩
  try dsimp only [cxK]
  obtain ⟨x, t, rfl, ht, hm, k⟩ := h
  walk_at "rd"
  refine ⟨x, t, rfl, ht, hm, ?_⟩
  walk_at "rd"
  rcases k with ⟨i, rfl, h4, h32, k⟩ | ⟨h1, h2, k⟩
  · have et : t = "int" := by
      cases ht with
      | base h => cases h; rfl
    subst et
    rw [show ("int" == "int") = true by decide]
    walk_at "rd"
    refine r_DT h4 ?_
    walk_at "rd"
    rw [decide_eq_true h32]
    walk_at "rd"
    exact k
  · by_cases et : t = "int"
    · subst et
      obtain ⟨i, rfl⟩ := h2 rfl
      have hb := (h1 i rfl).2
      rw [show ("int" == "int") = true by decide]
      walk_at "rd"
      refine r_iteD (fun h4 => ?_) (fun h4 => ?_)
      · walk_at "rd"
        rw [decide_eq_false (fun h32 => hb ⟨h4, h32⟩)]
        walk_at "rd"
        exact mk1 k
      · walk_at "rd"
        exact mk1 k
    · rw [show (t == "int") = false by simpa using et]
      walk_at "rd"
      exact mk1 k
theorem cal_need_width (T : Tx K mg) : CalX P w K mg base 3 "need_width" (sp_need_width K) [] := by
  obtain ⟨fd, F⟩ := fn_need_width T
  exact ⟨_, fd, _, [], ok_need_width T F, g_need_width T, F.kp, F.bindsN fun _ _ _ _ _ _ us hl => match us, hl with | [_], _ => rfl, .nil⟩

end
section
variable {P : Program} {w : World} {K : PySem.W.Frag} {mg : Str → Option Value} {base : Heap}
/-- a text of such signs alone, one at least -/
def areSigns (x s : Str) : Bool := !x.cps.toList.isEmpty && x.cps.toList.all fun c => decide (c ∈ s.cps.toList)
def sp_are_signs (K : PySem.W.Frag) : Sp := fun vs H Q _ => ∃ x s, vs = [.str x, .str s] ∧ Q (.bl (areSigns x s)) H
theorem empty_iff (x : Str) : x = "" ↔ x.cps.toList = [] := by
  constructor
  · rintro rfl; rfl
  · intro h
    obtain ⟨⟨l⟩⟩ := x
    have h' : l = [] := h
    rw [h'] <;> rfl
abbrev N_are_signs : List Str := ["text", "signs", "sign"]
theorem sc_are_signs : FnScope ["text", "signs", "sign"] ["text", "signs"] (defScope s_are_signs) := ⟨rfl, rfl, rfl, by decide +kernel, rfl, by decide +kernel, by decide +kernel⟩
theorem ok_are_signs {f : Addr} {fd : FuncData} (T : Tx K mg)  (F : FunP K "are_signs" "are_signs" s_are_signs f fd) : FnOk P w K mg base (L2.CX P w) 1 f fd ["text", "signs"] (sp_are_signs K) := by
  refine F.ok sc_are_signs (fun vs H Q E h => ?_) (fun cdv A outer s H vs Q E hr h => ?_)
  · repeat first | (obtain ⟨e, _⟩ := h; subst e; rfl; done) | (obtain ⟨_, h⟩ := h)
  refine ⟨_, (pss_cons (ps_if (pt_cmpR op_eq (pv 0) pe_str (nomark _)) (pss_one (ps_ret pe_bl)) pss_nil)
  (pss_cons (ps_for oU rfl (pi_str (pv 0)) (pg_name (i := 2) sc_are_signs.nd rfl (Or.inl rfl))
  (pss_one (ps_if (pt_cmpR op_notIn_sign (pv 2) (pv 1) (by with_unfolding_all rfl)) (pss_one (ps_ret pe_bl)) pss_nil)))
  (pss_one (ps_ret pe_bl)))), ?_⟩
  try dsimp only [cxK]
  obtain ⟨x, s, rfl, k⟩ := h
  walk_at "rd"
  refine r_iteD (fun e => ?_) (fun e => ?_)
  · walk_at "rd"
    rw [empty_iff] at e
    unfold areSigns at k
    rw [e] at k
    exact k
  · rw [empty_iff] at e
    walk_at "rd"
    refine r_forStr ?_ mono_var
    walk_at "rd"
    refine ⟨fun i σ' H' => (∃ v, σ' = [some (.str x), some (.str s), v]) ∧ H' = H ∧ ∀ c ∈ x.cps.toList.take i, c ∈ s.cps.toList, ⟨⟨_, rfl⟩, rfl, by simp⟩, ?_, ?_⟩
    · rintro i c σ' H' hc ⟨⟨v, rfl⟩, rfl, hall⟩
      walk_at "rd"
      refine r_iteN (fun hn => ?_) (fun hy => ?_)
      · walk_at "rd"
        have : areSigns x s = false := by
          unfold areSigns
          have : (x.cps.toList.all fun c => decide (c ∈ s.cps.toList)) = false := by
            rw [List.all_eq_false]
            exact ⟨c, List.mem_of_getElem? hc, by simpa using hn⟩
          rw [this, Bool.and_false]
        rw [this] at k
        exact k
      · refine ⟨⟨_, rfl⟩, rfl, fun d hd => ?_⟩
        rw [List.take_add_one, hc] at hd
        rcases List.mem_append.mp hd with hd | hd
        · exact hall d hd
        · simp at hd
          rw [hd]; exact hy
    · rintro σ' H' ⟨⟨v, rfl⟩, rfl, hall⟩
      walk_at "rd"
      have : areSigns x s = true := by
        unfold areSigns
        rw [Bool.and_eq_true, List.all_eq_true]
        refine ⟨by simpa using e, fun c hc => ?_⟩
        rw [List.take_length] at hall
        simpa using hall c hc
      rw [this] at k
      exact k
theorem cal_are_signs (T : Tx K mg) : CalX P w K mg base 1 "are_signs" (sp_are_signs K) [] := by
  obtain ⟨fd, F⟩ := fn_are_signs T
  exact ⟨_, fd, _, [], ok_are_signs T F, g_are_signs T, F.kp, F.bindsN fun _ _ _ _ _ _ us hl => match us, hl with | [_, _], _ => rfl, .nil⟩

end
section
variable {P : Program} {w : World} {K : PySem.W.Frag} {mg : Str → Option Value} {base : Heap}
def F_bb : List Str := ["add", "sub", "addstop", "substop", "low", "high", "less", "same", "over"]
def F_bk : List Str := ["left", "right"]
def F_bn : List Str := ["rest", "part"]
def F_b : List Str := ["copy", "pick"]
def F_w : List Str := ["div", "times"]
/-- the forms of the words behind a deed -/
def formOf (d : Str) : Str := if d ∈ F_bb then "bb" else if d ∈ F_bk then "bk" else if d ∈ F_bn then "bn" else if d ∈ F_b then (if d = "pick" then "bbb" else "b") else if d ∈ F_w then (if d = "times" then "brw" else "bnw") else if d = "mul" then "bbw" else ""
def sp_form_of (K : PySem.W.Frag) : Sp := fun vs H Q _ => ∃ d, vs = [.str d] ∧ Rt H Q (.str (formOf d))
abbrev N_form_of : List Str := ["deed"]
theorem sc_form_of : FnScope ["deed"] ["deed"] (defScope s_form_of) := ⟨rfl, rfl, rfl, by decide +kernel, rfl, by decide +kernel, by decide +kernel⟩
theorem ok_form_of {f : Addr} {fd : FuncData} (T : Tx K mg)  (F : FunP K "form_of" "form_of" s_form_of f fd) : FnOk P w K mg base (L2.CX P w) 1 f fd ["deed"] (sp_form_of K) := by
  refine F.ok sc_form_of (fun vs H Q E h => ?_) (fun cdv A outer s H vs Q E hr h => ?_)
  · repeat first | (obtain ⟨e, _⟩ := h; subst e; rfl; done) | (obtain ⟨_, h⟩ := h)
  refine ⟨_, (pss_cons (ps_if (pt_cmpR op_in_seq (pv 0) (pe_tup (pa_cons pe_str (pa_cons pe_str (pa_cons pe_str (pa_cons pe_str (pa_cons pe_str (pa_cons pe_str (pa_cons pe_str (pa_cons pe_str (pa_cons pe_str pa_nil)))))))))) (by with_unfolding_all rfl)) (pss_one (ps_ret pe_str)) pss_nil)
  (pss_cons (ps_if (pt_cmpR op_in_seq (pv 0) (pe_tup (pa_cons pe_str (pa_cons pe_str pa_nil))) (by with_unfolding_all rfl)) (pss_one (ps_ret pe_str)) pss_nil)
  (pss_cons (ps_if (pt_cmpR op_in_seq (pv 0) (pe_tup (pa_cons pe_str (pa_cons pe_str pa_nil))) (by with_unfolding_all rfl)) (pss_one (ps_ret pe_str)) pss_nil)
  (pss_cons (ps_if (pt_cmpR op_in_seq (pv 0) (pe_tup (pa_cons pe_str (pa_cons pe_str pa_nil))) (by with_unfolding_all rfl)) (pss_one (ps_ret (pe_ix ix_list (pe_lst (pa_cons pe_str (pa_cons pe_str pa_nil))) (pe_callTy call_int1 (by rfl) (fr_int T) (by decide +kernel) (pa_cons (pe_cmpR op_eq (pv 0) pe_str (nomark _)) pa_nil)) (fun _ _ => rfl)))) pss_nil)
  (pss_cons (ps_if (pt_cmpR op_in_seq (pv 0) (pe_tup (pa_cons pe_str (pa_cons pe_str pa_nil))) (by with_unfolding_all rfl)) (pss_one (ps_ret (pe_ix ix_list (pe_lst (pa_cons pe_str (pa_cons pe_str pa_nil))) (pe_callTy call_int1 (by rfl) (fr_int T) (by decide +kernel) (pa_cons (pe_cmpR op_eq (pv 0) pe_str (nomark _)) pa_nil)) (fun _ _ => rfl)))) pss_nil)
  (pss_cons (ps_if (pt_cmpR op_eq (pv 0) pe_str (nomark _)) (pss_one (ps_ret pe_str)) pss_nil)
  (pss_one (ps_ret pe_str)))))))), ?_⟩
  try dsimp only [cxK]
  obtain ⟨d, rfl, k⟩ := h
  walk_at "rd"
  refine r_inNew F_bb (by decide) fun q1 H1 _ s1 => ?_
  walk_at "rd"
  refine r_iteD (fun e => ?_) (fun e1 => ?_)
  · walk_at "rd"
    exact (by unfold formOf at k; rw [if_pos e] at k; exact k.go s1)
  unfold formOf at k
  rw [if_neg e1] at k
  walk_at "rd"
  refine r_inNew F_bk (by decide) fun q2 H2 _ s2 => ?_
  walk_at "rd"
  refine r_iteD (fun e => ?_) (fun e2 => ?_)
  · walk_at "rd"
    exact (by rw [if_pos e] at k; exact k.go (s1.trans s2))
  rw [if_neg e2] at k
  walk_at "rd"
  refine r_inNew F_bn (by decide) fun q3 H3 _ s3 => ?_
  walk_at "rd"
  have s13 := (s1.trans s2).trans s3
  refine r_iteD (fun e => ?_) (fun e3 => ?_)
  · walk_at "rd"
    exact (by rw [if_pos e] at k; exact k.go s13)
  rw [if_neg e3] at k
  walk_at "rd"
  refine r_inNew F_b (by decide) fun q4 H4 _ s4 => ?_
  walk_at "rd"
  have s14 := s13.trans s4
  refine r_iteD (fun e => ?_) (fun e4 => ?_)
  · walk_at "rd"
    refine r_newL fun q hq => ?_
    walk_at "rd"
    refine r_intB ?_
    rw [if_pos e] at k
    by_cases hp : d = "pick"
    · rw [decide_eq_true hp]
      refine r_ixL (SqL.of upd_same) at1 ?_
      rw [if_pos hp] at k
      exact k.go (s14.new' hq)
    · rw [decide_eq_false hp]
      refine r_ixL (SqL.of upd_same) at0 ?_
      rw [if_neg hp] at k
      exact k.go (s14.new' hq)
  rw [if_neg e4] at k
  walk_at "rd"
  refine r_inNew F_w (by decide) fun q5 H5 _ s5 => ?_
  walk_at "rd"
  have s15 := s14.trans s5
  refine r_iteD (fun e => ?_) (fun e5 => ?_)
  · walk_at "rd"
    refine r_newL fun q hq => ?_
    walk_at "rd"
    refine r_intB ?_
    rw [if_pos e] at k
    by_cases hp : d = "times"
    · rw [decide_eq_true hp]
      refine r_ixL (SqL.of upd_same) at1 ?_
      rw [if_pos hp] at k
      exact k.go (s15.new' hq)
    · rw [decide_eq_false hp]
      refine r_ixL (SqL.of upd_same) at0 ?_
      rw [if_neg hp] at k
      exact k.go (s15.new' hq)
  rw [if_neg e5] at k
  walk_at "rd"
  refine r_iteD (fun e => ?_) (fun e6 => ?_)
  · walk_at "rd"
    exact (by rw [if_pos e] at k; exact k.go s15)
  · walk_at "rd"
    exact (by rw [if_neg e6] at k; exact k.go s15)
theorem cal_form_of (T : Tx K mg) : CalX P w K mg base 1 "form_of" (sp_form_of K) [] := by
  obtain ⟨fd, F⟩ := fn_form_of T
  exact ⟨_, fd, _, [], ok_form_of T F, g_form_of T, F.kp, F.bindsN fun _ _ _ _ _ _ us hl => match us, hl with | [_], _ => rfl, .nil⟩

end
section
variable {P : Program} {w : World} {K : PySem.W.Frag} {mg : Str → Option Value} {base : Heap}
def HEADSl : List Str := ["width", "in", "out", "plain", "signed", "point", "set", "repeat", "end"]
def WAYSl : List Str := ["down", "up", "cut", "near"]
def isName (x : Str) : Bool := decide (x.length ≤ 6) && areSigns x "abcdefghijklmnopqrstuvwxyz" && !decide (x ∈ HEADSl) && !decide (x ∈ WAYSl) && decide (formOf x = "")
def sp_is_name (K : PySem.W.Frag) : Sp := fun vs H Q _ => ∃ x, vs = [.str x] ∧ x.length ≤ 100000 ∧ Rt H Q (.bl (isName x))
abbrev N_is_name : List Str := ["text"]
theorem sc_is_name : FnScope ["text"] ["text"] (defScope s_is_name) := ⟨rfl, rfl, rfl, by decide +kernel, rfl, by decide +kernel, by decide +kernel⟩
theorem ok_is_name {f : Addr} {fd : FuncData} (T : Tx K mg)  (F : FunP K "is_name" "is_name" s_is_name f fd) : FnOk P w K mg base (L2.CX P w) 2 f fd ["text"] (sp_is_name K) := by
  refine F.ok sc_is_name (fun vs H Q E h => ?_) (fun cdv A outer s H vs Q E hr h => ?_)
  · repeat first | (obtain ⟨e, _⟩ := h; subst e; rfl; done) | (obtain ⟨_, h⟩ := h)
  refine ⟨_, (pss_cons (ps_if (PW.pt (pw_or (pt_cmpR op_gt (pe_callB call_len_str (by rfl) (fr_len T) (by decide +kernel) (pa_cons (pv 0) pa_nil)) (pe_gint rfl (i_LONGEST_NAME T)) (nomark _)) (pw_or1 (pt_not (pt_val (pe_cX (cal_are_signs T) hr (by decide) rfl pU (pa_cons (pv 0) (pa_cons pe_str pa_nil)))))))) (pss_one (ps_ret pe_bl)) pss_nil)
  (pss_one (ps_ret (pe_and (pe_cmpR op_notIn_seq (pv 0) (pe_gref rfl (g_HEADS T)) (by with_unfolding_all rfl)) (pe_and (pe_cmpR op_notIn_seq (pv 0) (pe_gref rfl (g_WAYS T)) (by with_unfolding_all rfl)) (pe_one (pe_cmpR op_eq (pe_cX (cal_form_of T) hr (by decide) rfl pU (pa_cons (pv 0) pa_nil)) pe_str (nomark _)))))))), ?_⟩
  try dsimp only [cxK]
  obtain ⟨x, rfl, hl, k⟩ := h
  unfold isName at k
  walk_at "rd"
  refine r_lenS hl ?_
  walk_at "rd"
  refine r_iteD (fun e => ?_) (fun e => ?_)
  · walk_at "rd"
    rw [show decide (x.length ≤ 6) = false from decide_eq_false (by omega)] at k
    exact k.go (Same.refl _)
  rw [show decide (x.length ≤ 6) = true from decide_eq_true (by omega)] at k
  walk_at "rd"
  refine ⟨x, _, rfl, ?_⟩
  walk_at "rd"
  cases hs : areSigns x "abcdefghijklmnopqrstuvwxyz"
  · walk_at "rd"
    rw [hs] at k
    exact k.go (Same.refl _)
  rw [hs] at k
  walk_at "rd"
  refine r_ninTp (l := HEADSl) (tp_HEADS T H) ?_
  walk_at "rd"
  by_cases h1 : x ∈ HEADSl
  · rw [decide_eq_true h1] at k ⊢
    walk_at "rd"
    exact k.go (Same.refl _)
  rw [decide_eq_false h1] at k ⊢
  walk_at "rd"
  refine r_ninTp (l := WAYSl) (tp_WAYS T H) ?_
  walk_at "rd"
  by_cases h2 : x ∈ WAYSl
  · rw [decide_eq_true h2] at k ⊢
    walk_at "rd"
    exact k.go (Same.refl _)
  rw [decide_eq_false h2] at k ⊢
  walk_at "rd"
  refine ⟨x, rfl, fun H1 s1 => ?_⟩
  walk_at "rd"
  exact k.go s1
theorem cal_is_name (T : Tx K mg) : CalX P w K mg base 2 "is_name" (sp_is_name K) [] := by
  obtain ⟨fd, F⟩ := fn_is_name T
  exact ⟨_, fd, _, [], ok_is_name T F, g_is_name T, F.kp, F.bindsN fun _ _ _ _ _ _ us hl => match us, hl with | [_], _ => rfl, .nil⟩

end
section
variable {P : Program} {w : World} {K : PySem.W.Frag} {mg : Str → Option Value} {base : Heap}
def DIG : Str := "0123456789"
theorem dig_mem {c : Nat} (h : c ∈ DIG.cps.toList) : (decide (48 ≤ c) && decide (c ≤ 57)) = true := by
  have e : DIG.cps.toList = [48, 49, 50, 51, 52, 53, 54, 55, 56, 57] := by decide +kernel
  rw [e] at h
  simp only [List.mem_cons, List.not_mem_nil, or_false] at h
  simp only [Bool.and_eq_true, decide_eq_true_eq]
  omega
theorem digits_int {x : Str} (h : areSigns x DIG = true) (hl : x.length ≤ 640) : PySem.intText? x = some ((NumText.digitsVal x.cps.toList : Nat) : Int) := by
  unfold areSigns at h
  obtain ⟨h1, h2⟩ := Bool.and_eq_true_iff.mp h
  have e : x = SX.S x.cps.toList := (SX.S_tl x).symm
  rw [e]
  refine SX.int_S ?_ ?_ ?_
  · rw [List.all_eq_true] at h2 ⊢
    exact fun c hc => dig_mem (by simpa using h2 c hc)
  · intro z; rw [z] at h1; cases h1
  · have : x.cps.toList.length = x.length := Array.length_toList
    omega
/-- the number that a text writes plainly -/
def numberIn (x : Str) (lo hi : Int) : Option Int :=
  if decide (x.length ≤ 10) && areSigns x DIG && !(decide (x.cps.toList.head? = some 48) && decide (1 < x.length)) then
    (if lo ≤ ((NumText.digitsVal x.cps.toList : Nat) : Int) ∧ ((NumText.digitsVal x.cps.toList : Nat) : Int) ≤ hi then some ((NumText.digitsVal x.cps.toList : Nat) : Int) else none) else none
/-- a number or None -/
def oI : Option Int → V
  | some i => .int i
  | none => .non
def sp_number_in (K : PySem.W.Frag) : Sp := fun vs H Q _ => ∃ x lo hi, vs = [.str x, .int lo, .int hi] ∧ x.length ≤ 100000 ∧ Rt H Q (oI (numberIn x lo hi))
abbrev N_number_in : List Str := ["text", "low", "high"]
theorem sc_number_in : FnScope ["text", "low", "high"] ["text", "low", "high"] (defScope s_number_in) := ⟨rfl, rfl, rfl, by decide +kernel, rfl, by decide +kernel, by decide +kernel⟩
theorem ok_number_in {f : Addr} {fd : FuncData} (T : Tx K mg)  (F : FunP K "number_in" "number_in" s_number_in f fd) : FnOk P w K mg base (L2.CX P w) 2 f fd ["text", "low", "high"] (sp_number_in K) := by
  refine F.ok sc_number_in (fun vs H Q E h => ?_) (fun cdv A outer s H vs Q E hr h => ?_)
  · repeat first | (obtain ⟨e, _⟩ := h; subst e; rfl; done) | (obtain ⟨_, h⟩ := h)
  refine ⟨_, (pss_cons (ps_if (PW.pt (pw_or (pt_cmpR op_gt (pe_callB call_len_str (by rfl) (fr_len T) (by decide +kernel) (pa_cons (pv 0) pa_nil)) (pe_gint rfl (i_LONGEST_NUMBER T)) (nomark _)) (pw_or (pt_not (pt_val (pe_cX (cal_are_signs T) hr (by decide) rfl pU (pa_cons (pv 0) (pa_cons pe_str pa_nil))))) (pw_or1 (PW.pt (pw_and (pt_cmpR op_eq (pe_ix ix_str (pv 0) pe_int (fun _ _ => rfl)) pe_str (nomark _)) (pw_and1 (pt_cmpR op_gt (pe_callB call_len_str (by rfl) (fr_len T) (by decide +kernel) (pa_cons (pv 0) pa_nil)) pe_int (nomark _))))))))) (pss_one (ps_ret pe_non)) pss_nil)
  (pss_cons (ps_if (pt_not (pt_chain op_le op_le (pv 1) (pe_callTy call_int_str (by rfl) (fr_int T) (by decide +kernel) (pa_cons (pv 0) pa_nil)) (pv 2))) (pss_one (ps_ret pe_non)) pss_nil)
  (pss_one (ps_ret (pe_callTy call_int_str (by rfl) (fr_int T) (by decide +kernel) (pa_cons (pv 0) pa_nil)))))), ?_⟩
  try dsimp only [cxK]
  obtain ⟨x, lo, hi, rfl, hl, k⟩ := h
  unfold numberIn at k
  walk_at "rds"
  refine r_ifB (!(decide (x.length ≤ 10) && areSigns x DIG && !(decide (x.cps.toList.head? = some 48) && decide (1 < x.length)))) (fun B kB => ?_) (fun H1 s1 => ?_)
  · walk_at "rd"
    refine r_lenS hl ?_
    walk_at "rd"
    refine r_iteD (fun e => ?_) (fun e => ?_)
    · rw [show decide (x.length ≤ 10) = false from decide_eq_false (by omega)] at kB
      exact kB _ (Same.refl _)
    rw [show decide (x.length ≤ 10) = true from decide_eq_true (by omega)] at kB
    walk_at "rd"
    refine ⟨x, _, rfl, ?_⟩
    walk_at "rd"
    rw [show ("0123456789" : Str) = DIG from rfl]
    cases hs : areSigns x DIG
    · walk_at "rd"
      rw [hs] at kB
      exact kB _ (Same.refl _)
    rw [hs] at kB
    walk_at "rd"
    obtain ⟨c, r, hx⟩ : ∃ c r, x.cps.toList = c :: r := by
      unfold areSigns at hs
      cases h : x.cps.toList with
      | nil => rw [h] at hs; cases hs
      | cons c r => exact ⟨c, r, rfl⟩
    refine r_ixS hl (by rw [hx]; exact at0) ?_
    have ec : decide (x.cps.toList.head? = some 48) = decide ((⟨#[c]⟩ : Str) = "0") := by
      rw [hx]
      have e0 : ("0" : Str) = ⟨#[48]⟩ := by decide +kernel
      rw [e0]
      by_cases h : c = 48
      · subst h; simp
      · have h2 : ¬ (⟨#[c]⟩ : Str) = ⟨#[48]⟩ := fun z => h (by injection z with z; injection z with z; injection z)
        rw [decide_eq_false h2]
        simpa using h
    rw [ec] at kB
    walk_at "rd"
    refine r_iteD (fun e1 => ?_) (fun e1 => ?_)
    · rw [decide_eq_true e1] at kB
      walk_at "rd"
      refine r_lenS hl ?_
      walk_at "rd"
      have e2 : decide ((1 : Int) < (x.length : Int)) = decide (1 < x.length) := by
        by_cases h : 1 < x.length
        · rw [decide_eq_true h, decide_eq_true (by omega)]
        · rw [decide_eq_false h, decide_eq_false (by omega)]
      rw [e2]
      have k2 := kB H (Same.refl _)
      cases h3 : decide (1 < x.length) <;> rw [h3] at k2 <;> exact k2
    · rw [decide_eq_false e1] at kB
      exact kB _ (Same.refl _)
  cases hc : (decide (x.length ≤ 10) && areSigns x DIG && !(decide (x.cps.toList.head? = some 48) && decide (1 < x.length)))
  · rw [hc] at k
    walk_at "rd"
    exact k.go s1
  rw [hc] at k
  have hc2 := Bool.and_eq_true_iff.mp (Bool.and_eq_true_iff.mp hc).1
  have num := digits_int hc2.2 (by have := of_decide_eq_true hc2.1; omega)
  have hl2 : x.length ≤ 640 := by have := of_decide_eq_true hc2.1; omega
  walk_at "rd"
  refine r_intS num hl2 ?_
  walk_at "rd"
  refine r_iteD (fun e1 => ?_) (fun e1 => ?_)
  · walk_at "rd"
    by_cases e2 : ((NumText.digitsVal x.cps.toList : Nat) : Int) ≤ hi
    · rw [decide_eq_true e2]
      walk_at "rd"
      refine r_intS num hl2 ?_
      have k2 := k.go s1
      rw [if_pos rfl, if_pos ⟨e1, e2⟩] at k2
      exact k2
    · rw [decide_eq_false e2]
      walk_at "rd"
      have k2 := k.go s1
      rw [if_pos rfl, if_neg (fun z => e2 z.2)] at k2
      exact k2
  · walk_at "rd"
    have k2 := k.go s1
    rw [if_pos rfl, if_neg (fun z => e1 z.1)] at k2
    exact k2
theorem cal_number_in (T : Tx K mg) : CalX P w K mg base 2 "number_in" (sp_number_in K) [] := by
  obtain ⟨fd, F⟩ := fn_number_in T
  exact ⟨_, fd, _, [], ok_number_in T F, g_number_in T, F.kp, F.bindsN fun _ _ _ _ _ _ us hl => match us, hl with | [_, _, _], _ => rfl, .nil⟩

end
section
variable {P : Program} {w : World} {K : PySem.W.Frag} {mg : Str → Option Value} {base : Heap}
theorem clsK (T : Tx K mg) : ∀ t, Cls K (clsOf K t)
  | .plain => c_Plain T
  | .signed => c_Signed T
  | .point => c_Pointed T
theorem naK_width (T : Tx K mg) : ∀ t, NoAttr K (clsOf K t) "width"
  | .plain => na_Plain_width T
  | .signed => na_Signed_width T
  | .point => na_Pointed_width T
theorem naK_point (T : Tx K mg) : ∀ t, NoAttr K (clsOf K t) "point"
  | .plain => na_Plain_point T
  | .signed => na_Signed_point T
  | .point => na_Pointed_point T
theorem tag_plain (T : Tx K mg) {t : KTag} (h : He.ga K "Plain" = clsOf K t) : t = .plain := by
  cases t
  · rfl
  · exact absurd h (ne_Plain_Signed T)
  · exact absurd h (ne_Plain_Pointed T)
theorem tag_signed (T : Tx K mg) {t : KTag} (h : He.ga K "Signed" = clsOf K t) : t = .signed := by
  cases t
  · exact absurd h.symm (ne_Plain_Signed T)
  · rfl
  · exact absurd h (ne_Signed_Pointed T)
theorem tag_point (T : Tx K mg) {t : KTag} (h : He.ga K "Pointed" = clsOf K t) : t = .point := by
  cases t
  · exact absurd h.symm (ne_Plain_Pointed T)
  · exact absurd h.symm (ne_Signed_Pointed T)
  · rfl
/-- a class that takes its method from Kind -/
def OfKind (K : PySem.W.Frag) (C : Addr) : Prop := C = He.ga K "Signed" ∨ C = He.ga K "Pointed"
theorem OfKind.tag (T : Tx K mg) {C : Addr} (h : OfKind K C) {t : KTag} (e : C = clsOf K t) : t ≠ .plain := by
  rintro rfl
  rcases h with h | h
  · exact ne_Plain_Signed T (by rw [← h, e]; rfl)
  · exact ne_Plain_Pointed T (by rw [← h, e]; rfl)

end
section
variable {P : Program} {w : World} {K : PySem.W.Frag} {mg : Str → Option Value} {base : Heap}

abbrev N_Plain_word : List Str := ["self"]
theorem sc_Plain_word : FnScope ["self"] ["self"] (defScope s_Plain_word) := ⟨rfl, rfl, rfl, by decide +kernel, rfl, by decide +kernel, by decide +kernel⟩
theorem ok_Plain_word {f : Addr} {fd : FuncData} (T : Tx K mg) {q0 : Bool} (F : FunP K "word" "Plain.word" s_Plain_word f fd) : FnOk P w K mg base (L2.CX P w) 1 f fd ["self"] (sp_Kind_word K (He.ga K "Plain")) := by
  refine F.ok sc_Plain_word (fun vs H Q E h => ?_) (fun cdv A outer s H vs Q E hr h => ?_)
  · repeat first | (obtain ⟨e, _⟩ := h; subst e; rfl; done) | (obtain ⟨_, h⟩ := h)
  refine ⟨_, (pss_one (ps_ret pe_str)), ?_⟩
  try dsimp only [cxK]
  obtain ⟨a, k, rfl, ha, hc, kq⟩ := h
  walk_at "rd"
  rw [tag_plain T hc] at kq
  exact kq

end
section
variable {P : Program} {w : World} {K : PySem.W.Frag} {mg : Str → Option Value} {base : Heap}

abbrev N_Pointed_word : List Str := ["self"]
theorem sc_Pointed_word : FnScope ["self"] ["self"] (defScope s_Pointed_word) := ⟨rfl, rfl, rfl, by decide +kernel, rfl, by decide +kernel, by decide +kernel⟩
theorem ok_Pointed_word {f : Addr} {fd : FuncData} (T : Tx K mg) {q0 : Bool} (F : FunP K "word" "Pointed.word" s_Pointed_word f fd) : FnOk P w K mg base (L2.CX P w) 1 f fd ["self"] (sp_Kind_word K (He.ga K "Pointed")) := by
  refine F.ok sc_Pointed_word (fun vs H Q E h => ?_) (fun cdv A outer s H vs Q E hr h => ?_)
  · repeat first | (obtain ⟨e, _⟩ := h; subst e; rfl; done) | (obtain ⟨_, h⟩ := h)
  refine ⟨_, (pss_one (ps_ret pe_str)), ?_⟩
  try dsimp only [cxK]
  obtain ⟨a, k, rfl, ha, hc, kq⟩ := h
  walk_at "rd"
  rw [tag_point T hc] at kq
  exact kq

end
section
variable {P : Program} {w : World} {K : PySem.W.Frag} {mg : Str → Option Value} {base : Heap}

abbrev N_Kind_word : List Str := ["self"]
theorem sc_Kind_word : FnScope ["self"] ["self"] (defScope s_Kind_word) := ⟨rfl, rfl, rfl, by decide +kernel, rfl, by decide +kernel, by decide +kernel⟩
theorem ok_Kind_word {f : Addr} {fd : FuncData} (T : Tx K mg) {q0 : Bool} (F : FunP K "word" "Kind.word" s_Kind_word f fd) : FnOk P w K mg base (L2.CX P w) 1 f fd ["self"] (sp_Kind_word K (He.ga K "Signed")) := by
  refine F.ok sc_Kind_word (fun vs H Q E h => ?_) (fun cdv A outer s H vs Q E hr h => ?_)
  · repeat first | (obtain ⟨e, _⟩ := h; subst e; rfl; done) | (obtain ⟨_, h⟩ := h)
  refine ⟨_, (pss_one (ps_ret pe_str)), ?_⟩
  try dsimp only [cxK]
  obtain ⟨a, k, rfl, ha, hc, kq⟩ := h
  walk_at "rd"
  rw [tag_signed T hc] at kq
  exact kq
theorem met_Kind_word (T : Tx K mg) : ∀ C, In_Kind K C → MetX P w K mg base 1 C "word" (sp_Kind_word K C) := by
  rintro C (rfl | rfl | rfl)
  · obtain ⟨fd, F⟩ := fn_Plain_word T
    exact ⟨_, fd, _, c_Plain T, m_Plain_word T, ok_Plain_word (q0 := true) T F, F.bindsN fun _ _ _ _ _ _ us hl => match us, hl with | [_], _ => rfl⟩
  · obtain ⟨fd, F⟩ := fn_Signed__word T
    exact ⟨_, fd, _, c_Signed T, m_Signed_word T, ok_Kind_word (q0 := true) T F, F.bindsN fun _ _ _ _ _ _ us hl => match us, hl with | [_], _ => rfl⟩
  · obtain ⟨fd, F⟩ := fn_Pointed_word T
    exact ⟨_, fd, _, c_Pointed T, m_Pointed_word T, ok_Pointed_word (q0 := true) T F, F.bindsN fun _ _ _ _ _ _ us hl => match us, hl with | [_], _ => rfl⟩
end
section
variable {P : Program} {w : World} {K : PySem.W.Frag} {mg : Str → Option Value} {base : Heap}

abbrev N_Plain_least : List Str := ["self"]
theorem sc_Plain_least : FnScope ["self"] ["self"] (defScope s_Plain_least) := ⟨rfl, rfl, rfl, by decide +kernel, rfl, by decide +kernel, by decide +kernel⟩
theorem ok_Plain_least {f : Addr} {fd : FuncData} (T : Tx K mg) {q0 : Bool} (F : FunP K "least" "Plain.least" s_Plain_least f fd) : FnOk P w K mg base (L2.CX P w) 1 f fd ["self"] (sp_Kind_least K (He.ga K "Plain")) := by
  refine F.ok sc_Plain_least (fun vs H Q E h => ?_) (fun cdv A outer s H vs Q E hr h => ?_)
  · repeat first | (obtain ⟨e, _⟩ := h; subst e; rfl; done) | (obtain ⟨_, h⟩ := h)
  refine ⟨_, (pss_one (ps_ret pe_int)), ?_⟩
  try dsimp only [cxK]
  obtain ⟨a, k, rfl, ha, hc, kq⟩ := h
  walk_at "rd"
  unfold KindM.least at kq
  rw [if_pos (tag_plain T hc)] at kq
  exact kq

end
section
variable {P : Program} {w : World} {K : PySem.W.Frag} {mg : Str → Option Value} {base : Heap}

abbrev N_Kind_least : List Str := ["self"]
theorem sc_Kind_least : FnScope ["self"] ["self"] (defScope s_Kind_least) := ⟨rfl, rfl, rfl, by decide +kernel, rfl, by decide +kernel, by decide +kernel⟩
theorem ok_Kind_least {f : Addr} {fd : FuncData} (T : Tx K mg) {C : Addr} (hC : OfKind K C) (F : FunP K "least" "Kind.least" s_Kind_least f fd) : FnOk P w K mg base (L2.CX P w) 1 f fd ["self"] (sp_Kind_least K C) := by
  refine F.ok sc_Kind_least (fun vs H Q E h => ?_) (fun cdv A outer s H vs Q E hr h => ?_)
  · repeat first | (obtain ⟨e, _⟩ := h; subst e; rfl; done) | (obtain ⟨_, h⟩ := h)
  refine ⟨_, (pss_one (ps_ret (pe_op op_sub pe_int (pe_op op_shl pe_int (pe_op op_sub (pe_fld (pv 0) rfl) pe_int))))), ?_⟩
  try dsimp only [cxK]
  obtain ⟨a, k, rfl, ha, hc, kq⟩ := h
  walk_at "rd"
  refine r_fldK ha (clsK T _) (naK_width T _) rfl ?_
  walk_at "rd"
  have h4 := ha.1.w4
  have h32 := ha.1.w32
  refine r_I ⟨by omega, by omega, by decide⟩ ?_
  walk_at "rd"
  unfold KindM.least KindM.Hf at kq
  rw [if_neg (hC.tag T hc)] at kq
  rw [Int.one_mul]
  exact kq
theorem met_Kind_least (T : Tx K mg) : ∀ C, In_Kind K C → MetX P w K mg base 1 C "least" (sp_Kind_least K C) := by
  rintro C (rfl | rfl | rfl)
  · obtain ⟨fd, F⟩ := fn_Plain_least T
    exact ⟨_, fd, _, c_Plain T, m_Plain_least T, ok_Plain_least (q0 := true) T F, F.bindsN fun _ _ _ _ _ _ us hl => match us, hl with | [_], _ => rfl⟩
  · obtain ⟨fd, F⟩ := fn_Signed__least T
    exact ⟨_, fd, _, c_Signed T, m_Signed_least T, ok_Kind_least T (.inl rfl) F, F.bindsN fun _ _ _ _ _ _ us hl => match us, hl with | [_], _ => rfl⟩
  · obtain ⟨fd, F⟩ := fn_Pointed__least T
    exact ⟨_, fd, _, c_Pointed T, m_Pointed_least T, ok_Kind_least T (.inr rfl) F, F.bindsN fun _ _ _ _ _ _ us hl => match us, hl with | [_], _ => rfl⟩
end
section
variable {P : Program} {w : World} {K : PySem.W.Frag} {mg : Str → Option Value} {base : Heap}

abbrev N_Plain_greatest : List Str := ["self"]
theorem sc_Plain_greatest : FnScope ["self"] ["self"] (defScope s_Plain_greatest) := ⟨rfl, rfl, rfl, by decide +kernel, rfl, by decide +kernel, by decide +kernel⟩
theorem ok_Plain_greatest {f : Addr} {fd : FuncData} (T : Tx K mg) {q0 : Bool} (F : FunP K "greatest" "Plain.greatest" s_Plain_greatest f fd) : FnOk P w K mg base (L2.CX P w) 1 f fd ["self"] (sp_Kind_greatest K (He.ga K "Plain")) := by
  refine F.ok sc_Plain_greatest (fun vs H Q E h => ?_) (fun cdv A outer s H vs Q E hr h => ?_)
  · repeat first | (obtain ⟨e, _⟩ := h; subst e; rfl; done) | (obtain ⟨_, h⟩ := h)
  refine ⟨_, (pss_one (ps_ret (pe_op op_sub (pe_op op_shl pe_int (pe_fld (pv 0) rfl)) pe_int))), ?_⟩
  try dsimp only [cxK]
  obtain ⟨a, k, rfl, ha, hc, kq⟩ := h
  walk_at "rd"
  refine r_fldK ha (clsK T _) (naK_width T _) rfl ?_
  walk_at "rd"
  have h4 := ha.1.w4
  have h32 := ha.1.w32
  refine r_I ⟨by omega, by omega, by decide⟩ ?_
  walk_at "rd"
  unfold KindM.greatest KindM.B at kq
  rw [if_pos (tag_plain T hc)] at kq
  rw [Int.one_mul]
  exact kq

end
section
variable {P : Program} {w : World} {K : PySem.W.Frag} {mg : Str → Option Value} {base : Heap}

abbrev N_Kind_greatest : List Str := ["self"]
theorem sc_Kind_greatest : FnScope ["self"] ["self"] (defScope s_Kind_greatest) := ⟨rfl, rfl, rfl, by decide +kernel, rfl, by decide +kernel, by decide +kernel⟩
theorem ok_Kind_greatest {f : Addr} {fd : FuncData} (T : Tx K mg) {C : Addr} (hC : OfKind K C) (F : FunP K "greatest" "Kind.greatest" s_Kind_greatest f fd) : FnOk P w K mg base (L2.CX P w) 1 f fd ["self"] (sp_Kind_greatest K C) := by
  refine F.ok sc_Kind_greatest (fun vs H Q E h => ?_) (fun cdv A outer s H vs Q E hr h => ?_)
  · repeat first | (obtain ⟨e, _⟩ := h; subst e; rfl; done) | (obtain ⟨_, h⟩ := h)
  refine ⟨_, (pss_one (ps_ret (pe_op op_sub (pe_op op_shl pe_int (pe_op op_sub (pe_fld (pv 0) rfl) pe_int)) pe_int))), ?_⟩
  try dsimp only [cxK]
  obtain ⟨a, k, rfl, ha, hc, kq⟩ := h
  walk_at "rd"
  refine r_fldK ha (clsK T _) (naK_width T _) rfl ?_
  walk_at "rd"
  have h4 := ha.1.w4
  have h32 := ha.1.w32
  refine r_I ⟨by omega, by omega, by decide⟩ ?_
  walk_at "rd"
  unfold KindM.greatest KindM.Hf at kq
  rw [if_neg (hC.tag T hc)] at kq
  rw [Int.one_mul]
  exact kq
theorem met_Kind_greatest (T : Tx K mg) : ∀ C, In_Kind K C → MetX P w K mg base 1 C "greatest" (sp_Kind_greatest K C) := by
  rintro C (rfl | rfl | rfl)
  · obtain ⟨fd, F⟩ := fn_Plain_greatest T
    exact ⟨_, fd, _, c_Plain T, m_Plain_greatest T, ok_Plain_greatest (q0 := true) T F, F.bindsN fun _ _ _ _ _ _ us hl => match us, hl with | [_], _ => rfl⟩
  · obtain ⟨fd, F⟩ := fn_Signed__greatest T
    exact ⟨_, fd, _, c_Signed T, m_Signed_greatest T, ok_Kind_greatest T (.inl rfl) F, F.bindsN fun _ _ _ _ _ _ us hl => match us, hl with | [_], _ => rfl⟩
  · obtain ⟨fd, F⟩ := fn_Pointed__greatest T
    exact ⟨_, fd, _, c_Pointed T, m_Pointed_greatest T, ok_Kind_greatest T (.inr rfl) F, F.bindsN fun _ _ _ _ _ _ us hl => match us, hl with | [_], _ => rfl⟩
end
section
variable {P : Program} {w : World} {K : PySem.W.Frag} {mg : Str → Option Value} {base : Heap}

abbrev N_Kind_is_count : List Str := ["self", "number"]
theorem sc_Kind_is_count : FnScope ["self", "number"] ["self", "number"] (defScope s_Kind_is_count) := ⟨rfl, rfl, rfl, by decide +kernel, rfl, by decide +kernel, by decide +kernel⟩
theorem ok_Kind_is_count {f : Addr} {fd : FuncData} (T : Tx K mg) {C : Addr} (F : FunP K "is_count" "Kind.is_count" s_Kind_is_count f fd) : FnOk P w K mg base (L2.CX P w) 2 f fd ["self", "number"] (sp_Kind_is_count K C) := by
  refine F.ok sc_Kind_is_count (fun vs H Q E h => ?_) (fun cdv A outer s H vs Q E hr h => ?_)
  · repeat first | (obtain ⟨e, _⟩ := h; subst e; rfl; done) | (obtain ⟨_, h⟩ := h)
  refine ⟨_, (pss_one (ps_ret (pe_chain op_le op_le (pe_mX0 (met_Kind_least T) hr (by decide) pU (pv 0)) (pv 1) (pe_mX0 (met_Kind_greatest T) hr (by decide) pU (pv 0))))), ?_⟩
  try dsimp only [cxK]
  obtain ⟨a, k, n, rfl, ha, kq⟩ := h
  unfold KindM.isCount at kq
  walk_at "rd"
  refine r_methK ha rfl ?_
  walk_at "rd"
  refine ⟨a, k, rfl, ha, rfl, ?_⟩
  walk_at "rd"
  refine r_iteD (fun h1 => ?_) (fun h1 => ?_)
  · rw [decide_eq_true h1] at kq
    walk_at "rd"
    refine r_methK ha rfl ?_
    walk_at "rd"
    refine ⟨a, k, rfl, ha, rfl, ?_⟩
    walk_at "rd"
    exact kq
  · rw [decide_eq_false h1] at kq
    exact kq
theorem met_Kind_is_count (T : Tx K mg) : ∀ C, In_Kind K C → MetX P w K mg base 2 C "is_count" (sp_Kind_is_count K C) := by
  rintro C (rfl | rfl | rfl)
  · obtain ⟨fd, F⟩ := fn_Plain__is_count T
    exact ⟨_, fd, _, c_Plain T, m_Plain_is_count T, ok_Kind_is_count T F, F.bindsN fun _ _ _ _ _ _ us hl => match us, hl with | [_, _], _ => rfl⟩
  · obtain ⟨fd, F⟩ := fn_Signed__is_count T
    exact ⟨_, fd, _, c_Signed T, m_Signed_is_count T, ok_Kind_is_count T F, F.bindsN fun _ _ _ _ _ _ us hl => match us, hl with | [_, _], _ => rfl⟩
  · obtain ⟨fd, F⟩ := fn_Pointed__is_count T
    exact ⟨_, fd, _, c_Pointed T, m_Pointed_is_count T, ok_Kind_is_count T F, F.bindsN fun _ _ _ _ _ _ us hl => match us, hl with | [_, _], _ => rfl⟩
end
section
variable {P : Program} {w : World} {K : PySem.W.Frag} {mg : Str → Option Value} {base : Heap}

abbrev N_Kind_count_of : List Str := ["self", "bits"]
theorem sc_Kind_count_of : FnScope ["self", "bits"] ["self", "bits"] (defScope s_Kind_count_of) := ⟨rfl, rfl, rfl, by decide +kernel, rfl, by decide +kernel, by decide +kernel⟩
theorem ok_Kind_count_of {f : Addr} {fd : FuncData} (T : Tx K mg) {C : Addr} (F : FunP K "count_of" "Kind.count_of" s_Kind_count_of f fd) : FnOk P w K mg base (L2.CX P w) 3 f fd ["self", "bits"] (sp_Kind_count_of K C) := by
  refine F.ok sc_Kind_count_of (fun vs H Q E h => ?_) (fun cdv A outer s H vs Q E hr h => ?_)
  · repeat first | (obtain ⟨e, _⟩ := h; subst e; rfl; done) | (obtain ⟨_, h⟩ := h)
  refine ⟨_, (pss_cons (ps_if (PW.pt (pw_or (pt_not (pt_val (pe_cX (cal_is_whole T) hr (by decide) rfl pU (pa_cons (pv 1) pa_nil)))) (pw_or1 (pt_not (pt_chain op_le op_lt pe_int (pv 1) (pe_op op_shl pe_int (pe_fld (pv 0) rfl))))))) (pss_one (ps_rX rfl tU (exc_NoWord T) hr (by decide) rfl (pa_cons (pv 1) pa_nil))) pss_nil)
  (pss_cons (ps_if (pt_cmpR op_gt (pv 1) (pe_mX0 (met_Kind_greatest T) hr (by decide) pU (pv 0)) (nomark _)) (pss_one (ps_ret (pe_op op_sub (pv 1) (pe_op op_shl pe_int (pe_fld (pv 0) rfl))))) pss_nil)
  (pss_one (ps_ret (pv 1))))), ?_⟩
  try dsimp only [cxK]
  obtain ⟨a, k, b, rfl, ha, h0, hB, kq⟩ := h
  have h4 := ha.1.w4
  have h32 := ha.1.w32
  walk_at "rds"
  refine r_ifB false (fun B kB => ?_) (fun H1 s1 => ?_)
  · walk_at "rd"
    refine ⟨.int b, "int", rfl, .base (.int b), by decide, ?_⟩
    walk_at "rd"
    rw [show ("int" == "int") = true by decide]
    walk_at "rd"
    refine r_DT h0 ?_
    walk_at "rd"
    refine r_fldK ha (clsK T _) (naK_width T _) rfl ?_
    walk_at "rd"
    refine r_I ⟨by omega, by omega, by decide⟩ ?_
    rw [Int.one_mul]
    walk_at "rd"
    have e : decide (b < 2 ^ k.w.toNat) = true := decide_eq_true hB
    rw [e]
    exact kB _ (Same.refl _)
  have ha1 := ha.on s1
  rw [if_neg (by decide)]
  walk_at "rd"
  refine r_methK ha1 rfl ?_
  walk_at "rd"
  refine ⟨a, k, rfl, ha1, rfl, ?_⟩
  walk_at "rd"
  unfold KindM.countOf at kq
  refine r_iteD (fun h1 => ?_) (fun h1 => ?_)
  · walk_at "rd"
    refine r_fldK ha1 (clsK T _) (naK_width T _) rfl ?_
    walk_at "rd"
    refine r_I ⟨by omega, by omega, by decide⟩ ?_
    rw [Int.one_mul]
    walk_at "rd"
    rw [if_pos h1] at kq
    exact kq.go s1
  · walk_at "rd"
    rw [if_neg h1] at kq
    exact kq.go s1
theorem met_Kind_count_of (T : Tx K mg) : ∀ C, In_Kind K C → MetX P w K mg base 3 C "count_of" (sp_Kind_count_of K C) := by
  rintro C (rfl | rfl | rfl)
  · obtain ⟨fd, F⟩ := fn_Plain__count_of T
    exact ⟨_, fd, _, c_Plain T, m_Plain_count_of T, ok_Kind_count_of T F, F.bindsN fun _ _ _ _ _ _ us hl => match us, hl with | [_, _], _ => rfl⟩
  · obtain ⟨fd, F⟩ := fn_Signed__count_of T
    exact ⟨_, fd, _, c_Signed T, m_Signed_count_of T, ok_Kind_count_of T F, F.bindsN fun _ _ _ _ _ _ us hl => match us, hl with | [_, _], _ => rfl⟩
  · obtain ⟨fd, F⟩ := fn_Pointed__count_of T
    exact ⟨_, fd, _, c_Pointed T, m_Pointed_count_of T, ok_Kind_count_of T F, F.bindsN fun _ _ _ _ _ _ us hl => match us, hl with | [_, _], _ => rfl⟩
end
section
variable {P : Program} {w : World} {K : PySem.W.Frag} {mg : Str → Option Value} {base : Heap}

abbrev N_Kind_bits_of : List Str := ["self", "count"]
theorem sc_Kind_bits_of : FnScope ["self", "count"] ["self", "count"] (defScope s_Kind_bits_of) := ⟨rfl, rfl, rfl, by decide +kernel, rfl, by decide +kernel, by decide +kernel⟩
theorem ok_Kind_bits_of {f : Addr} {fd : FuncData} (T : Tx K mg) {C : Addr} (F : FunP K "bits_of" "Kind.bits_of" s_Kind_bits_of f fd) : FnOk P w K mg base (L2.CX P w) 3 f fd ["self", "count"] (sp_Kind_bits_of K C) := by
  refine F.ok sc_Kind_bits_of (fun vs H Q E h => ?_) (fun cdv A outer s H vs Q E hr h => ?_)
  · repeat first | (obtain ⟨e, _⟩ := h; subst e; rfl; done) | (obtain ⟨_, h⟩ := h)
  refine ⟨_, (pss_cons (ps_if (PW.pt (pw_or (pt_not (pt_val (pe_cX (cal_is_whole T) hr (by decide) rfl pU (pa_cons (pv 1) pa_nil)))) (pw_or1 (pt_not (pt_val (pe_mX (met_Kind_is_count T) hr (by decide) pU (pv 0) (pa_cons (pv 1) pa_nil))))))) (pss_one (ps_rX rfl tU (exc_NoWord T) hr (by decide) rfl (pa_cons (pv 1) pa_nil))) pss_nil)
  (pss_one (ps_ret (pe_op op_and (pv 1) (pe_op op_sub (pe_op op_shl pe_int (pe_fld (pv 0) rfl)) pe_int))))), ?_⟩
  try dsimp only [cxK]
  obtain ⟨a, k, c, rfl, ha, hcn, kq⟩ := h
  have h4 := ha.1.w4
  have h32 := ha.1.w32
  walk_at "rd"
  refine ⟨.int c, "int", rfl, .base (.int c), by decide, ?_⟩
  walk_at "rd"
  rw [show ("int" == "int") = true by decide]
  walk_at "rd"
  refine r_methK ha rfl ?_
  walk_at "rd"
  refine ⟨a, k, c, rfl, ha, ?_⟩
  rw [hcn]
  walk_at "rd"
  refine r_fldK ha (clsK T _) (naK_width T _) rfl ?_
  walk_at "rd"
  refine r_I ⟨by omega, by omega, by decide⟩ ?_
  rw [Int.one_mul]
  walk_at "rd"
  rw [PySem.W.kbt_mask]
  exact kq
theorem met_Kind_bits_of (T : Tx K mg) : ∀ C, In_Kind K C → MetX P w K mg base 3 C "bits_of" (sp_Kind_bits_of K C) := by
  rintro C (rfl | rfl | rfl)
  · obtain ⟨fd, F⟩ := fn_Plain__bits_of T
    exact ⟨_, fd, _, c_Plain T, m_Plain_bits_of T, ok_Kind_bits_of T F, F.bindsN fun _ _ _ _ _ _ us hl => match us, hl with | [_, _], _ => rfl⟩
  · obtain ⟨fd, F⟩ := fn_Signed__bits_of T
    exact ⟨_, fd, _, c_Signed T, m_Signed_bits_of T, ok_Kind_bits_of T F, F.bindsN fun _ _ _ _ _ _ us hl => match us, hl with | [_, _], _ => rfl⟩
  · obtain ⟨fd, F⟩ := fn_Pointed__bits_of T
    exact ⟨_, fd, _, c_Pointed T, m_Pointed_bits_of T, ok_Kind_bits_of T F, F.bindsN fun _ _ _ _ _ _ us hl => match us, hl with | [_, _], _ => rfl⟩
end
section
variable {P : Program} {w : World} {K : PySem.W.Frag} {mg : Str → Option Value} {base : Heap}
theorem KindM.countOf_plain {k : KindM} {b : Int} (ht : k.tag = .plain) (h1 : b < k.B) : k.countOf b = b := by
  unfold KindM.countOf KindM.greatest
  rw [ht, if_pos rfl, if_neg (by omega)]
def sp_Kind_shown (K : PySem.W.Frag) (_ : Addr) : Sp := fun vs H Q _ => ∃ a k b, vs = [.ref a, .int b] ∧ KindAt K H a k ∧ k.tag = .plain ∧ 0 ≤ b ∧ b < k.B ∧ Rt H Q (.str (Str.ofString (toString b)))
abbrev N_Kind_shown : List Str := ["self", "bits", "count", "whole", "rest", "behind", "figure", "text"]
theorem sc_Kind_shown : FnScope ["self", "bits", "count", "whole", "rest", "behind", "figure", "text"] ["self", "bits"] (defScope s_Kind_shown) := ⟨rfl, rfl, rfl, by decide +kernel, rfl, by decide +kernel, by decide +kernel⟩
theorem ok_Kind_shown {f : Addr} {fd : FuncData} (T : Tx K mg) {C : Addr} (F : FunP K "shown" "Kind.shown" s_Kind_shown f fd) : FnOk P w K mg base (L2.CX P w) 4 f fd ["self", "bits"] (sp_Kind_shown K C) := by
  refine F.ok sc_Kind_shown (fun vs H Q E h => ?_) (fun cdv A outer s H vs Q E hr h => ?_)
  · repeat first | (obtain ⟨e, _⟩ := h; subst e; rfl; done) | (obtain ⟨_, h⟩ := h)
  refine ⟨_, (pss_cons (ps_set (i := 2) sc_Kind_shown.nd rfl (Or.inl rfl) (pe_mX (met_Kind_count_of T) hr (by decide) pU (pv 0) (pa_cons (pv 1) pa_nil)))
  (pss_cons (ps_asg (pe_callB call_divmod (by rfl) (fr_divmod T) (by decide +kernel) (pa_cons (pe_callB call_abs (by rfl) (fr_abs T) (by decide +kernel) (pa_cons (pv 2) pa_nil)) (pa_cons (pe_op op_shl pe_int (pe_fld (pv 0) rfl)) pa_nil))) (pg_tup rfl (pgs_cons (pg_name (i := 3) sc_Kind_shown.nd rfl (Or.inl rfl)) (pgs_cons (pg_name (i := 4) sc_Kind_shown.nd rfl (Or.inl rfl)) pgs_nil))))
  (pss_cons (ps_set (i := 5) sc_Kind_shown.nd rfl (Or.inl rfl) pe_str)
  (pss_cons (ps_while oU (pt_cmpR op_gt (pv 4) pe_int (nomark _)) pss_dead)
  (pss_cons (ps_set (i := 7) sc_Kind_shown.nd rfl (Or.inl rfl) (pe_callTy call_str_int (by rfl) (fr_str T) (by decide +kernel) (pa_cons (pv 3) pa_nil)))
  (pss_cons (ps_if (pt_cmpR op_ne (pv 5) pe_str (nomark _)) pss_dead pss_nil)
  (pss_cons (ps_if (pt_cmpR op_lt (pv 2) pe_int (nomark _)) pss_dead pss_nil)
  (pss_one (ps_ret (pv 7)))))))))), ?_⟩
  try dsimp only [cxK]
  obtain ⟨a, k, b, rfl, ha, ht, h0, h1, kq⟩ := h
  have hp := ha.1.p0 (by rw [ht]; decide)
  have hB := ha.1.Ble
  walk_at "rd"
  refine r_methK ha rfl ?_
  walk_at "rd"
  refine ⟨a, k, b, rfl, ha, h0, h1, fun H1 s1 => ?_⟩
  rw [KindM.countOf_plain ht h1]
  have ha1 := ha.on s1
  walk_at "rd"
  refine r_in1 ?_
  walk_at "rd"
  refine r_fldK ha1 (clsK T _) (naK_point T _) rfl ?_
  rw [hp, if_neg (by omega)]
  walk_at "rd"
  refine r_I ⟨by omega, by omega, by decide⟩ ?_
  walk_at "rd"
  refine r_dm ⟨by decide, by decide⟩ fun p hpn => ?_
  walk_at "rd"
  refine r_gT2 (SqT.of upd_same) ?_
  have s2 := s1.new' (o := .tup [.int (b / (1 * 2 ^ (0:Int).toNat)), .int (b % (1 * 2 ^ (0:Int).toNat))]) hpn
  rw [show (1 * 2 ^ (0:Int).toNat : Int) = 1 by decide, Int.ediv_one, Int.emod_one] at s2 ⊢
  walk_at "rd"
  refine r_while0 (fun B kB => ?_) ?_
  · walk_at "rd"
    exact kB
  walk_at "rd"
  refine r_strI (log_ok' (by omega) (by omega)) ?_
  walk_at "rd"
  refine r_NDT rfl ?_
  walk_at "rd"
  refine r_DF (by omega) ?_
  walk_at "rd"
  exact kq.go s2
theorem met_Kind_shown (T : Tx K mg) : ∀ C, In_Kind K C → MetX P w K mg base 4 C "shown" (sp_Kind_shown K C) := by
  rintro C (rfl | rfl | rfl)
  · obtain ⟨fd, F⟩ := fn_Plain__shown T
    exact ⟨_, fd, _, c_Plain T, m_Plain_shown T, ok_Kind_shown T F, F.bindsN fun _ _ _ _ _ _ us hl => match us, hl with | [_, _], _ => rfl⟩
  · obtain ⟨fd, F⟩ := fn_Signed__shown T
    exact ⟨_, fd, _, c_Signed T, m_Signed_shown T, ok_Kind_shown T F, F.bindsN fun _ _ _ _ _ _ us hl => match us, hl with | [_, _], _ => rfl⟩
  · obtain ⟨fd, F⟩ := fn_Pointed__shown T
    exact ⟨_, fd, _, c_Pointed T, m_Pointed_shown T, ok_Kind_shown T F, F.bindsN fun _ _ _ _ _ _ us hl => match us, hl with | [_, _], _ => rfl⟩
end
section
variable {P : Program} {w : World} {K : PySem.W.Frag} {mg : Str → Option Value} {base : Heap}
def sp_Kind_read (K : PySem.W.Frag) (_ : Addr) : Sp := fun vs H Q _ => ∃ a k n, vs = [.ref a, .str (Str.ofString (toString n))] ∧ KindAt K H a k ∧ k.tag = .plain ∧ 1 ≤ n ∧ n ≤ 3 ∧ Rt H Q (.int n)
structure Num3 (x : Str) (n : Int) : Prop where
  len : x.length ≤ 10
  strip : Txt.lstripChars x "-" = x
  part : Txt.partition x "." = (x, ("" : Str), ("" : Str))
  cat : x ++ ("" : Str) = x
  are : areSigns x DIG = true
  val : PySem.intText? x = some n
  start : Txt.startswith x "-" = false
theorem num3 {n : Int} (h0 : 1 ≤ n) (h1 : n ≤ 3) : Num3 (Str.ofString (toString n)) n := by
  obtain rfl | rfl | rfl : n = 1 ∨ n = 2 ∨ n = 3 := by omega
  all_goals exact ⟨by decide +kernel, by decide +kernel, by decide +kernel, by decide +kernel, by decide +kernel, by decide +kernel, by decide +kernel⟩
abbrev N_Kind_read : List Str := ["self", "text", "whole", "dot", "behind", "tens", "sign", "count", "rest"]
theorem sc_Kind_read : FnScope ["self", "text", "whole", "dot", "behind", "tens", "sign", "count", "rest"] ["self", "text"] (defScope s_Kind_read) := ⟨rfl, rfl, rfl, by decide +kernel, rfl, by decide +kernel, by decide +kernel⟩
theorem ok_Kind_read {f : Addr} {fd : FuncData} (T : Tx K mg) {C : Addr} (F : FunP K "read" "Kind.read" s_Kind_read f fd) : FnOk P w K mg base (L2.CX P w) 5 f fd ["self", "text"] (sp_Kind_read K C) := by
  refine F.ok sc_Kind_read (fun vs H Q E h => ?_) (fun cdv A outer s H vs Q E hr h => ?_)
  · repeat first | (obtain ⟨e, _⟩ := h; subst e; rfl; done) | (obtain ⟨_, h⟩ := h)
  refine ⟨_, (pss_cons (ps_if (PW.pt (pw_or (pt_not (pt_val (pe_callB call_isi (by rfl) (fr_isinstance T) (by decide +kernel) (pa_cons (pv 1) (pa_cons (pe_ty (n := "str") rfl (fr_str T) (by decide +kernel)) pa_nil))))) (pw_or1 (pt_cmpR op_gt (pe_callB call_len_str (by rfl) (fr_len T) (by decide +kernel) (pa_cons (pv 1) pa_nil)) (pe_gint rfl (i_LONGEST_SHOWN T)) (nomark _))))) pss_dead pss_nil)
  (pss_cons (ps_asg (pe_partition (pe_bm PySem.F.plainAttrs_str PySem.F.slot_str_lstrip PySem.F.type_str_lstrip mt_lstripChars (pv 1) (pa_cons pe_str pa_nil)) pe_str) (pg_tup rfl (pgs_cons (pg_name (i := 2) sc_Kind_read.nd rfl (Or.inl rfl)) (pgs_cons (pg_name (i := 3) sc_Kind_read.nd rfl (Or.inl rfl)) (pgs_cons (pg_name (i := 4) sc_Kind_read.nd rfl (Or.inl rfl)) pgs_nil)))))
  (pss_cons (ps_if (pt_not (pt_val (pe_cX (cal_are_signs T) hr (by decide) rfl pU (pa_cons (pe_op op_add_str (pv 2) (pv 4)) (pa_cons pe_str pa_nil))))) pss_dead pss_nil)
  (pss_cons (ps_set (i := 5) sc_Kind_read.nd rfl (Or.inl rfl) pe_int)
  (pss_cons (ps_for oU rfl (pi_str (pv 4)) (pg_name (i := 6) sc_Kind_read.nd rfl (Or.inl rfl))
  pss_dead)
  (pss_cons (ps_asg (pe_callB call_divmod (by rfl) (fr_divmod T) (by decide +kernel) (pa_cons (pe_op op_shl (pe_callTy call_int_str (by rfl) (fr_int T) (by decide +kernel) (pa_cons (pe_op op_add_str (pv 2) (pv 4)) pa_nil)) (pe_fld (pv 0) rfl)) (pa_cons (pv 5) pa_nil))) (pg_tup rfl (pgs_cons (pg_name (i := 7) sc_Kind_read.nd rfl (Or.inl rfl)) (pgs_cons (pg_name (i := 8) sc_Kind_read.nd rfl (Or.inl rfl)) pgs_nil))))
  (pss_cons (ps_if (pt_val (pe_bm PySem.F.plainAttrs_str PySem.F.slot_str_startswith PySem.F.type_str_startswith mt_startswith (pv 1) (pa_cons pe_str pa_nil))) pss_dead pss_nil)
  (pss_cons (ps_if (PW.pt (pw_or (pt_cmpR op_gt (pv 8) pe_int (nomark _)) (pw_or (pt_not (pt_val (pe_mX (met_Kind_is_count T) hr (by decide) pU (pv 0) (pa_cons (pv 7) pa_nil)))) (pw_or1 (pt_cmpR op_ne (pe_mX (met_Kind_shown T) hr (by decide) pU (pv 0) (pa_cons (pe_mX (met_Kind_bits_of T) hr (by decide) pU (pv 0) (pa_cons (pv 7) pa_nil)) pa_nil)) (pv 1) (nomark _)))))) pss_dead pss_nil)
  (pss_one (ps_ret (pe_mX (met_Kind_bits_of T) hr (by decide) pU (pv 0) (pa_cons (pv 7) pa_nil)))))))))))), ?_⟩
  try dsimp only [cxK]
  obtain ⟨a, k, n, rfl, ha, ht, h0, h1, kq⟩ := h
  have hp := ha.1.p0 (by rw [ht]; decide)
  have hB := ha.1.Ble
  have hB16 := ha.1.B16
  have N := num3 h0 h1
  generalize hx : Str.ofString (toString n) = x at N ⊢
  walk_at "rd"
  refine r_isiStr ?_
  walk_at "rd"
  refine r_lenS (by have := N.len; omega) ?_
  walk_at "rd"
  refine r_DF (by have := N.len; omega) ?_
  walk_at "rd"
  refine r_m1 (r_bmSv rfl ?_)
  walk_at "rd"
  refine r_s1 ⟨line_le (by have := N.len; omega), ⟨_, rfl⟩, ?_⟩
  rw [N.strip]
  walk_at "rd"
  refine r_s1 ⟨rfl, line_le (by have := N.len; omega), fun p hpn => ?_⟩
  rw [N.part]
  walk_at "rd"
  refine r_gT3 (SqT.of upd_same) ?_
  have s1 := Same.new (o := .tup [.str x, .str "", .str ""]) hpn
  walk_at "rd"
  dsimp only []
  have L0 : ("" : Str).length = 0 := by decide +kernel
  refine ⟨line_le (by have := N.len; omega), ?_⟩
  rw [N.cat]
  walk_at "rd"
  refine ⟨x, DIG, rfl, ?_⟩
  rw [N.are]
  walk_at "rd"
  refine r_forStr (r_var rfl ⟨_, rfl, fun i σ' H' => i = 0 ∧ σ' = _ ∧ H' = _, ⟨rfl, rfl, rfl⟩, fun i c σ' H' hc _ => ?_, fun σ' H' hc => ?_⟩) mono_var
  · exact absurd hc (by rw [show ("" : Str).cps.toList = [] by decide +kernel]; simp)
  obtain ⟨-, rfl, rfl⟩ := hc
  walk_at "rd"
  refine ⟨line_le (by have := N.len; omega), ?_⟩
  rw [N.cat]
  walk_at "rd"
  refine r_intS N.val (by have := N.len; omega) ?_
  walk_at "rd"
  have ha1 := ha.on s1
  refine r_fldK ha1 (clsK T _) (naK_point T _) rfl ?_
  rw [hp]
  walk_at "rd"
  refine r_I ⟨by omega, by omega, Nat.lt_of_le_of_lt (show n.natAbs ≤ 3 by omega) (by decide)⟩ ?_
  walk_at "rd"
  refine r_dm ⟨by decide, by decide⟩ fun q hqn => ?_
  rw [show (n * 2 ^ (0:Int).toNat : Int) = n by simp, Int.ediv_one, Int.emod_one] 
  refine r_gT2 (SqT.of upd_same) ?_
  have s2 := s1.new' (o := .tup [.int n, .int 0]) hqn
  have ha2 := ha.on s2
  walk_at "rd"
  refine ⟨rfl, ?_⟩
  walk_at "rd"
  refine r_s1 ?_
  rw [N.start]
  walk_at "rdo"
  refine r_methK ha2 rfl ?_
  walk_at "rd"
  have hc : k.isCount n = true := by
    unfold KindM.isCount KindM.least KindM.greatest
    rw [ht, if_pos rfl, if_pos rfl, decide_eq_true (by omega), decide_eq_true (by omega)]
    rfl
  refine ⟨a, k, n, rfl, ha2, ?_⟩
  rw [hc]
  walk_at "rd"
  refine r_methK ha2 rfl ?_
  walk_at "rd"
  refine r_methK ha2 rfl ?_
  walk_at "rd"
  have hb : k.bitsOf n = n := Int.emod_eq_of_lt (by omega) (by omega)
  refine ⟨a, k, n, rfl, ha2, hc, ?_⟩
  rw [hb]
  walk_at "rd"
  refine ⟨a, k, n, rfl, ha2, ht, by omega, by omega, fun H3 s3 => ?_⟩
  rw [hx]
  walk_at "rd"
  refine r_NDT rfl ?_
  walk_at "rd"
  have s23 := s2.trans s3
  refine r_methK (ha.on s23) rfl ?_
  walk_at "rd"
  refine ⟨a, k, n, rfl, ha.on s23, hc, ?_⟩
  rw [hb]
  exact kq.go s23
theorem met_Kind_read (T : Tx K mg) : ∀ C, In_Kind K C → MetX P w K mg base 5 C "read" (sp_Kind_read K C) := by
  rintro C (rfl | rfl | rfl)
  · obtain ⟨fd, F⟩ := fn_Plain__read T
    exact ⟨_, fd, _, c_Plain T, m_Plain_read T, ok_Kind_read T F, F.bindsN fun _ _ _ _ _ _ us hl => match us, hl with | [_, _], _ => rfl⟩
  · obtain ⟨fd, F⟩ := fn_Signed__read T
    exact ⟨_, fd, _, c_Signed T, m_Signed_read T, ok_Kind_read T F, F.bindsN fun _ _ _ _ _ _ us hl => match us, hl with | [_, _], _ => rfl⟩
  · obtain ⟨fd, F⟩ := fn_Pointed__read T
    exact ⟨_, fd, _, c_Pointed T, m_Pointed_read T, ok_Kind_read T F, F.bindsN fun _ _ _ _ _ _ us hl => match us, hl with | [_, _], _ => rfl⟩
end
section
variable {P : Program} {w : World} {K : PySem.W.Frag} {mg : Str → Option Value} {base : Heap}
theorem clsIn (T : Tx K mg) {C : Addr} (h : In_Kind K C) : Cls K C ∧ NoAttr K C "width" ∧ NoAttr K C "point" := by
  rcases h with rfl | rfl | rfl
  · exact ⟨clsK T .plain, naK_width T .plain, naK_point T .plain⟩
  · exact ⟨clsK T .signed, naK_width T .signed, naK_point T .signed⟩
  · exact ⟨clsK T .point, naK_width T .point, naK_point T .point⟩
def sp_Kind_init (K : PySem.W.Frag) : Sp := fun vs H Q _ => ∃ a C dx wd pt, vs = [.ref a, .int wd, .int pt] ∧ H a = some (.ins C dx []) ∧ In_Kind K C ∧ 4 ≤ wd ∧ wd ≤ 32 ∧ ∀ H', OnlyAt a (.ins C dx [("width", .int wd), ("point", .int pt)]) H H' → Q .non H'
abbrev N_Kind_init : List Str := ["self", "width", "point"]
theorem sc_Kind_init : FnScope ["self", "width", "point"] ["self", "width", "point"] (defScope s_Kind_init) := ⟨rfl, rfl, rfl, by decide +kernel, rfl, by decide +kernel, by decide +kernel⟩
theorem ok_Kind_init {f : Addr} {fd : FuncData} (T : Tx K mg)  (F : FunP K "__init__" "Kind.__init__" s_Kind_init f fd) : FnOk P w K mg base (L2.CX P w) 4 f fd ["self", "width", "point"] (sp_Kind_init K) := by
  refine F.ok sc_Kind_init (fun vs H Q E h => ?_) (fun cdv A outer s H vs Q E hr h => ?_)
  · repeat first | (obtain ⟨e, _⟩ := h; subst e; rfl; done) | (obtain ⟨_, h⟩ := h)
  refine ⟨_, (pss_cons (ps_expr (pe_cX (cal_need_width T) hr (by decide) rfl pU (pa_cons (pv 1) pa_nil)))
  (pss_cons (ps_fld (pv 0) (pv 1) rfl)
  (pss_one (ps_fld (pv 0) (pv 2) rfl)))), ?_⟩
  try dsimp only [cxK]
  obtain ⟨a, C, dx, wd, pt, rfl, ha, hC, h4, h32, kq⟩ := h
  obtain ⟨c1, n1, n2⟩ := clsIn T hC
  walk_at "rdo"
  refine ⟨.int wd, "int", rfl, .base (.int wd), by decide, .inl ⟨wd, rfl, h4, h32, ?_⟩⟩
  walk_at "rdo"
  refine ⟨a, C, dx, [], rfl, ha, c1, n1, by decide, ?_⟩
  walk_at "rdo"
  refine ⟨a, C, dx, _, rfl, upd_same, c1, n2, (by show 1 < 1000; decide), ?_⟩
  exact kq _ (OnlyAt.upd (o := .ins C dx [("width", .int wd)])).step
theorem cat_Kind_init (T : Tx K mg) : CatX P w K mg base 4 "Kind" "__init__" (sp_Kind_init K) := by
  obtain ⟨fd, F⟩ := fn_Kind_init T
  exact ⟨_, _, fd, _, g_Kind T, ct_Kind_init T, F.kp, ok_Kind_init T F, F.bindsN fun _ _ _ _ _ _ us hl => match us, hl with | [_, _, _], _ => rfl⟩
end
section
variable {P : Program} {w : World} {K : PySem.W.Frag} {mg : Str → Option Value} {base : Heap}
def sp_Plain_init (K : PySem.W.Frag) : Sp := fun vs H Q _ => ∃ a dx wd, vs = [.ref a, .int wd] ∧ H a = some (.ins (He.ga K "Plain") dx []) ∧ 4 ≤ wd ∧ wd ≤ 32 ∧ ∀ H', OnlyAt a (.ins (He.ga K "Plain") dx [("width", .int wd), ("point", .int 0)]) H H' → Q .non H'
theorem KindAt.plain {K : PySem.W.Frag} {H : Hp} {a dx : Addr} {wd : Int} (h4 : 4 ≤ wd) (h32 : wd ≤ 32) (h : H a = some (.ins (He.ga K "Plain") dx [("width", .int wd), ("point", .int 0)])) : KindAt K H a ⟨.plain, wd, 0⟩ :=
  ⟨⟨h4, h32, fun _ => rfl, fun z => nomatch z⟩, dx, h⟩
abbrev N_Plain_init : List Str := ["self", "width"]
theorem sc_Plain_init : FnScope ["self", "width"] ["self", "width"] (defScope s_Plain_init) := ⟨rfl, rfl, rfl, by decide +kernel, rfl, by decide +kernel, by decide +kernel⟩
theorem ok_Plain_init {f : Addr} {fd : FuncData} (T : Tx K mg)  (F : FunP K "__init__" "Plain.__init__" s_Plain_init f fd) : FnOk P w K mg base (L2.CX P w) 5 f fd ["self", "width"] (sp_Plain_init K) := by
  refine F.ok sc_Plain_init (fun vs H Q E h => ?_) (fun cdv A outer s H vs Q E hr h => ?_)
  · repeat first | (obtain ⟨e, _⟩ := h; subst e; rfl; done) | (obtain ⟨_, h⟩ := h)
  refine ⟨_, (pss_one (ps_expr (pe_wX (cat_Kind_init T) hr (by decide) rfl pU (pa_cons (pv 0) (pa_cons (pv 1) (pa_cons pe_int pa_nil)))))), ?_⟩
  try dsimp only [cxK]
  obtain ⟨a, dx, wd, rfl, ha, h4, h32, kq⟩ := h
  walk_at "rdo"
  refine ⟨a, _, dx, wd, 0, rfl, ha, .inl rfl, h4, h32, fun H' h' => ?_⟩
  walk_at "rdo"
  exact kq _ h'
theorem mak_Plain (T : Tx K mg) : MakX P w K mg base 5 "Plain" (He.ga K "Plain") (sp_Plain_init K) := by
  obtain ⟨fd, F⟩ := fn_Plain_init T
  exact ⟨_, fd, _, mk_Plain T, ok_Plain_init T F, g_Plain T, F.bindsN fun _ _ _ _ _ _ us hl => match us, hl with | [_, _], _ => rfl⟩

end
section
variable {P : Program} {w : World} {K : PySem.W.Frag} {mg : Str → Option Value} {base : Heap}
def sp_same_kind (K : PySem.W.Frag) : Sp := fun vs H Q _ => ∃ a b k, vs = [.ref a, .ref b] ∧ KindAt K H a k ∧ KindAt K H b k ∧ Q (.bl true) H
abbrev N_same_kind : List Str := ["one", "other"]
theorem sc_same_kind : FnScope ["one", "other"] ["one", "other"] (defScope s_same_kind) := ⟨rfl, rfl, rfl, by decide +kernel, rfl, by decide +kernel, by decide +kernel⟩
theorem ok_same_kind {f : Addr} {fd : FuncData} (T : Tx K mg)  (F : FunP K "same_kind" "same_kind" s_same_kind f fd) : FnOk P w K mg base (L2.CX P w) 2 f fd ["one", "other"] (sp_same_kind K) := by
  refine F.ok sc_same_kind (fun vs H Q E h => ?_) (fun cdv A outer s H vs Q E hr h => ?_)
  · repeat first | (obtain ⟨e, _⟩ := h; subst e; rfl; done) | (obtain ⟨_, h⟩ := h)
  refine ⟨_, (pss_one (ps_ret (pe_and (pe_cmpR op_eq (pe_mX0 (met_Kind_word T) hr (by decide) pU (pv 0)) (pe_mX0 (met_Kind_word T) hr (by decide) pU (pv 1)) (nomark _)) (pe_and (pe_cmpR op_eq (pe_fld (pv 0) rfl) (pe_fld (pv 1) rfl) (nomark _)) (pe_one (pe_cmpR op_eq (pe_fld (pv 0) rfl) (pe_fld (pv 1) rfl) (nomark _))))))), ?_⟩
  try dsimp only [cxK]
  obtain ⟨a, b, k, rfl, ha, hb, kq⟩ := h
  walk_at "rdo"
  refine r_methK ha rfl ?_
  walk_at "rdo"
  refine ⟨a, k, rfl, ha, rfl, ?_⟩
  walk_at "rdo"
  refine r_methK hb rfl ?_
  walk_at "rdo"
  refine ⟨b, k, rfl, hb, rfl, ?_⟩
  walk_at "rdo"
  refine r_fldK ha (clsK T _) (naK_width T _) rfl ?_
  walk_at "rdo"
  refine r_fldK hb (clsK T _) (naK_width T _) rfl ?_
  walk_at "rdo"
  refine r_fldK ha (clsK T _) (naK_point T _) rfl ?_
  walk_at "rdo"
  refine r_fldK hb (clsK T _) (naK_point T _) rfl ?_
  walk_at "rdo"
  rw [decide_eq_true rfl]
  exact kq
theorem cal_same_kind (T : Tx K mg) : CalX P w K mg base 2 "same_kind" (sp_same_kind K) [] := by
  obtain ⟨fd, F⟩ := fn_same_kind T
  exact ⟨_, fd, _, [], ok_same_kind T F, g_same_kind T, F.kp, F.bindsN fun _ _ _ _ _ _ us hl => match us, hl with | [_, _], _ => rfl, .nil⟩

end
section
variable {P : Program} {w : World} {K : PySem.W.Frag} {mg : Str → Option Value} {base : Heap}
def sp_Row_init (K : PySem.W.Frag) : Sp := fun vs H Q _ => ∃ a dx ln deed g, vs = [.ref a, .int ln, .str deed, .ref g] ∧ H a = some (.ins (He.ga K "Row") dx []) ∧ 
  ∀ r n H', H r = none → H n = none → r ≠ n → H' r = some (.lst []) → H' n = some (.lst []) → H' a = some (.ins (He.ga K "Row") dx (rowFs ln deed g r n)) → (∀ b, b ≠ a → b ≠ r → b ≠ n → H' b = H b) → Q .non H'
abbrev N_Row_init : List Str := ["self", "line", "deed", "goals"]
theorem sc_Row_init : FnScope ["self", "line", "deed", "goals"] ["self", "line", "deed", "goals"] (defScope s_Row_init) := ⟨rfl, rfl, rfl, by decide +kernel, rfl, by decide +kernel, by decide +kernel⟩
theorem ok_Row_init {f : Addr} {fd : FuncData} (T : Tx K mg)  (F : FunP K "__init__" "Row.__init__" s_Row_init f fd) : FnOk P w K mg base (L2.CX P w) 1 f fd ["self", "line", "deed", "goals"] (sp_Row_init K) := by
  refine F.ok sc_Row_init (fun vs H Q E h => ?_) (fun cdv A outer s H vs Q E hr h => ?_)
  · repeat first | (obtain ⟨e, _⟩ := h; subst e; rfl; done) | (obtain ⟨_, h⟩ := h)
  refine ⟨_, (pss_cons (ps_fld (pv 0) (pv 1) rfl)
  (pss_cons (ps_fld (pv 0) (pv 2) rfl)
  (pss_cons (ps_fld (pv 0) (pv 3) rfl)
  (pss_cons (ps_fld (pv 0) (pe_lst pa_nil) rfl)
  (pss_cons (ps_fld (pv 0) (pe_lst pa_nil) rfl)
  (pss_one (ps_fld (pv 0) pe_str rfl))))))), ?_⟩
  try dsimp only [cxK]
  obtain ⟨a, dx, ln, deed, g, rfl, ha, kq⟩ := h
  walk_at "rdo"
  refine ⟨a, _, dx, _, rfl, ha, c_Row T, na_Row_line T, by decide, ?_⟩
  walk_at "rdo"
  refine ⟨a, _, dx, _, rfl, upd_same, c_Row T, na_Row_deed T, (by show 1 < 1000; decide), ?_⟩
  walk_at "rdo"
  refine ⟨a, _, dx, _, rfl, upd_same, c_Row T, na_Row_goals T, (by show 2 < 1000; decide), ?_⟩
  walk_at "rdo"
  refine r_newL fun r hr1 => ?_
  have r1 : r ≠ a := fun z => by rw [z, upd_same] at hr1; cases hr1
  have hr0 : H r = none := by rwa [upd_ne r1, upd_ne r1, upd_ne r1] at hr1
  walk_at "rdo"
  refine ⟨a, _, dx, _, rfl, by rw [upd_ne r1.symm]; exact upd_same, c_Row T, na_Row_reads T, (by show 3 < 1000; decide), ?_⟩
  walk_at "rdo"
  refine r_newL fun n hn1 => ?_
  have n1 : n ≠ a := fun z => by rw [z, upd_same] at hn1; cases hn1
  have n2 : n ≠ r := fun z => by rw [upd_ne n1, z, upd_same] at hn1; cases hn1
  have hn0 : H n = none := by rwa [upd_ne n1, upd_ne n2, upd_ne n1, upd_ne n1, upd_ne n1] at hn1
  walk_at "rdo"
  refine ⟨a, _, dx, _, rfl, by rw [upd_ne n1.symm]; exact upd_same, c_Row T, na_Row_numbers T, (by show 4 < 1000; decide), ?_⟩
  walk_at "rdo"
  refine ⟨a, _, dx, _, rfl, upd_same, c_Row T, na_Row_way T, (by show 5 < 1000; decide), ?_⟩
  refine kq r n _ hr0 hn0 n2.symm ?_ ?_ upd_same ?_
  · rw [upd_ne r1, upd_ne r1, upd_ne n2.symm, upd_ne r1, upd_same]
  · rw [upd_ne n1, upd_ne n1, upd_same]
  · intro b b1 b2 b3
    rw [upd_ne b1, upd_ne b1, upd_ne b3, upd_ne b1, upd_ne b2, upd_ne b1, upd_ne b1, upd_ne b1]
theorem mak_Row (T : Tx K mg) : MakX P w K mg base 1 "Row" (He.ga K "Row") (sp_Row_init K) := by
  obtain ⟨fd, F⟩ := fn_Row_init T
  exact ⟨_, fd, _, mk_Row T, ok_Row_init T F, g_Row T, F.bindsN fun _ _ _ _ _ _ us hl => match us, hl with | [_, _, _, _], _ => rfl⟩

end
section
variable {P : Program} {w : World} {K : PySem.W.Frag} {mg : Str → Option Value} {base : Heap}
def sp_Repeat_init (K : PySem.W.Frag) : Sp := fun vs H Q _ => ∃ a dx ln tm, vs = [.ref a, .int ln, .int tm] ∧ H a = some (.ins (He.ga K "Repeat") dx []) ∧ 
  ∀ r H', H r = none → H' r = some (.lst []) → H' a = some (.ins (He.ga K "Repeat") dx (repFs ln tm r)) → (∀ b, b ≠ a → b ≠ r → H' b = H b) → Q .non H'
abbrev N_Repeat_init : List Str := ["self", "line", "times"]
theorem sc_Repeat_init : FnScope ["self", "line", "times"] ["self", "line", "times"] (defScope s_Repeat_init) := ⟨rfl, rfl, rfl, by decide +kernel, rfl, by decide +kernel, by decide +kernel⟩
theorem ok_Repeat_init {f : Addr} {fd : FuncData} (T : Tx K mg)  (F : FunP K "__init__" "Repeat.__init__" s_Repeat_init f fd) : FnOk P w K mg base (L2.CX P w) 1 f fd ["self", "line", "times"] (sp_Repeat_init K) := by
  refine F.ok sc_Repeat_init (fun vs H Q E h => ?_) (fun cdv A outer s H vs Q E hr h => ?_)
  · repeat first | (obtain ⟨e, _⟩ := h; subst e; rfl; done) | (obtain ⟨_, h⟩ := h)
  refine ⟨_, (pss_cons (ps_fld (pv 0) (pv 1) rfl)
  (pss_cons (ps_fld (pv 0) (pv 2) rfl)
  (pss_one (ps_fld (pv 0) (pe_lst pa_nil) rfl)))), ?_⟩
  try dsimp only [cxK]
  obtain ⟨a, dx, ln, tm, rfl, ha, kq⟩ := h
  walk_at "rdo"
  refine ⟨a, _, dx, _, rfl, ha, c_Repeat T, na_Repeat_line T, by decide, ?_⟩
  walk_at "rdo"
  refine ⟨a, _, dx, _, rfl, upd_same, c_Repeat T, na_Repeat_times T, (by show 1 < 1000; decide), ?_⟩
  walk_at "rdo"
  refine r_newL fun r hr1 => ?_
  have r1 : r ≠ a := fun z => by rw [z, upd_same] at hr1; cases hr1
  have hr0 : H r = none := by rwa [upd_ne r1, upd_ne r1] at hr1
  walk_at "rdo"
  refine ⟨a, _, dx, _, rfl, by rw [upd_ne r1.symm]; exact upd_same, c_Repeat T, na_Repeat_rows T, (by show 2 < 1000; decide), ?_⟩
  refine kq r _ hr0 ?_ upd_same ?_
  · rw [upd_ne r1, upd_same]
  · intro b b1 b2
    rw [upd_ne b1, upd_ne b2, upd_ne b1, upd_ne b1]
theorem mak_Repeat (T : Tx K mg) : MakX P w K mg base 1 "Repeat" (He.ga K "Repeat") (sp_Repeat_init K) := by
  obtain ⟨fd, F⟩ := fn_Repeat_init T
  exact ⟨_, fd, _, mk_Repeat T, ok_Repeat_init T F, g_Repeat T, F.bindsN fun _ _ _ _ _ _ us hl => match us, hl with | [_, _, _], _ => rfl⟩

end
section
variable {P : Program} {w : World} {K : PySem.W.Frag} {mg : Str → Option Value} {base : Heap}
def sp_kind_in (K : PySem.W.Frag) : Sp := fun vs H Q _ => ∃ wd aw, vs = [.int wd, .ref aw] ∧ H aw = some (.lst [.str "plain"]) ∧ 4 ≤ wd ∧ wd ≤ 32 ∧ ∀ a H', H a = none → Same H H' → KindAt K H' a ⟨.plain, wd, 0⟩ → Q (.ref a) H'
abbrev N_kind_in : List Str := ["width", "words", "point"]
theorem sc_kind_in : FnScope ["width", "words", "point"] ["width", "words"] (defScope s_kind_in) := ⟨rfl, rfl, rfl, by decide +kernel, rfl, by decide +kernel, by decide +kernel⟩
theorem ok_kind_in {f : Addr} {fd : FuncData} (T : Tx K mg)  (F : FunP K "kind_in" "kind_in" s_kind_in f fd) : FnOk P w K mg base (L2.CX P w) 7 f fd ["width", "words"] (sp_kind_in K) := by
  refine F.ok sc_kind_in (fun vs H Q E h => ?_) (fun cdv A outer s H vs Q E hr h => ?_)
  · repeat first | (obtain ⟨e, _⟩ := h; subst e; rfl; done) | (obtain ⟨_, h⟩ := h)
  refine ⟨_, (pss_cons (ps_if (pt_cmpR (op_eqD (hu64 hr)) (pv 1) (pe_lst (pa_cons pe_str pa_nil)) (nomark _)) (pss_one (ps_ret (pe_kX (mak_Plain T) hr (by decide) rfl pU (pa_cons (pv 0) pa_nil)))) pss_nil)
  pss_dead), ?_⟩
  try dsimp only [cxK]
  obtain ⟨wd, aw, rfl, hw, h4, h32, kq⟩ := h
  walk_at "rdo"
  refine r_newL fun q hq => ?_
  have s1 : Same H (upd H q (.lst [.str "plain"])) := Same.new hq
  walk_at "rdo"
  refine r_eqStrs ["plain"] ["plain"] true (SqL.of (s1 _ _ hw)) (SqL.of upd_same) (by decide +kernel) (by decide +kernel) ?_
  walk_at "rdo"
  intro x dx hx hdx hne
  refine ⟨x, dx, wd, rfl, upd_same, h4, h32, fun H' h' => ⟨rfl, ?_⟩⟩
  have xq : x ≠ q := fun z => by rw [z, upd_same] at hx; cases hx
  exact kq x H' (by rw [← hx, upd_ne xq]) (s1.trans (h'.new hx hdx)) (KindAt.plain h4 h32 h'.1)
theorem cal_kind_in (T : Tx K mg) : CalX P w K mg base 7 "kind_in" (sp_kind_in K) [] := by
  obtain ⟨fd, F⟩ := fn_kind_in T
  exact ⟨_, fd, _, [], ok_kind_in T F, g_kind_in T, F.kp, F.bindsN fun _ _ _ _ _ _ us hl => match us, hl with | [_, _], _ => rfl, .nil⟩

end
section
variable {P : Program} {w : World} {K : PySem.W.Frag} {mg : Str → Option Value} {base : Heap}
def sp_bits_shown (K : PySem.W.Frag) : Sp := fun vs H Q _ => ∃ a k n, vs = [.ref a, .str (num n)] ∧ KindAt K H a k ∧ k.tag = .plain ∧ 1 ≤ n ∧ n ≤ 3 ∧ Rt H Q (.int n)
abbrev N_bits_shown : List Str := ["kind", "text", "bits"]
theorem sc_bits_shown : FnScope ["kind", "text", "bits"] ["kind", "text"] (defScope s_bits_shown) := ⟨rfl, rfl, rfl, by decide +kernel, rfl, by decide +kernel, by decide +kernel⟩
theorem ok_bits_shown {f : Addr} {fd : FuncData} (T : Tx K mg)  (F : FunP K "bits_shown" "bits_shown" s_bits_shown f fd) : FnOk P w K mg base (L2.CX P w) 6 f fd ["kind", "text"] (sp_bits_shown K) := by
  refine F.ok sc_bits_shown (fun vs H Q E h => ?_) (fun cdv A outer s H vs Q E hr h => ?_)
  · repeat first | (obtain ⟨e, _⟩ := h; subst e; rfl; done) | (obtain ⟨_, h⟩ := h)
  refine ⟨_, (pss_cons (ps_if (pt_cmp (pc_isN (pv 0))) pss_dead pss_nil)
  (pss_one (ps_try_thru (pss_one (ps_set (i := 2) sc_bits_shown.nd rfl (Or.inl rfl) (pe_mX (met_Kind_read T) hr (by decide) passL (pv 0) (pa_cons (pv 1) pa_nil)))) (pss_one (ps_ret (pv 2)))))), ?_⟩
  try dsimp only [cxK]
  obtain ⟨a, k, n, rfl, ha, ht, h0, h1, kq⟩ := h
  walk_at "rdo"
  refine r_methK ha rfl ?_
  walk_at "rdo"
  refine ⟨a, k, n, rfl, ha, ht, h0, h1, fun H1 s1 => ?_⟩
  walk_at "rdo"
  exact kq.go s1
theorem cal_bits_shown (T : Tx K mg) : CalX P w K mg base 6 "bits_shown" (sp_bits_shown K) [] := by
  obtain ⟨fd, F⟩ := fn_bits_shown T
  exact ⟨_, fd, _, [], ok_bits_shown T F, g_bits_shown T, F.kp, F.bindsN fun _ _ _ _ _ _ us hl => match us, hl with | [_, _], _ => rfl, .nil⟩

end
section
variable {P : Program} {w : World} {K : PySem.W.Frag} {mg : Str → Option Value} {base : Heap}
theorem num3_in {hi : Int} (h : 3 ≤ hi) : numberIn "3" 1 hi = some 3 := by
  unfold numberIn
  have e : (decide (("3" : Str).length ≤ 10) && areSigns "3" DIG && !(decide (("3" : Str).cps.toList.head? = some 48) && decide (1 < ("3" : Str).length))) = true := by decide +kernel
  have v : ((NumText.digitsVal ("3" : Str).cps.toList : Nat) : Int) = 3 := by decide +kernel
  rw [if_pos e, v, if_pos ⟨by decide, h⟩]
def sp_taken (K : PySem.W.Frag) : Sp := fun vs H Q _ => ∃ a dx ln deed g r n wd letter word, vs = [.ref a, .int wd, .str letter, .str word] ∧ H a = some (.ins (He.ga K "Row") dx (rowFs ln deed g r n)) ∧ r ≠ n ∧ a ≠ r ∧ a ≠ n ∧ 4 ≤ wd ∧ wd ≤ 32 ∧
  ((letter = "b" ∧ isName word = true ∧ word.length ≤ 100 ∧ ∃ xs, H r = some (.lst xs) ∧ xs.length ≤ 1000 ∧ ∀ H', H' r = some (.lst (xs ++ [.str word])) → SameBut r H H' → Q (.bl true) H') ∨
   (letter = "n" ∧ word = "3" ∧ H n = some (.lst []) ∧ ∀ H', H' n = some (.lst [.int 3]) → SameBut n H H' → Q (.bl true) H'))
abbrev N_taken : List Str := ["row", "width", "letter", "word", "top", "stroke", "bottom", "most"]
theorem sc_taken : FnScope ["row", "width", "letter", "word", "top", "stroke", "bottom", "most"] ["row", "width", "letter", "word"] (defScope s_taken) := ⟨rfl, rfl, rfl, by decide +kernel, rfl, by decide +kernel, by decide +kernel⟩
theorem ok_taken {f : Addr} {fd : FuncData} (T : Tx K mg)  (F : FunP K "taken" "taken" s_taken f fd) : FnOk P w K mg base (L2.CX P w) 3 f fd ["row", "width", "letter", "word"] (sp_taken K) := by
  refine F.ok sc_taken (fun vs H Q E h => ?_) (fun cdv A outer s H vs Q E hr h => ?_)
  · repeat first | (obtain ⟨e, _⟩ := h; subst e; rfl; done) | (obtain ⟨_, h⟩ := h)
  refine ⟨_, (pss_cons (ps_if (pt_cmpR op_eq (pv 2) pe_str (nomark _)) (pss_cons (ps_expr (pe_bm PySem.F.plainAttrs_list PySem.F.slot_list_append PySem.F.type_list_append mt_append (pe_fld (pv 0) rfl) (pa_cons (pv 3) pa_nil)))
  (pss_one (ps_ret (pe_cX (cal_is_name T) hr (by decide) rfl pU (pa_cons (pv 3) pa_nil))))) pss_nil)
  (pss_cons (ps_if (pt_cmpR op_eq (pv 2) pe_str (nomark _)) pss_dead pss_nil)
  (pss_cons (ps_if (pt_cmpR op_eq (pv 2) pe_str (nomark _)) pss_dead (pss_one (ps_if (pt_cmpR op_eq (pv 2) pe_str (nomark _)) (pss_one (ps_expr (pe_bm PySem.F.plainAttrs_list PySem.F.slot_list_append PySem.F.type_list_append mt_append (pe_fld (pv 0) rfl) (pa_cons (pe_cX (cal_number_in T) hr (by decide) rfl pU (pa_cons (pv 3) (pa_cons pe_int (pa_cons (pe_op op_sub (pe_op op_shl pe_int (pv 1)) pe_int) pa_nil)))) pa_nil)))) pss_dead)))
  (pss_one (ps_ret (pe_cmpR op_notIn_seq pe_non (pe_fld (pv 0) rfl) (by with_unfolding_all rfl))))))), ?_⟩
  try dsimp only [cxK]
  obtain ⟨a, dx, ln, deed, g, r, n, wd, letter, word, rfl, ha, hrn, har, han, h4, h32, h⟩ := h
  rcases h with ⟨rfl, hn, hl, xs, hx, hxl, kq⟩ | ⟨rfl, rfl, hx, kq⟩
  · walk_at "rdo"
    refine r_fldO ha (c_Row T) (na_Row_reads T) lkR_reads ?_
    refine r_tyL (SqL.of hx) ?_
    walk_at "rdo"
    refine r_app hx (by omega) ?_
    walk_at "rdo"
    refine ⟨word, rfl, by omega, fun H1 s1 => ?_⟩
    rw [hn]
    exact kq _ (s1 _ _ upd_same) fun b o hb e => s1 _ _ (by rw [upd_ne hb]; exact e)
  · walk_at "rdo"
    refine r_fldO ha (c_Row T) (na_Row_numbers T) lkR_numbers ?_
    refine r_tyL (SqL.of hx) ?_
    walk_at "rdo"
    refine r_I ⟨by omega, by omega, by decide⟩ ?_
    rw [Int.one_mul]
    walk_at "rdo"
    have h16 : (16 : Int) ≤ 2 ^ wd.toNat := by
      have : (2 : Nat) ^ 4 ≤ 2 ^ wd.toNat := Nat.pow_le_pow_right (by decide) (by omega)
      have e : ((2 ^ wd.toNat : Nat) : Int) = (2 : Int) ^ wd.toNat := by simp
      have e4 : (2 : Nat) ^ 4 = 16 := by decide
      omega
    refine ⟨"3", 1, _, rfl, by decide +kernel, fun H1 s1 => ?_⟩
    rw [num3_in (by omega)]
    walk_at "rdo"
    refine r_app (s1 _ _ hx) (by decide) ?_
    walk_at "rdo"
    refine r_fldO (by rw [upd_ne han]; exact s1 _ _ ha) (c_Row T) (na_Row_numbers T) lkR_numbers ?_
    refine ⟨n, [.int 3], rfl, .inl (SqL.of upd_same), rfl, rfl, ?_⟩
    exact kq _ upd_same fun b o hb e => by rw [upd_ne hb]; exact s1 _ _ e
theorem cal_taken (T : Tx K mg) : CalX P w K mg base 3 "taken" (sp_taken K) [] := by
  obtain ⟨fd, F⟩ := fn_taken T
  exact ⟨_, fd, _, [], ok_taken T F, g_taken T, F.kp, F.bindsN fun _ _ _ _ _ _ us hl => match us, hl with | [_, _, _, _], _ => rfl, .nil⟩

end
section
variable {P : Program} {w : World} {K : PySem.W.Frag} {mg : Str → Option Value} {base : Heap}
def sp_Draft_init (K : PySem.W.Frag) : Sp := fun vs H Q _ => ∃ a dx, vs = [.ref a] ∧ H a = some (.ins (He.ga K "Draft") dx []) ∧
  ∀ A H', (∀ F, (∀ x ∈ A.fp a, F x = none) → DAt K F H' a DM0 A) → (∀ x ∈ A.fp a, x = a ∨ H x = none) → (∀ b, b ∉ A.fp a → H' b = H b) → Q .non H'
abbrev N_Draft_init : List Str := ["self"]
theorem sc_Draft_init : FnScope ["self"] ["self"] (defScope s_Draft_init) := ⟨rfl, rfl, rfl, by decide +kernel, rfl, by decide +kernel, by decide +kernel⟩
theorem ok_Draft_init {f : Addr} {fd : FuncData} (T : Tx K mg)  (F : FunP K "__init__" "Draft.__init__" s_Draft_init f fd) : FnOk P w K mg base (L2.CX P w) 1 f fd ["self"] (sp_Draft_init K) := by
  refine F.ok sc_Draft_init (fun vs H Q E h => ?_) (fun cdv A outer s H vs Q E hr h => ?_)
  · repeat first | (obtain ⟨e, _⟩ := h; subst e; rfl; done) | (obtain ⟨_, h⟩ := h)
  refine ⟨_, (pss_cons (ps_fld (pv 0) pe_int rfl)
  (pss_cons (ps_fld (pv 0) (pe_lst pa_nil) rfl)
  (pss_cons (ps_fld (pv 0) (pe_lst pa_nil) rfl)
  (pss_cons (ps_fld (pv 0) (pe_lst pa_nil) rfl)
  (pss_cons (ps_fld (pv 0) (pe_lst pa_nil) rfl)
  (pss_cons (ps_fld (pv 0) pe_dnewK rfl)
  (pss_one (ps_fld (pv 0) pe_dnewK rfl)))))))), ?_⟩
  try dsimp only [cxK]
  obtain ⟨a, dx, rfl, ha, kq⟩ := h
  walk_at "rdo"
  refine ⟨a, _, dx, _, rfl, ha, c_Draft T, na_Draft_width T, by decide, ?_⟩
  with_reducible refine r_seq ?_
  with_reducible refine r_newFld rfl upd_same (c_Draft T) (na_Draft_inputs T) ?_ ["width"] ?_ ?_ fun i H1 i0 ia i1 a1 f1 => ?_
  · show 1 < 1000; decide
  · exact rfl
  · decide +kernel
  with_reducible refine r_seq ?_
  with_reducible refine r_newFld rfl a1 (c_Draft T) (na_Draft_rows T) ?_ ["width", "inputs"] ?_ ?_ fun r H2 r0 ra r1 a2 f2 => ?_
  · show 2 < 1000; decide
  · exact rfl
  · decide +kernel
  with_reducible refine r_seq ?_
  with_reducible refine r_newFld rfl a2 (c_Draft T) (na_Draft_outs T) ?_ ["width", "inputs", "rows"] ?_ ?_ fun o H3 o0 oa o1 a3 f3 => ?_
  · show 3 < 1000; decide
  · exact rfl
  · decide +kernel
  with_reducible refine r_seq ?_
  with_reducible refine r_newFld rfl a3 (c_Draft T) (na_Draft_loops T) ?_ ["width", "inputs", "rows", "outs"] ?_ ?_ fun l H4 l0 la l1 a4 f4 => ?_
  · show 4 < 1000; decide
  · exact rfl
  · decide +kernel
  with_reducible refine r_seq ?_
  with_reducible refine r_newFldD rfl a4 (c_Draft T) (na_Draft_known T) ?_ ["width", "inputs", "rows", "outs", "loops"] ?_ ?_ fun k H5 k0 ka k1 a5 f5 => ?_
  · show 5 < 1000; decide
  · exact rfl
  · decide +kernel
  with_reducible refine r_newFldD rfl a5 (c_Draft T) (na_Draft_chosen T) ?_ ["width", "inputs", "rows", "outs", "loops", "known"] ?_ ?_ fun c H6 c0 ca c1 a6 f6 => ?_
  · show 6 < 1000; decide
  · exact rfl
  · decide +kernel
  have ne : ∀ {x y : Addr} {o : HO} {h : Hp}, h x = none → h y = some o → x ≠ y := fun h1 h2 z => by rw [z, h2] at h1; cases h1
  have ri := ne r0 i1
  have i2 : H2 i = some (.lst []) := by rw [f2 _ ia ri.symm]; exact i1
  have oi := ne o0 i2
  have or' := ne o0 r1
  have i3 : H3 i = some (.lst []) := by rw [f3 _ ia oi.symm]; exact i2
  have r3 : H3 r = some (.lst []) := by rw [f3 _ ra or'.symm]; exact r1
  have li := ne l0 i3
  have lr := ne l0 r3
  have lo := ne l0 o1
  have i4 : H4 i = some (.lst []) := by rw [f4 _ ia li.symm]; exact i3
  have r4 : H4 r = some (.lst []) := by rw [f4 _ ra lr.symm]; exact r3
  have o4 : H4 o = some (.lst []) := by rw [f4 _ oa lo.symm]; exact o1
  have ki := ne k0 i4
  have kr := ne k0 r4
  have ko := ne k0 o4
  have kl := ne k0 l1
  have i5 : H5 i = some (.lst []) := by rw [f5 _ ia ki.symm]; exact i4
  have r5 : H5 r = some (.lst []) := by rw [f5 _ ra kr.symm]; exact r4
  have o5 : H5 o = some (.lst []) := by rw [f5 _ oa ko.symm]; exact o4
  have l5 : H5 l = some (.lst []) := by rw [f5 _ la kl.symm]; exact l1
  have ci := ne c0 i5
  have cr := ne c0 r5
  have co := ne c0 o5
  have cl := ne c0 l5
  have ck := ne c0 k1
  have k2 := f6 k ka ck.symm
  refine kq ⟨dx, i, r, o, l, k, c, []⟩ H6 (fun F hF => ?_) ?_ ?_
  · refine ⟨a6, ⟨[], by rw [f6 _ ia ci.symm]; exact i5, rfl⟩, ⟨[], by rw [f6 _ ra cr.symm]; exact r5, rfl⟩, ⟨[], by rw [f6 _ oa co.symm]; exact o5, rfl⟩,
      ⟨[], by rw [f6 _ la cl.symm]; exact l5, rfl, rfl⟩, by rw [k2]; exact k1, ⟨[], c1, Nat.le_refl _, fun i => ⟨fun z => (by cases z), fun _ => rfl⟩⟩, ?_, hF⟩
    show List.Nodup [a, i, r, o, l, k, c]
    simp only [List.nodup_cons, List.mem_cons, List.not_mem_nil, not_or, not_false_eq_true, and_true, List.nodup_nil]
    exact ⟨⟨ia.symm, ra.symm, oa.symm, la.symm, ka.symm, ca.symm⟩, ⟨ri.symm, oi.symm, li.symm, ki.symm, ci.symm⟩, ⟨or'.symm, lr.symm, kr.symm, cr.symm⟩, ⟨lo.symm, ko.symm, co.symm⟩, ⟨kl.symm, cl.symm⟩, ck.symm⟩
  · have b0 : ∀ x, x ≠ a → upd H a (.ins (He.ga K "Draft") dx (putF "width" (V.int 0) [])) x = H x := fun x hx => upd_ne hx
    have e1 : H i = none := by rw [← b0 i ia]; exact i0
    have e2 : H r = none := by rw [← b0 r ra, ← f1 r ra ri]; exact r0
    have e3 : H o = none := by rw [← b0 o oa, ← f1 o oa oi, ← f2 o oa or']; exact o0
    have e4 : H l = none := by rw [← b0 l la, ← f1 l la li, ← f2 l la lr, ← f3 l la lo]; exact l0
    have e5 : H k = none := by rw [← b0 k ka, ← f1 k ka ki, ← f2 k ka kr, ← f3 k ka ko, ← f4 k ka kl]; exact k0
    have e6 : H c = none := by rw [← b0 c ca, ← f1 c ca ci, ← f2 c ca cr, ← f3 c ca co, ← f4 c ca cl, ← f5 c ca ck]; exact c0
    intro x hx
    simp only [DA.fp, List.mem_cons, List.not_mem_nil, or_false] at hx
    rcases hx with rfl | rfl | rfl | rfl | rfl | rfl | rfl
    · exact .inl rfl
    all_goals exact .inr (by assumption)
  · intro b hb
    simp only [DA.fp, List.mem_cons, List.not_mem_nil, or_false, not_or] at hb
    obtain ⟨b1, b2, b3, b4, b5, b6, b7⟩ := hb
    rw [f6 b b1 b7, f5 b b1 b6, f4 b b1 b5, f3 b b1 b4, f2 b b1 b3, f1 b b1 b2, upd_ne b1]
theorem mak_Draft (T : Tx K mg) : MakX P w K mg base 1 "Draft" (He.ga K "Draft") (sp_Draft_init K) := by
  obtain ⟨fd, F⟩ := fn_Draft_init T
  exact ⟨_, fd, _, mk_Draft T, ok_Draft_init T F, g_Draft T, F.bindsN fun _ _ _ _ _ _ us hl => match us, hl with | [_], _ => rfl⟩

end
section
variable {P : Program} {w : World} {K : PySem.W.Frag} {mg : Str → Option Value} {base : Heap}
def sp_Draft_block (K : PySem.W.Frag) : Sp := fun vs H Q _ => ∃ d F M A, vs = [.ref d] ∧ Same F H ∧ DAt K F H d M A ∧ Rt H Q (.ref A.blk)
abbrev N_Draft_block : List Str := ["self"]
theorem sc_Draft_block : FnScope ["self"] ["self"] (defScope s_Draft_block) := ⟨rfl, rfl, rfl, by decide +kernel, rfl, by decide +kernel, by decide +kernel⟩
theorem ok_Draft_block {f : Addr} {fd : FuncData} (T : Tx K mg)  (F : FunP K "block" "Draft.block" s_Draft_block f fd) : FnOk P w K mg base (L2.CX P w) 1 f fd ["self"] (sp_Draft_block K) := by
  refine F.ok sc_Draft_block (fun vs H Q E h => ?_) (fun cdv A outer s H vs Q E hr h => ?_)
  · repeat first | (obtain ⟨e, _⟩ := h; subst e; rfl; done) | (obtain ⟨_, h⟩ := h)
  refine ⟨_, (pss_cons (ps_if (pt_cmpR (op_eqE (hu64 hr)) (pe_fld (pv 0) rfl) (pe_lst pa_nil) (nomark _)) (pss_one (ps_ret (pe_fld (pv 0) rfl))) pss_nil)
  (pss_one (ps_ret (pe_fld (pe_ix ix_list (pe_fld (pv 0) rfl) (pe_un un_neg pe_int) (fun _ _ => rfl)) rfl)))), ?_⟩
  try dsimp only [cxK]
  obtain ⟨d, F, M, A, rfl, S, D, kq⟩ := h
  walk_at "rdo"
  refine r_fldO D.o (c_Draft T) (na_Draft_loops T) lkD_loops ?_
  walk_at "rdo"
  refine r_newL fun q hq => ?_
  have s1 : Same H (upd H q (.lst [])) := Same.new hq
  have D1 := D.same s1
  obtain ⟨v, hl1, hl2⟩ := D1.l
  have hlen := hl2.len
  cases hM : M.loops with
  | nil =>
    rw [hM] at hl2
    obtain ⟨rfl, ers⟩ := hl2
    refine r_eqE0 (SqL.of hl1) (SqL.of upd_same) ?_
    walk_at "rdo"
    refine r_fldO D1.o (c_Draft T) (na_Draft_rows T) lkD_rows ?_
    have e : A.blk = A.r := by unfold DA.blk; rw [ers]
    rw [e] at kq
    exact kq.go s1
  | cons x l =>
    rw [hM] at hl2 hlen
    refine r_eqE1 (SqL.of hl1) (SqL.of upd_same) (by rw [hlen]; exact fun z => nomatch z) ?_
    walk_at "rdo"
    refine r_fldO D1.o (c_Draft T) (na_Draft_loops T) lkD_loops ?_
    walk_at "rdo"
    obtain ⟨a, b, y⟩ := x
    obtain ⟨p, dx, r, ws, vs', rs', e1, e2, h1, h2, h4, h5⟩ := hl2
    rw [e1] at hl1
    refine r_ixL (SqL.of hl1) atLast ?_
    walk_at "rdo"
    refine r_fldO (s1 _ _ (S _ _ h1)) (c_Repeat T) (na_Repeat_rows T) lkP_rows ?_
    have e : A.blk = r := by unfold DA.blk; rw [e2]
    rw [e] at kq
    exact kq.go s1
theorem met_Draft_block (T : Tx K mg) : ∀ C, C = He.ga K "Draft" → MetX P w K mg base 1 C "block" (sp_Draft_block K) := by
  rintro C rfl
  obtain ⟨fd, F⟩ := fn_Draft_block T
  exact ⟨_, fd, _, c_Draft T, m_Draft_block T, ok_Draft_block T F, F.bindsN fun _ _ _ _ _ _ us hl => match us, hl with | [_], _ => rfl⟩

end
section
variable {P : Program} {w : World} {K : PySem.W.Frag} {mg : Str → Option Value} {base : Heap}
def sp_Draft_take_width (K : PySem.W.Frag) : Sp := fun vs H Q _ => ∃ d aw w F M A, vs = [.ref d, .ref aw] ∧ F aw = some (.lst ((Ln.width w).words.map V.str)) ∧ Same F H ∧ DAt K F H d M A ∧ M.ins = [] ∧ M.chosen = [] ∧
  numberIn (num w) 4 32 = some w ∧ (num w).length ≤ 100 ∧ PostD K F d { M with wd := w } Q
abbrev N_Draft_take_width : List Str := ["self", "words"]
theorem sc_Draft_take_width : FnScope ["self", "words"] ["self", "words"] (defScope s_Draft_take_width) := ⟨rfl, rfl, rfl, by decide +kernel, rfl, by decide +kernel, by decide +kernel⟩
theorem ok_Draft_take_width {f : Addr} {fd : FuncData} (T : Tx K mg)  (F : FunP K "take_width" "Draft.take_width" s_Draft_take_width f fd) : FnOk P w K mg base (L2.CX P w) 3 f fd ["self", "words"] (sp_Draft_take_width K) := by
  refine F.ok sc_Draft_take_width (fun vs H Q E h => ?_) (fun cdv A outer s H vs Q E hr h => ?_)
  · repeat first | (obtain ⟨e, _⟩ := h; subst e; rfl; done) | (obtain ⟨_, h⟩ := h)
  refine ⟨_, (pss_cons (ps_if (PW.pt (pw_or (pt_cmpR op_ne (pe_callB call_len_seq (by rfl) (fr_len T) (by decide +kernel) (pa_cons (pv 1) pa_nil)) pe_int (nomark _)) (pw_or1 (pt_cmpR op_ne (pe_ix ix_list (pv 1) pe_int (fun _ _ => rfl)) pe_str (nomark _))))) (pss_one (ps_ret pe_bl)) pss_nil)
  (pss_cons (ps_fld (pv 0) (pe_cX (cal_number_in T) hr (by decide) rfl pU (pa_cons (pe_ix ix_list (pv 1) pe_int (fun _ _ => rfl)) (pa_cons pe_int (pa_cons pe_int pa_nil)))) rfl)
  (pss_one (ps_ret (pe_cmp (pc_notN (pe_fld (pv 0) rfl))))))), ?_⟩
  try dsimp only [cxK]
  obtain ⟨d, aw, w, F, M, A, rfl, hw, S, D, hi, hc, hn, hl, kq⟩ := h
  walk_at "rdo"
  refine r_lenL (SqL.of (S _ _ hw)) ?_
  walk_at "rdo"
  refine r_ixL (SqL.of (S _ _ hw)) at0 ?_
  walk_at "rdo"
  refine r_ixL (SqL.of (S _ _ hw)) at1 ?_
  walk_at "rdo"
  refine ⟨num w, 4, 32, rfl, by omega, fun H1 s1 => ?_⟩
  rw [hn]
  walk_at "rdo"
  have D1 := D.same s1
  refine ⟨d, _, A.dx, _, rfl, D1.o, c_Draft T, na_Draft_width T, (by show 7 < 1000; decide), ?_⟩
  walk_at "rdo"
  have D2 := D1.setW w hi hc
  have e2 : putF ("width" : Str) (oI (some w)) (draftFs M.wd A.i A.r A.o A.l A.k A.c) = draftFs w A.i A.r A.o A.l A.k A.c := rfl
  rw [e2]
  refine r_fldO D2.o (c_Draft T) (na_Draft_width T) lkD_width ?_
  rw [show (!decide (V.int w = V.non)) = true by simp]
  exact kq F A _ (Same.refl F) (same_updN (S.trans s1) (D.fz d (by simp [DA.fp]))) D2
theorem met_Draft_take_width (T : Tx K mg) : ∀ C, C = He.ga K "Draft" → MetX P w K mg base 3 C "take_width" (sp_Draft_take_width K) := by
  rintro C rfl
  obtain ⟨fd, F⟩ := fn_Draft_take_width T
  exact ⟨_, fd, _, c_Draft T, m_Draft_take_width T, ok_Draft_take_width T F, F.bindsN fun _ _ _ _ _ _ us hl => match us, hl with | [_, _], _ => rfl⟩

end
section
variable {P : Program} {w : World} {K : PySem.W.Frag} {mg : Str → Option Value} {base : Heap}
def sp_Draft_take_in (K : PySem.W.Frag) : Sp := fun vs H Q _ => ∃ d ln aw nm F M A, vs = [.ref d, .int ln, .ref aw] ∧ F aw = some (.lst ((Ln.inp nm).words.map V.str)) ∧ Same F H ∧ DAt K F H d M A ∧ M.rows = .nil ∧ M.loops = [] ∧ M.outs = [] ∧
  isName nm = true ∧ nm.length ≤ 100 ∧ 4 ≤ M.wd ∧ M.wd ≤ 32 ∧ M.ins.length ≤ 1000 ∧ M.known.length ≤ 1000 ∧ PostD K F d { M with ins := M.ins ++ [(ln, nm)], known := putN M.known nm } Q
abbrev N_Draft_take_in : List Str := ["self", "line", "words", "kind"]
theorem sc_Draft_take_in : FnScope ["self", "line", "words", "kind"] ["self", "line", "words"] (defScope s_Draft_take_in) := ⟨rfl, rfl, rfl, by decide +kernel, rfl, by decide +kernel, by decide +kernel⟩
theorem ok_Draft_take_in {f : Addr} {fd : FuncData} (T : Tx K mg)  (F : FunP K "take_in" "Draft.take_in" s_Draft_take_in f fd) : FnOk P w K mg base (L2.CX P w) 8 f fd ["self", "line", "words"] (sp_Draft_take_in K) := by
  refine F.ok sc_Draft_take_in (fun vs H Q E h => ?_) (fun cdv A outer s H vs Q E hr h => ?_)
  · repeat first | (obtain ⟨e, _⟩ := h; subst e; rfl; done) | (obtain ⟨_, h⟩ := h)
  refine ⟨_, (pss_cons (ps_if (PW.pt (pw_or (pt_cmpR (op_neE (hu64 hr)) (pe_fld (pv 0) rfl) (pe_lst pa_nil) (nomark _)) (pw_or (pt_cmpR (op_neE (hu64 hr)) (pe_fld (pv 0) rfl) (pe_lst pa_nil) (nomark _)) (pw_or (pt_cmpR (op_neE (hu64 hr)) (pe_fld (pv 0) rfl) (pe_lst pa_nil) (nomark _)) (pw_or (pt_cmpR op_lt (pe_callB call_len_seq (by rfl) (fr_len T) (by decide +kernel) (pa_cons (pv 2) pa_nil)) pe_int (nomark _)) (pw_or1 (pt_not (pt_val (pe_cX (cal_is_name T) hr (by decide) rfl pU (pa_cons (pe_ix ix_list (pv 2) pe_int (fun _ _ => rfl)) pa_nil)))))))))) (pss_one (ps_ret pe_bl)) pss_nil)
  (pss_cons (ps_set (i := 3) sc_Draft_take_in.nd rfl (Or.inl rfl) (pe_cX (cal_kind_in T) hr (by decide) rfl pU (pa_cons (pe_fld (pv 0) rfl) (pa_cons (pe_slice sl_list (pv 2) (po_some pe_int) po_none) pa_nil))))
  (pss_cons (ps_expr (pe_bm PySem.F.plainAttrs_list PySem.F.slot_list_append PySem.F.type_list_append mt_append (pe_fld (pv 0) rfl) (pa_cons (pe_tup (pa_cons (pv 1) (pa_cons (pe_ix ix_list (pv 2) pe_int (fun _ _ => rfl)) (pa_cons (pv 3) pa_nil)))) pa_nil)))
  (pss_cons (ps_dput (hu_of hr) (pe_fld (pv 0) rfl) (pe_ix ix_list (pv 2) pe_int (fun _ _ => rfl)) pe_bl rfl)
  (pss_one (ps_ret (pe_cmp (pc_notN (pv 3))))))))), ?_⟩
  try dsimp only [cxK]
  obtain ⟨d, ln, aw, nm, F, M, A, rfl, hw, S, D, hr0, hl0, ho0, hn, hnl, h4, h32, hil, hkl, kq⟩ := h
  walk_at "rdo"
  refine r_fldO D.o (c_Draft T) (na_Draft_rows T) lkD_rows ?_
  walk_at "rdo"
  refine r_newL fun q1 hq1 => ?_
  have s1 : Same H (upd H q1 (.lst [])) := Same.new hq1
  have S1 := S.trans s1
  have D1 := D.same s1
  obtain ⟨vr, r1, r2⟩ := D1.r
  rw [hr0] at r2; cases r2
  refine r_neE0 (SqL.of r1) (SqL.of upd_same) ?_
  clear r1
  generalize upd H q1 (.lst []) = H1 at *
  walk_at "rdo"
  refine r_fldO D1.o (c_Draft T) (na_Draft_loops T) lkD_loops ?_
  walk_at "rdo"
  refine r_newL fun q2 hq2 => ?_
  have s2 : Same H1 (upd H1 q2 (.lst [])) := Same.new hq2
  have S2 : Same F (upd H1 q2 (.lst [])) := fun a u e => s2 a u (S1 a u e)
  have D2 := D1.same s2
  obtain ⟨vl, l1, l2⟩ := D2.l
  have ll := l2.len
  rw [hl0] at ll
  have el : vl = [] := List.eq_nil_of_length_eq_zero ll
  subst el
  refine r_neE0 (SqL.of l1) (SqL.of upd_same) ?_
  clear l1 l2
  generalize upd H1 q2 (.lst []) = H2 at *
  walk_at "rdo"
  refine r_fldO D2.o (c_Draft T) (na_Draft_outs T) lkD_outs ?_
  walk_at "rdo"
  refine r_newL fun q3 hq3 => ?_
  have s3 : Same H2 (upd H2 q3 (.lst [])) := Same.new hq3
  have S3 : Same F (upd H2 q3 (.lst [])) := fun a u e => s3 a u (S2 a u e)
  have D3 := D2.same s3
  obtain ⟨vo, o1, o2⟩ := D3.u
  rw [ho0] at o2; cases o2
  refine r_neE0 (SqL.of o1) (SqL.of upd_same) ?_
  clear o1
  generalize upd H2 q3 (.lst []) = H3 at *
  walk_at "rdo"
  refine r_lenL (SqL.of (S3 _ _ hw)) ?_
  walk_at "rdo"
  refine r_ixL (SqL.of (S3 _ _ hw)) at1 ?_
  walk_at "rdo"
  refine ⟨nm, rfl, by omega, fun H4 s4 => ?_⟩
  rw [hn]
  have S4 : Same F H4 := fun a u e => s4 a u (S3 a u e)
  have D4 := D3.same s4
  walk_at "rdo"
  refine r_fldO D4.o (c_Draft T) (na_Draft_width T) lkD_width ?_
  walk_at "rdo"
  refine r_slL (SqL.of (S4 _ _ hw)) fun q5 hq5 => ?_
  have s5 : Same H4 (upd H4 q5 (.lst (cutV ((Ln.inp nm).words.map V.str) (some 2) none))) := Same.new hq5
  have S5 : Same F (upd H4 q5 (.lst (cutV ((Ln.inp nm).words.map V.str) (some 2) none))) := fun a u e => s5 a u (S4 a u e)
  have D5 := D4.same s5
  walk_at "rdo"
  refine ⟨M.wd, q5, rfl, by rw [upd_same]; rfl, h4, h32, fun k H6 hk s6 K6 => ?_⟩
  have S6 : Same F H6 := fun a u e => s6 a u (S5 a u e)
  have D6 := D5.same s6
  clear s6 S5 D5
  walk_at "rdo"
  refine r_fldO D6.o (c_Draft T) (na_Draft_inputs T) lkD_inputs ?_
  obtain ⟨vi, i1, i2⟩ := D6.i
  have il := i2.len
  refine r_tyL (SqL.of i1) ?_
  walk_at "rdo"
  refine r_ixL (SqL.of (S6 _ _ hw)) at1 ?_
  walk_at "rdo"
  refine r_newL fun t ht => ?_
  have st := Same.new (o := .tup [.int ln, .str nm, .ref k]) ht
  have D7 := D6.same st
  have it := D6.fresh ht
  have ik : k ∉ A.fp d := (D4.same s5).fresh hk
  obtain ⟨F8, f1, f2, D8, f3⟩ := D7.freeze (fun a u e => st a u (S6 a u e))
  have et := f3 t _ it upd_same
  have ek : KindAt K F8 k ⟨.plain, M.wd, 0⟩ := (K6.on st).move fun o e => f3 k o ik e
  have i3 := st _ _ i1
  generalize upd H6 t (.tup [.int ln, .str nm, .ref k]) = H7 at *
  walk_at "rdo"
  refine r_app i3 (by omega) ?_
  have D9 := D8.addI i3 et ek
  have m := A.mem d
  have S9 : Same F8 (upd H7 A.i (.lst (vi ++ [.ref t]))) := same_updN f2 (D8.fz _ m.2.1)
  generalize upd H7 A.i (.lst (vi ++ [.ref t])) = H9 at *
  walk_at "rdo"
  refine r_fldO D9.o (c_Draft T) (na_Draft_known T) lkD_known ?_
  walk_at "rdo"
  refine r_ixL (SqL.of (S9 _ _ (f1 _ _ hw))) at1 ?_
  refine r_dputS D9.k (by unfold knownD; rw [List.length_map]; show M.known.length ≤ _; omega) ?_
  have D10 := D9.know nm
  have S10 := same_updN (o := .dK (putK (knownD M.known) (Sum.inr nm) (.bl true))) S9 (D9.fz _ m.2.2.2.2.2.1)
  walk_at "rdo"
  rw [show (!decide (V.ref k = V.non)) = true by simp]
  exact kq F8 A _ f1 S10 D10
theorem met_Draft_take_in (T : Tx K mg) : ∀ C, C = He.ga K "Draft" → MetX P w K mg base 8 C "take_in" (sp_Draft_take_in K) := by
  rintro C rfl
  obtain ⟨fd, F⟩ := fn_Draft_take_in T
  exact ⟨_, fd, _, c_Draft T, m_Draft_take_in T, ok_Draft_take_in T F, F.bindsN fun _ _ _ _ _ _ us hl => match us, hl with | [_, _, _], _ => rfl⟩

end
section
variable {P : Program} {w : World} {K : PySem.W.Frag} {mg : Str → Option Value} {base : Heap}
def sp_Draft_take_out (K : PySem.W.Frag) : Sp := fun vs H Q _ => ∃ d ln aw nm F M A, vs = [.ref d, .int ln, .ref aw] ∧ F aw = some (.lst ((Ln.out nm).words.map V.str)) ∧ Same F H ∧ DAt K F H d M A ∧ M.loops = [] ∧
  isName nm = true ∧ nm.length ≤ 100 ∧ M.outs.length ≤ 1000 ∧ PostD K F d { M with outs := M.outs ++ [(ln, nm)] } Q
abbrev N_Draft_take_out : List Str := ["self", "line", "words"]
theorem sc_Draft_take_out : FnScope ["self", "line", "words"] ["self", "line", "words"] (defScope s_Draft_take_out) := ⟨rfl, rfl, rfl, by decide +kernel, rfl, by decide +kernel, by decide +kernel⟩
theorem ok_Draft_take_out {f : Addr} {fd : FuncData} (T : Tx K mg)  (F : FunP K "take_out" "Draft.take_out" s_Draft_take_out f fd) : FnOk P w K mg base (L2.CX P w) 3 f fd ["self", "line", "words"] (sp_Draft_take_out K) := by
  refine F.ok sc_Draft_take_out (fun vs H Q E h => ?_) (fun cdv A outer s H vs Q E hr h => ?_)
  · repeat first | (obtain ⟨e, _⟩ := h; subst e; rfl; done) | (obtain ⟨_, h⟩ := h)
  refine ⟨_, (pss_cons (ps_if (PW.pt (pw_or (pt_cmpR (op_neE (hu64 hr)) (pe_fld (pv 0) rfl) (pe_lst pa_nil) (nomark _)) (pw_or (pt_cmpR op_ne (pe_callB call_len_seq (by rfl) (fr_len T) (by decide +kernel) (pa_cons (pv 2) pa_nil)) pe_int (nomark _)) (pw_or1 (pt_not (pt_val (pe_cX (cal_is_name T) hr (by decide) rfl pU (pa_cons (pe_ix ix_list (pv 2) pe_int (fun _ _ => rfl)) pa_nil)))))))) (pss_one (ps_ret pe_bl)) pss_nil)
  (pss_cons (ps_expr (pe_bm PySem.F.plainAttrs_list PySem.F.slot_list_append PySem.F.type_list_append mt_append (pe_fld (pv 0) rfl) (pa_cons (pe_tup (pa_cons (pv 1) (pa_cons (pe_ix ix_list (pv 2) pe_int (fun _ _ => rfl)) pa_nil))) pa_nil)))
  (pss_one (ps_ret pe_bl)))), ?_⟩
  try dsimp only [cxK]
  obtain ⟨d, ln, aw, nm, F, M, A, rfl, hw, S, D, hl0, hn, hnl, hol, kq⟩ := h
  walk_at "rdo"
  refine r_fldO D.o (c_Draft T) (na_Draft_loops T) lkD_loops ?_
  walk_at "rdo"
  refine r_newL fun q2 hq2 => ?_
  have s2 : Same H (upd H q2 (.lst [])) := Same.new hq2
  have S2 : Same F (upd H q2 (.lst [])) := fun a u e => s2 a u (S a u e)
  have D2 := D.same s2
  obtain ⟨vl, l1, l2⟩ := D2.l
  have ll := l2.len
  rw [hl0] at ll
  have el : vl = [] := List.eq_nil_of_length_eq_zero ll
  subst el
  refine r_neE0 (SqL.of l1) (SqL.of upd_same) ?_
  clear l1 l2
  generalize upd H q2 (.lst []) = H2 at *
  walk_at "rdo"
  refine r_lenL (SqL.of (S2 _ _ hw)) ?_
  walk_at "rdo"
  refine r_ixL (SqL.of (S2 _ _ hw)) at1 ?_
  walk_at "rdo"
  refine ⟨nm, rfl, by omega, fun H4 s4 => ?_⟩
  rw [hn]
  have S4 : Same F H4 := fun a u e => s4 a u (S2 a u e)
  have D4 := D2.same s4
  walk_at "rdo"
  refine r_fldO D4.o (c_Draft T) (na_Draft_outs T) lkD_outs ?_
  obtain ⟨vo, o1, o2⟩ := D4.u
  have ol := o2.len
  refine r_tyL (SqL.of o1) ?_
  walk_at "rdo"
  refine r_ixL (SqL.of (S4 _ _ hw)) at1 ?_
  walk_at "rdo"
  refine r_newL fun t ht => ?_
  have st := Same.new (o := .tup [.int ln, .str nm]) ht
  have D7 := D4.same st
  have it := D4.fresh ht
  obtain ⟨F8, f1, f2, D8, f3⟩ := D7.freeze (fun a u e => st a u (S4 a u e))
  have et := f3 t _ it upd_same
  have o3 := st _ _ o1
  generalize upd H4 t (.tup [.int ln, .str nm]) = H7 at *
  walk_at "rdo"
  refine r_app o3 (by omega) ?_
  have D9 := D8.addO o3 et
  have m := A.mem d
  have S9 := same_updN (o := .lst (vo ++ [.ref t])) f2 (D8.fz _ m.2.2.2.1)
  walk_at "rdo"
  exact kq F8 A _ f1 S9 D9
theorem met_Draft_take_out (T : Tx K mg) : ∀ C, C = He.ga K "Draft" → MetX P w K mg base 3 C "take_out" (sp_Draft_take_out K) := by
  rintro C rfl
  obtain ⟨fd, F⟩ := fn_Draft_take_out T
  exact ⟨_, fd, _, c_Draft T, m_Draft_take_out T, ok_Draft_take_out T F, F.bindsN fun _ _ _ _ _ _ us hl => match us, hl with | [_, _, _], _ => rfl⟩

end
section
variable {P : Program} {w : World} {K : PySem.W.Frag} {mg : Str → Option Value} {base : Heap}
def sp_Draft_take_repeat (K : PySem.W.Frag) : Sp := fun vs H Q _ => ∃ d ln aw n F M A, vs = [.ref d, .int ln, .ref aw] ∧ F aw = some (.lst ((Ln.rep n).words.map V.str)) ∧ Same F H ∧ DAt K F H d M A ∧
  numberIn (num n) 1 32 = some n ∧ (num n).length ≤ 100 ∧ M.loops.length ≤ 1000 ∧ PostD K F d { M with loops := (ln, n, .nil) :: M.loops } Q
abbrev N_Draft_take_repeat : List Str := ["self", "line", "words", "times"]
theorem sc_Draft_take_repeat : FnScope ["self", "line", "words", "times"] ["self", "line", "words"] (defScope s_Draft_take_repeat) := ⟨rfl, rfl, rfl, by decide +kernel, rfl, by decide +kernel, by decide +kernel⟩
theorem ok_Draft_take_repeat {f : Addr} {fd : FuncData} (T : Tx K mg)  (F : FunP K "take_repeat" "Draft.take_repeat" s_Draft_take_repeat f fd) : FnOk P w K mg base (L2.CX P w) 3 f fd ["self", "line", "words"] (sp_Draft_take_repeat K) := by
  refine F.ok sc_Draft_take_repeat (fun vs H Q E h => ?_) (fun cdv A outer s H vs Q E hr h => ?_)
  · repeat first | (obtain ⟨e, _⟩ := h; subst e; rfl; done) | (obtain ⟨_, h⟩ := h)
  refine ⟨_, (pss_cons (ps_if (pt_cmpR op_ne (pe_callB call_len_seq (by rfl) (fr_len T) (by decide +kernel) (pa_cons (pv 2) pa_nil)) pe_int (nomark _)) (pss_one (ps_ret pe_bl)) pss_nil)
  (pss_cons (ps_set (i := 3) sc_Draft_take_repeat.nd rfl (Or.inl rfl) (pe_cX (cal_number_in T) hr (by decide) rfl pU (pa_cons (pe_ix ix_list (pv 2) pe_int (fun _ _ => rfl)) (pa_cons pe_int (pa_cons (pe_gint rfl (i_MOST_TURNS T)) pa_nil)))))
  (pss_cons (ps_expr (pe_bm PySem.F.plainAttrs_list PySem.F.slot_list_append PySem.F.type_list_append mt_append (pe_fld (pv 0) rfl) (pa_cons (pe_kX (mak_Repeat T) hr (by decide) rfl pU (pa_cons (pv 1) (pa_cons (pv 3) pa_nil))) pa_nil)))
  (pss_one (ps_ret (pe_cmp (pc_notN (pv 3)))))))), ?_⟩
  try dsimp only [cxK]
  obtain ⟨d, ln, aw, n, F, M, A, rfl, hw, S, D, hn, hnl, hll, kq⟩ := h
  walk_at "rdo"
  refine r_lenL (SqL.of (S _ _ hw)) ?_
  walk_at "rdo"
  refine r_ixL (SqL.of (S _ _ hw)) at1 ?_
  walk_at "rdo"
  refine ⟨num n, 1, 32, rfl, by omega, fun H1 s1 => ?_⟩
  rw [hn]
  have S1 : Same F H1 := fun a u e => s1 a u (S a u e)
  have D1 := D.same s1
  walk_at "rdo"
  refine r_fldO D1.o (c_Draft T) (na_Draft_loops T) lkD_loops ?_
  obtain ⟨vl, l1, l2⟩ := D1.l
  have ll := l2.len
  refine r_tyL (SqL.of l1) ?_
  walk_at "rdo"
  intro x dx hx hdx hne
  refine ⟨x, dx, ln, n, rfl, upd_same, fun r H2 hr r2 x2 fr => ⟨rfl, ?_⟩⟩
  have rx : r ≠ x := fun z => by rw [z, upd_same] at hr; cases hr
  have rd : r ≠ dx := fun z => by rw [upd_ne rx, z, upd_same] at hr; cases hr
  have hr1 : H1 r = none := by rw [upd_ne rx, upd_ne rd] at hr; exact hr
  have s2 : Same H1 H2 := fun a u e => by
    rw [fr a (ne_of_none e hx) (ne_of_none e hr1), upd_ne (ne_of_none e hx), upd_ne (ne_of_none e hdx)]; exact e
  have D2 := D1.same s2
  have ix := D1.fresh hx
  have ir := D1.fresh hr1
  -- all but the new rows' list is frozen
  obtain ⟨F3, f1, f2, D3, f3⟩ := D2.freeze (fun a u e => s2 a u (S1 a u e))
  have F3r := f3 r _ ir r2
  have F3x := f3 x _ ix x2
  have fr0 : F r = none := by
    cases e : F r with
    | none => rfl
    | some o => rw [S1 _ _ e] at hr1; cases hr1
  have g1 : Same F (del F3 r) := fun a u e => by
    have : a ≠ r := fun z => by rw [z, fr0] at e; cases e
    rw [del_ne this]; exact f1 a u e
  have g2 : Same (del F3 r) F3 := fun a u e => by
    by_cases z : a = r
    · subst z; rw [del_same] at e; cases e
    · rwa [del_ne z] at e
  have gz : ∀ y ∈ A.fp d, del F3 r y = none := fun y hy => by
    have hyr : y ≠ r := fun z => ir (by rw [← z]; exact hy)
    rw [del_ne hyr]
    exact D3.fz y hy
  have D4 := (D2.froze g1 gz)
  have g3 : Same (del F3 r) H2 := fun a u e => f2 a u (g2 a u e)
  have l3 := s2 _ _ l1
  walk_at "rdo"
  refine r_app l3 (by omega) ?_
  have D5 := D4.push l3 (by rw [del_ne rx.symm]; exact F3x) r2 ir del_same
  have S5 := same_updN (o := .lst (vl ++ [.ref x])) g3 (gz _ (A.mem d).2.2.2.2.1)
  walk_at "rdo"
  show Q (.bl (!decide (V.int n = V.non))) _
  rw [show (!decide (V.int n = V.non)) = true by simp]
  exact kq _ _ _ g1 S5 D5
theorem met_Draft_take_repeat (T : Tx K mg) : ∀ C, C = He.ga K "Draft" → MetX P w K mg base 3 C "take_repeat" (sp_Draft_take_repeat K) := by
  rintro C rfl
  obtain ⟨fd, F⟩ := fn_Draft_take_repeat T
  exact ⟨_, fd, _, c_Draft T, m_Draft_take_repeat T, ok_Draft_take_repeat T F, F.bindsN fun _ _ _ _ _ _ us hl => match us, hl with | [_, _, _], _ => rfl⟩

end
section
variable {P : Program} {w : World} {K : PySem.W.Frag} {mg : Str → Option Value} {base : Heap}
def sp_Draft_take_end (K : PySem.W.Frag) : Sp := fun vs H Q _ => ∃ d F M A ln tm body l, vs = [.ref d] ∧ Same F H ∧ DAt K F H d M A ∧ M.loops = (ln, tm, body) :: l ∧ body ≠ .nil ∧ ({ M with loops := l } : DM).top.len ≤ 1000 ∧
  PostD K F d (addR { M with loops := l } (.rep ln tm body .nil)) Q
abbrev N_Draft_take_end : List Str := ["self", "loop"]
theorem sc_Draft_take_end : FnScope ["self", "loop"] ["self"] (defScope s_Draft_take_end) := ⟨rfl, rfl, rfl, by decide +kernel, rfl, by decide +kernel, by decide +kernel⟩
theorem ok_Draft_take_end {f : Addr} {fd : FuncData} (T : Tx K mg)  (F : FunP K "take_end" "Draft.take_end" s_Draft_take_end f fd) : FnOk P w K mg base (L2.CX P w) 2 f fd ["self"] (sp_Draft_take_end K) := by
  refine F.ok sc_Draft_take_end (fun vs H Q E h => ?_) (fun cdv A outer s H vs Q E hr h => ?_)
  · repeat first | (obtain ⟨e, _⟩ := h; subst e; rfl; done) | (obtain ⟨_, h⟩ := h)
  refine ⟨_, (pss_cons (ps_if (PW.pt (pw_or (pt_cmpR (op_eqE (hu64 hr)) (pe_fld (pv 0) rfl) (pe_lst pa_nil) (nomark _)) (pw_or1 (pt_cmpR (op_eqE (hu64 hr)) (pe_fld (pe_ix ix_list (pe_fld (pv 0) rfl) (pe_un un_neg pe_int) (fun _ _ => rfl)) rfl) (pe_lst pa_nil) (nomark _))))) (pss_one (ps_ret pe_bl)) pss_nil)
  (pss_cons (ps_set (i := 1) sc_Draft_take_end.nd rfl (Or.inl rfl) (pe_bm0 PySem.F.plainAttrs_list PySem.F.slot_list_pop PySem.F.type_list_pop mt_pop (pe_fld (pv 0) rfl)))
  (pss_cons (ps_expr (pe_bm PySem.F.plainAttrs_list PySem.F.slot_list_append PySem.F.type_list_append mt_append (pe_mX0 (met_Draft_block T) hr (by decide) pU (pv 0)) (pa_cons (pv 1) pa_nil)))
  (pss_one (ps_ret pe_bl))))), ?_⟩
  try dsimp only [cxK]
  obtain ⟨d, F, M, A, ln, tm, body, l, rfl, S, D, hl, hb, htl, kq⟩ := h
  walk_at "rdo"
  refine r_fldO D.o (c_Draft T) (na_Draft_loops T) lkD_loops ?_
  walk_at "rdo"
  refine r_newL fun q hq => ?_
  have s1 : Same H (upd H q (.lst [])) := Same.new hq
  have S1 := S.trans s1
  have D1 := D.same s1
  obtain ⟨a, dx, r, ws, v, rs', ers, l1, ha, hr, hrows, D2, R2, fr⟩ := D1.pop hl
  refine r_eqE1 (SqL.of l1) (SqL.of upd_same) (by simp) ?_
  generalize upd H q (.lst []) = H1 at *
  walk_at "rdo"
  refine r_fldO D1.o (c_Draft T) (na_Draft_loops T) lkD_loops ?_
  walk_at "rdo"
  refine r_ixL (SqL.of l1) atLast ?_
  walk_at "rdo"
  refine r_fldO (S1 _ _ ha) (c_Repeat T) (na_Repeat_rows T) lkP_rows ?_
  walk_at "rdo"
  refine r_newL fun q2 hq2 => ?_
  have s2 : Same H1 (upd H1 q2 (.lst [])) := Same.new hq2
  have hne : ws.length ≠ 0 := fun z => hb (hrows.nil_iff.mp (List.eq_nil_of_length_eq_zero z))
  refine r_eqE1 (SqL.of (s2 _ _ hr)) (SqL.of upd_same) hne ?_
  have D1' := D1.same s2
  have S2 : Same F (upd H1 q2 (.lst [])) := fun a u e => s2 a u (S1 a u e)
  have l2 := s2 _ _ l1
  have hr2 := s2 _ _ hr
  clear D2
  generalize upd H1 q2 (.lst []) = H2 at *
  obtain ⟨a', dx', r', ws', v', rs'', ers', l1', ha', hr', hrows', D2, R2', fr'⟩ := D1'.pop hl
  have er : r' = r := by rw [ers] at ers'; injection ers' with h1 h2; exact h1.symm
  subst er
  rw [l2] at l1'
  have ev := Option.some.inj l1'
  injection ev with ev
  have ev2 := List.append_inj' ev rfl
  have ea : a' = a := by have := ev2.2; injection this with h1 _; injection h1 with h1; exact h1.symm
  subst ea
  rw [← ev2.1] at D2
  rw [hr2] at hr'
  have ews : ws' = ws := by have := Option.some.inj hr'; injection this with h1; exact h1.symm
  subst ews
  walk_at "rdo"
  refine r_fldO D1'.o (c_Draft T) (na_Draft_loops T) lkD_loops ?_
  refine ⟨.inl ⟨rfl, _, SqL.of l2⟩, A.l, v ++ [.ref a'], .ref a', rfl, rfl, l2, by simp, ?_⟩
  rw [List.dropLast_concat]
  have F3s : Same F (upd F r' (.lst ws')) := Same.new fr
  have m := A.mem d
  have S3 : Same (upd F r' (.lst ws')) (upd H2 A.l (.lst v)) := fun x o e => by
    by_cases z : x = r'
    · subst z
      rw [upd_same] at e
      have n := D1'.ne.2.2.2.2.2.2.1 x (by rw [ers]; exact List.mem_cons_self)
      rw [upd_ne n.2.2.2.2.1, hr2]; exact e
    · rw [upd_ne z] at e
      have n : x ≠ A.l := fun w => by rw [w, D1'.fz _ m.2.2.2.2.1] at e; cases e
      rw [upd_ne n]; exact S2 x o e
  generalize upd H2 A.l (.lst v) = H3 at *
  walk_at "rdo"
  refine r_methO D2.o rfl (lkD_none (by decide +kernel)) ?_
  walk_at "rdo"
  refine ⟨d, _, _, _, rfl, S3, D2, fun H4 s4 => ?_⟩
  have D4 := D2.same s4
  have S4 : Same (upd F r' (.lst ws')) H4 := fun a u e => s4 a u (S3 a u e)
  obtain ⟨vb, b1, b2⟩ := D4.blkAt
  have bl := b2.len
  have bl2 : vb.length ≤ 1000 := by rw [bl]; exact htl
  refine r_tyL (SqL.of b1) ?_
  walk_at "rdo"
  refine r_app b1 (by omega) ?_
  have D5 := D4.addN b1 R2'
  have S5 := same_updN (o := .lst (vb ++ [.ref a'])) S4 (D4.fz _ D4.blk_mem)
  walk_at "rdo"
  exact kq _ _ _ F3s S5 D5
theorem met_Draft_take_end (T : Tx K mg) : ∀ C, C = He.ga K "Draft" → MetX P w K mg base 2 C "take_end" (sp_Draft_take_end K) := by
  rintro C rfl
  obtain ⟨fd, F⟩ := fn_Draft_take_end T
  exact ⟨_, fd, _, c_Draft T, m_Draft_take_end T, ok_Draft_take_end T F, F.bindsN fun _ _ _ _ _ _ us hl => match us, hl with | [_], _ => rfl⟩

end
section
variable {P : Program} {w : World} {K : PySem.W.Frag} {mg : Str → Option Value} {base : Heap}
def sp_Draft_is_great (K : PySem.W.Frag) : Sp := fun vs H Q _ => ∃ d ln F M A, vs = [.ref d, .int ln] ∧ DAt K F H d M A ∧ Q (.bl (M.great ln)) H
abbrev N_Draft_is_great : List Str := ["self", "line"]
theorem sc_Draft_is_great : FnScope ["self", "line"] ["self", "line"] (defScope s_Draft_is_great) := ⟨rfl, rfl, rfl, by decide +kernel, rfl, by decide +kernel, by decide +kernel⟩
theorem ok_Draft_is_great {f : Addr} {fd : FuncData} (T : Tx K mg)  (F : FunP K "is_great" "Draft.is_great" s_Draft_is_great f fd) : FnOk P w K mg base (L2.CX P w) 1 f fd ["self", "line"] (sp_Draft_is_great K) := by
  refine F.ok sc_Draft_is_great (fun vs H Q E h => ?_) (fun cdv A outer s H vs Q E hr h => ?_)
  · repeat first | (obtain ⟨e, _⟩ := h; subst e; rfl; done) | (obtain ⟨_, h⟩ := h)
  refine ⟨_, (pss_one (ps_ret (pe_or (pe_cmpR op_ge (pv 1) (pe_gint rfl (i_MOST_LINES T)) (nomark _)) (pe_or (pe_cmpR op_gt (pe_callB call_lenD (by rfl) (fr_len T) (by decide +kernel) (pa_cons (pe_fld (pv 0) rfl) pa_nil)) (pe_gint rfl (i_MOST_NAMES T)) (nomark _)) (pe_one (pe_cmpR op_gt (pe_callB call_len_seq (by rfl) (fr_len T) (by decide +kernel) (pa_cons (pe_fld (pv 0) rfl) pa_nil)) (pe_gint rfl (i_DEEPEST T)) (nomark _))))))), ?_⟩
  try dsimp only [cxK]
  obtain ⟨d, ln, F, M, A, rfl, D, kq⟩ := h
  unfold DM.great at kq
  walk_at "rd"
  refine r_iteD (fun h1 => ?_) (fun h1 => ?_)
  · rw [decide_eq_true (show ln ≥ 60 from h1)] at kq; exact kq
  rw [decide_eq_false (show ¬ ln ≥ 60 from h1), Bool.false_or] at kq
  walk_at "rdo"
  refine r_fldO D.o (c_Draft T) (na_Draft_known T) lkD_known ?_
  walk_at "rdo"
  refine ⟨A.k, _, rfl, D.k, ?_⟩
  have ek : (knownD M.known).length = M.known.length := by unfold knownD; rw [List.length_map]
  rw [ek]
  walk_at "rd"
  refine r_iteD (fun h1 => ?_) (fun h1 => ?_)
  · rw [decide_eq_true (show M.known.length > 30 by omega)] at kq; exact kq
  rw [decide_eq_false (show ¬ M.known.length > 30 by omega), Bool.false_or] at kq
  walk_at "rd"
  refine r_fldO D.o (c_Draft T) (na_Draft_loops T) lkD_loops ?_
  obtain ⟨vl, l1, l2⟩ := D.l
  walk_at "rd"
  refine ⟨A.l, _, rfl, .inl (SqL.of l1), ?_⟩
  rw [l2.len]
  walk_at "rd"
  have e : decide ((3 : Int) < (M.loops.length : Int)) = decide (M.loops.length > 3) := by
    by_cases h : M.loops.length > 3
    · rw [decide_eq_true h, decide_eq_true (by omega)]
    · rw [decide_eq_false h, decide_eq_false (by omega)]
  rw [e]
  exact kq
theorem met_Draft_is_great (T : Tx K mg) : ∀ C, C = He.ga K "Draft" → MetX P w K mg base 1 C "is_great" (sp_Draft_is_great K) := by
  rintro C rfl
  obtain ⟨fd, F⟩ := fn_Draft_is_great T
  exact ⟨_, fd, _, c_Draft T, m_Draft_is_great T, ok_Draft_is_great T F, F.bindsN fun _ _ _ _ _ _ us hl => match us, hl with | [_, _], _ => rfl⟩

end
section
variable {P : Program} {w : World} {K : PySem.W.Frag} {mg : Str → Option Value} {base : Heap}
def progFs (wd : Int) (i r o k : Addr) : List (Str × V) := [("width", .int wd), ("inputs", .ref i), ("rows", .ref r), ("outs", .ref o), ("kinds", .ref k)]
/-- a program as it is made: only kinds, inputs, outs will change -/
def sp_Program_init (K : PySem.W.Frag) : Sp := fun vs H Q _ => ∃ a dx wd r, vs = [.ref a, .int wd, .ref r] ∧ H a = some (.ins (He.ga K "Program") dx []) ∧
  ∀ i o k H', H i = none → H o = none → H k = none → i ≠ o → i ≠ k → o ≠ k → H' i = some (.lst []) → H' o = some (.lst []) → H' k = some (.dK []) → H' a = some (.ins (He.ga K "Program") dx (progFs wd i r o k)) → (∀ b, b ≠ a → b ≠ i → b ≠ o → b ≠ k → H' b = H b) → Q .non H'
abbrev N_Program_init : List Str := ["self", "width", "rows"]
theorem sc_Program_init : FnScope ["self", "width", "rows"] ["self", "width", "rows"] (defScope s_Program_init) := ⟨rfl, rfl, rfl, by decide +kernel, rfl, by decide +kernel, by decide +kernel⟩
theorem ok_Program_init {f : Addr} {fd : FuncData} (T : Tx K mg)  (F : FunP K "__init__" "Program.__init__" s_Program_init f fd) : FnOk P w K mg base (L2.CX P w) 1 f fd ["self", "width", "rows"] (sp_Program_init K) := by
  refine F.ok sc_Program_init (fun vs H Q E h => ?_) (fun cdv A outer s H vs Q E hr h => ?_)
  · repeat first | (obtain ⟨e, _⟩ := h; subst e; rfl; done) | (obtain ⟨_, h⟩ := h)
  refine ⟨_, (pss_cons (ps_fld (pv 0) (pv 1) rfl)
  (pss_cons (ps_fld (pv 0) (pe_lst pa_nil) rfl)
  (pss_cons (ps_fld (pv 0) (pv 2) rfl)
  (pss_cons (ps_fld (pv 0) (pe_lst pa_nil) rfl)
  (pss_one (ps_fld (pv 0) pe_dnewK rfl)))))), ?_⟩
  try dsimp only [cxK]
  obtain ⟨a, dx, wd, r, rfl, ha, kq⟩ := h
  walk_at "rdo"
  refine ⟨a, _, dx, _, rfl, ha, c_Program T, na_Program_width T, by decide, ?_⟩
  with_reducible refine r_seq ?_
  with_reducible refine r_newFld rfl upd_same (c_Program T) (na_Program_inputs T) ?_ ["width"] ?_ ?_ fun i H1 i0 ia i1 a1 f1 => ?_
  · show 1 < 1000; decide
  · exact rfl
  · decide +kernel
  walk_at "rdo"
  refine ⟨a, _, dx, _, rfl, a1, c_Program T, na_Program_rows T, (by show 2 < 1000; decide), ?_⟩
  generalize e2 : upd H1 a (.ins (He.ga K "Program") dx (putF "rows" (V.ref r) (putF "width" (V.int wd) [] ++ [(("inputs" : Str), V.ref i)]))) = H2
  have a2 : H2 a = some (.ins (He.ga K "Program") dx [("width", V.int wd), ("inputs", V.ref i), ("rows", V.ref r)]) := by rw [← e2]; exact upd_same
  have f2 : ∀ b, b ≠ a → H2 b = H1 b := fun b hb => by rw [← e2]; exact upd_ne hb
  with_reducible refine r_seq ?_
  with_reducible refine r_newFld rfl a2 (c_Program T) (na_Program_outs T) ?_ ["width", "inputs", "rows"] ?_ ?_ fun o H3 o0 oa o1 a3 f3 => ?_
  · show 3 < 1000; decide
  · exact rfl
  · decide +kernel
  with_reducible refine r_newFldD rfl a3 (c_Program T) (na_Program_kinds T) ?_ ["width", "inputs", "rows", "outs"] ?_ ?_ fun k H4 k0 ka k1 a4 f4 => ?_
  · show 4 < 1000; decide
  · exact rfl
  · decide +kernel
  have i2 : H2 i = some (.lst []) := by rw [f2 _ ia]; exact i1
  have oi : o ≠ i := ne_of_none' o0 i2
  have i3 : H3 i = some (.lst []) := by rw [f3 _ ia oi.symm]; exact i2
  have ki : k ≠ i := ne_of_none' k0 i3
  have ko : k ≠ o := ne_of_none' k0 o1
  have b0 : ∀ x, x ≠ a → upd H a (.ins (He.ga K "Program") dx (putF "width" (V.int wd) [])) x = H x := fun x hx => upd_ne hx
  have e1 : H i = none := by rw [← b0 i ia]; exact i0
  have e2' : H o = none := by rw [← b0 o oa, ← f1 o oa oi, ← f2 o oa]; exact o0
  have e3 : H k = none := by rw [← b0 k ka, ← f1 k ka ki, ← f2 k ka, ← f3 k ka ko]; exact k0
  refine kq i o k H4 e1 e2' e3 oi.symm ki.symm ko.symm ?_ ?_ k1 a4 fun b b1 b2 b3 b4 => ?_
  · rw [f4 _ ia ki.symm]; exact i3
  · rw [f4 _ oa ko.symm]; exact o1
  · rw [f4 b b1 b4, f3 b b1 b3, f2 b b1, f1 b b1 b2, upd_ne b1]
theorem mak_Program (T : Tx K mg) : MakX P w K mg base 1 "Program" (He.ga K "Program") (sp_Program_init K) := by
  obtain ⟨fd, F⟩ := fn_Program_init T
  exact ⟨_, fd, _, mk_Program T, ok_Program_init T F, g_Program T, F.bindsN fun _ _ _ _ _ _ us hl => match us, hl with | [_, _, _], _ => rfl⟩

end
section
variable {P : Program} {w : World} {K : PySem.W.Frag} {mg : Str → Option Value} {base : Heap}
def sp_Draft_take_row (K : PySem.W.Frag) : Sp := fun vs H Q _ => ∃ d ln aw, ∃ l : Ln, ∃ F M A, vs = [.ref d, .int ln, .ref aw] ∧ F aw = some (.lst (l.words.map V.str)) ∧ Same F H ∧ DAt K F H d M A ∧ l.rowOk isName ∧
  4 ≤ M.wd ∧ M.wd ≤ 32 ∧ M.known.length ≤ 1000 ∧ M.chosen.length ≤ 1000 ∧ M.top.len ≤ 1000 ∧
  match l.step ln M with
  | some M' => PostD K F d M' Q
  | none => ∀ H', Same F H' → Q (.bl false) H'
abbrev N_Draft_take_row : List Str := ["self", "line", "words", "many", "goals", "deed", "rest", "row", "name", "form", "letter", "word"]
theorem sc_Draft_take_row : FnScope ["self", "line", "words", "many", "goals", "deed", "rest", "row", "name", "form", "letter", "word"] ["self", "line", "words"] (defScope s_Draft_take_row) := ⟨rfl, rfl, rfl, by decide +kernel, rfl, by decide +kernel, by decide +kernel⟩
theorem ok_Draft_take_row {f : Addr} {fd : FuncData} (T : Tx K mg)  (F : FunP K "take_row" "Draft.take_row" s_Draft_take_row f fd) : FnOk P w K mg base (L2.CX P w) 8 f fd ["self", "line", "words"] (sp_Draft_take_row K) := by
  refine F.ok sc_Draft_take_row (fun vs H Q E h => ?_) (fun cdv A outer s H vs Q E hr h => ?_)
  · repeat first | (obtain ⟨e, _⟩ := h; subst e; rfl; done) | (obtain ⟨_, h⟩ := h)
  refine ⟨_, (pss_cons (ps_set (i := 3) sc_Draft_take_row.nd rfl (Or.inl rfl) (pe_op op_add pe_int (pe_callTy call_int1 (by rfl) (fr_int T) (by decide +kernel) (pa_cons (pe_cmpR (op_neD (hu64 hr)) (pe_slice sl_list (pv 2) (po_some pe_int) (po_some pe_int)) (pe_lst (pa_cons pe_str pa_nil)) (nomark _)) pa_nil))))
  (pss_cons (ps_set (i := 4) sc_Draft_take_row.nd rfl (Or.inl rfl) (pe_slice sl_list (pv 2) po_none (po_some (pv 3))))
  (pss_cons (ps_set (i := 5) sc_Draft_take_row.nd rfl (Or.inl rfl) (pe_bm PySem.F.plainAttrs_str PySem.F.slot_str_join PySem.F.type_str_join mt_join pe_str (pa_cons (pe_slice sl_list (pv 2) (po_some (pe_op op_add (pv 3) pe_int)) (po_some (pe_op op_add (pv 3) pe_int))) pa_nil)))
  (pss_cons (ps_set (i := 6) sc_Draft_take_row.nd rfl (Or.inl rfl) (pe_slice sl_list (pv 2) (po_some (pe_op op_add (pv 3) pe_int)) po_none))
  (pss_cons (ps_if (PW.pt (pw_or (pt_cmpR (op_neD (hu64 hr)) (pe_slice sl_list (pv 2) (po_some (pv 3)) (po_some (pe_op op_add (pv 3) pe_int))) (pe_lst (pa_cons pe_str pa_nil)) (nomark _)) (pw_or (pt_cmpR op_ne (pe_cmpR op_eq (pv 5) pe_str (nomark _)) (pe_cmpR op_eq (pv 3) pe_int (nomark _)) (nomark _)) (pw_or1 (pt_not (pt_val (pe_cX (cal_is_name T) hr (by decide) rfl pU (pa_cons (pe_ix ix_list (pv 4) pe_int (fun _ _ => rfl)) pa_nil)))))))) (pss_one (ps_ret pe_bl)) pss_nil)
  (pss_cons (ps_if (PW.pt (pw_or (pt_not (pt_val (pe_cX (cal_is_name T) hr (by decide) rfl pU (pa_cons (pe_ix ix_list (pv 4) (pe_un un_neg pe_int) (fun _ _ => rfl)) pa_nil)))) (pw_or1 (pt_cmpR (op_eqD (hu64 hr)) (pe_slice sl_list (pv 4) (po_some pe_int) po_none) (pe_slice sl_list (pv 4) po_none (po_some pe_int)) (nomark _))))) (pss_one (ps_ret pe_bl)) pss_nil)
  (pss_cons (ps_set (i := 7) sc_Draft_take_row.nd rfl (Or.inr rfl) (pe_kX (mak_Row T) hr (by decide) rfl pU (pa_cons (pv 1) (pa_cons (pv 5) (pa_cons (pv 4) pa_nil)))))
  (pss_cons (ps_expr (pe_bm PySem.F.plainAttrs_list PySem.F.slot_list_append PySem.F.type_list_append mt_append (pe_mX0 (met_Draft_block T) hr (by decide) pU (pv 0)) (pa_cons (pv 7) pa_nil)))
  (pss_cons (ps_for oU rfl (pi_list (pv 4)) (pg_name (i := 8) sc_Draft_take_row.nd rfl (Or.inl rfl))
  (pss_one (ps_dput (hu_of hr) (pe_fld (pv 0) rfl) (pv 8) pe_bl rfl)))
  (pss_cons (ps_if (pt_cmpR op_eq (pv 5) pe_str (nomark _)) (pss_cons (ps_dput (hu_of hr) (pe_fld (pv 0) rfl) (pv 1) (pe_cX (cal_kind_in T) hr (by decide) rfl pU (pa_cons (pe_fld (pv 0) rfl) (pa_cons (pe_slice sl_list (pv 6) po_none (po_some (pe_un un_neg pe_int))) pa_nil))) rfl)
  (pss_cons (ps_expr (pe_bm PySem.F.plainAttrs_list PySem.F.slot_list_append PySem.F.type_list_append mt_append (pe_fld (pv 7) rfl) (pa_cons (pe_cX (cal_bits_shown T) hr (by decide) rfl pU (pa_cons (pe_dget (hu_of hr) (pe_fld (pv 0) rfl) (pv 1) (fun _ _ => rfl)) (pa_cons (pe_bm PySem.F.plainAttrs_str PySem.F.slot_str_join PySem.F.type_str_join mt_join pe_str (pa_cons (pe_slice sl_list (pv 6) (po_some (pe_un un_neg pe_int)) po_none) pa_nil)) pa_nil))) pa_nil)))
  (pss_one (ps_ret (pe_cmpR (op_neD (hu64 hr)) (pe_fld (pv 7) rfl) (pe_lst (pa_cons pe_non pa_nil)) (nomark _)))))) pss_nil)
  (pss_cons (ps_set (i := 9) sc_Draft_take_row.nd rfl (Or.inl rfl) (pe_cX (cal_form_of T) hr (by decide) rfl pU (pa_cons (pv 5) pa_nil)))
  (pss_cons (ps_if (PW.pt (pw_or (pt_cmpR op_ne (pe_callB call_len_str (by rfl) (fr_len T) (by decide +kernel) (pa_cons (pv 9) pa_nil)) (pe_callB call_len_seq (by rfl) (fr_len T) (by decide +kernel) (pa_cons (pv 6) pa_nil)) (nomark _)) (pw_or1 (pt_cmpR (op_eqE (hu64 hr)) (pv 6) (pe_lst pa_nil) (nomark _))))) (pss_one (ps_ret pe_bl)) pss_nil)
  (pss_one (ps_ret (pe_callB (cr_all rfl) (by rfl) (fr_all T) (by decide +kernel) (pa_cons (pe_lc (own := [("letter", 10), ("word", 11)]) (te := tCall (sp_taken K) [] E0 (tCons (tVar 7) (tCons (tFld K (tVar 0) "width") (tCons (tVar 10) (tCons (tVar 11) tNil))))) (g := gTup _ 2 (gCons (gName 10) (gCons (gName 11) (gNil)))) (tt := tYes) rfl sc_Draft_take_row.nd (pi_zipSL rfl (fr_zip T) (pa_cons (pv 9) (pa_cons (pv 6) pa_nil))) (blkOk_by (N := N_Draft_take_row) (sc := defScope s_Draft_take_row) (by decide +kernel)) (fun _ _ _ _ _ => (pg_tup rfl (pgs_cons (pg_name (i := 10) sc_Draft_take_row.nd rfl (Or.inl rfl)) (pgs_cons (pg_name (i := 11) sc_Draft_take_row.nd rfl (Or.inl rfl)) pgs_nil)))) (fun _ _ _ _ _ => pts_nil) (fun _ _ _ _ _ => (pe_cX (cal_taken T) hr (by decide) rfl passL (pa_cons (pv 7) (pa_cons (pe_fld (pv 0) rfl) (pa_cons (pv 10) (pa_cons (pv 11) pa_nil))))))) pa_nil)))))))))))))))), ?_⟩
  try dsimp only [cxK]
  obtain ⟨d, ln, aw, l, F, M, A, rfl, hw, S, D, hl, h4, h32, hkl, hcl, htl, kq⟩ := h
  obtain ⟨g0, gl, gi, gt, m, w1, b1, P⟩ := Ln.parts hl
  walk_at "rd"
  refine r_slL (SqL.of (S _ _ hw)) fun q1 hq1 => ?_
  rw [P.c1]
  have s1 : Same H (upd H q1 (.lst (w1.map V.str))) := Same.new hq1
  have S1 := S.trans s1
  have D1 := D.same s1
  have e1 : upd H q1 (.lst (w1.map V.str)) q1 = some (.lst (w1.map V.str)) := upd_same
  generalize upd H q1 (.lst (w1.map V.str)) = H1 at *
  walk_at "rd"
  refine r_newL fun q2 hq2 => ?_
  have s2 : Same H1 (upd H1 q2 (.lst [.str "="])) := Same.new hq2
  have S2 : Same F (upd H1 q2 (.lst [.str "="])) := fun a u e => s2 a u (S1 a u e)
  have D2 := D1.same s2
  refine r_neStrs w1 ["="] b1 (SqL.of (s2 _ _ e1)) (SqL.of upd_same) P.s1 P.e1 ?_
  generalize upd H1 q2 (.lst [.str "="]) = H2 at *
  clear e1
  walk_at "rd"
  refine r_intB ?_
  walk_at "rd"
  rw [show (1 + if (!b1) = true then 1 else 0 : Int) = m by rw [P.hm]; cases b1 <;> rfl]
  refine r_slL (SqL.of (S2 _ _ hw)) fun qg hqg => ?_
  rw [P.cg]
  have s3 : Same H2 (upd H2 qg (.lst (l.goals.map V.str))) := Same.new hqg
  have S3 : Same F (upd H2 qg (.lst (l.goals.map V.str))) := fun a u e => s3 a u (S2 a u e)
  have D3 := D2.same s3
  have eg : upd H2 qg (.lst (l.goals.map V.str)) qg = some (.lst (l.goals.map V.str)) := upd_same
  have ig := D2.fresh hqg
  generalize upd H2 qg (.lst (l.goals.map V.str)) = H3 at *
  walk_at "rd"
  refine ⟨rfl, ?_⟩
  walk_at "rd"
  refine r_slL (SqL.of (S3 _ _ hw)) fun q4 hq4 => ?_
  rw [P.cd]
  have s4 : Same H3 (upd H3 q4 (.lst (([l.deed] : List Str).map V.str))) := Same.new hq4
  have S4 : Same F (upd H3 q4 (.lst (([l.deed] : List Str).map V.str))) := fun a u e => s4 a u (S3 a u e)
  have D4 := D3.same s4
  have eg4 := s4 _ _ eg
  have e4 : upd H3 q4 (.lst (([l.deed] : List Str).map V.str)) q4 = some (.lst (([l.deed] : List Str).map V.str)) := upd_same
  generalize upd H3 q4 (.lst (([l.deed] : List Str).map V.str)) = H4 at *
  walk_at "rd"
  refine ⟨"", q4, [l.deed], rfl, rfl, .inl (SqL.of e4), ?_, ?_⟩
  · have := P.ld
    have l0 : ("" : Str).length = 0 := by decide +kernel
    rw [l0]
    show ([l.deed.length].sum + 1 * 0 ≤ 16777216)
    simp only [List.sum_cons, List.sum_nil]
    omega
  rw [P.jd]
  clear e4
  walk_at "rd"
  refine r_slL (SqL.of (S4 _ _ hw)) fun qr hqr => ?_
  rw [P.cr]
  have s5 : Same H4 (upd H4 qr (.lst (l.rest.map V.str))) := Same.new hqr
  have S5 : Same F (upd H4 qr (.lst (l.rest.map V.str))) := fun a u e => s5 a u (S4 a u e)
  have D5 := D4.same s5
  have eg5 := s5 _ _ eg4
  have er5 : upd H4 qr (.lst (l.rest.map V.str)) qr = some (.lst (l.rest.map V.str)) := upd_same
  have ir := D4.fresh hqr
  generalize upd H4 qr (.lst (l.rest.map V.str)) = H5 at *
  walk_at "rds"
  refine r_ifB false (fun B kB => ?_) (fun H6 s6 => ?_)
  · walk_at "rd"
    refine r_slL (SqL.of (S5 _ _ hw)) fun q6 hq6 => ?_
    rw [P.ce]
    have s6 : Same H5 (upd H5 q6 (.lst ((["="] : List Str).map V.str))) := Same.new hq6
    have e6 : upd H5 q6 (.lst ((["="] : List Str).map V.str)) q6 = some (.lst ((["="] : List Str).map V.str)) := upd_same
    generalize upd H5 q6 (.lst ((["="] : List Str).map V.str)) = H6 at *
    walk_at "rd"
    refine r_newL fun q7 hq7 => ?_
    have s7 : Same H6 (upd H6 q7 (.lst [.str "="])) := Same.new hq7
    refine r_neStrs ["="] ["="] true (SqL.of (s7 _ _ e6)) (SqL.of upd_same) (by decide +kernel) (by decide +kernel) ?_
    have s67 := s6.trans s7
    generalize upd H6 q7 (.lst [.str "="]) = H7 at *
    walk_at "rd"
    rw [P.hp]
    walk_at "rd"
    rw [P.ga] at eg5
    refine r_ixL (SqL.of (s67 _ _ eg5)) at0 ?_
    walk_at "rd"
    refine ⟨g0, rfl, by have := P.n0.len; omega, fun H8 s8 => ?_⟩
    rw [P.n0.nm]
    walk_at "rd"
    exact kB _ (s67.trans s8)
  have S6 : Same F H6 := fun a u e => s6 a u (S5 a u e)
  have D6 := D5.same s6
  have eg6 := s6 _ _ eg5
  have er6 := s6 _ _ er5
  rw [if_neg (by decide)]
  walk_at "rds"
  refine r_ifB false (fun B kB => ?_) (fun H7 s7 => ?_)
  · walk_at "rd"
    have eg6' := eg6
    rw [P.gb, List.map_append] at eg6'
    refine r_ixL (SqL.of eg6') atLast ?_
    walk_at "rd"
    refine ⟨gl, rfl, by have := P.nl.len; omega, fun H8 s8 => ?_⟩
    rw [P.nl.nm]
    walk_at "rd"
    refine r_slL (SqL.of (s8 _ _ eg6)) fun q9 hq9 => ?_
    rw [P.ct]
    have s9 : Same H8 (upd H8 q9 (.lst (gt.map V.str))) := Same.new hq9
    have e9 : upd H8 q9 (.lst (gt.map V.str)) q9 = some (.lst (gt.map V.str)) := upd_same
    have s89 := s8.trans s9
    generalize upd H8 q9 (.lst (gt.map V.str)) = H9 at *
    walk_at "rd"
    refine r_slL (SqL.of (s89 _ _ eg6)) fun q10 hq10 => ?_
    rw [P.ch]
    have s10 : Same H9 (upd H9 q10 (.lst (([g0] : List Str).map V.str))) := Same.new hq10
    refine r_eqStrs gt [g0] false (SqL.of (s10 _ _ e9)) (SqL.of upd_same) P.se P.ee ?_
    walk_at "rd"
    exact kB _ (s89.trans s10)
  have S7 : Same F H7 := fun a u e => s7 a u (S6 a u e)
  have D7 := D6.same s7
  have eg7 := s7 _ _ eg6
  have er7 := s7 _ _ er6
  rw [if_neg (by decide)]
  clear S1 S2 S3 S4 S5 S6 D1 D2 D3 D4 D5 D6 s1 s2 s3 s4 s5 s6 s7 eg eg4 eg5 eg6 er5 er6 hqg hq4 hqr hq1 hq2
  walk_at "rd"
  intro a dx ha hdx hne
  refine ⟨a, dx, ln, l.deed, qg, rfl, upd_same, fun r n H8 hr hn hrn r8 n8 a8 f8 => ⟨rfl, ?_⟩⟩
  have ra : r ≠ a := fun z => by rw [z, upd_same] at hr; cases hr
  have na : n ≠ a := fun z => by rw [z, upd_same] at hn; cases hn
  have rdx : r ≠ dx := fun z => by rw [upd_ne ra, z, upd_same] at hr; cases hr
  have ndx : n ≠ dx := fun z => by rw [upd_ne na, z, upd_same] at hn; cases hn
  have hr7 : H7 r = none := by rw [upd_ne ra, upd_ne rdx] at hr; exact hr
  have hn7 : H7 n = none := by rw [upd_ne na, upd_ne ndx] at hn; exact hn
  have s8 : Same H7 H8 := fun x u e => by
    rw [f8 x (ne_of_none e ha) (ne_of_none e hr7) (ne_of_none e hn7), upd_ne (ne_of_none e ha), upd_ne (ne_of_none e hdx)]; exact e
  have S8 : Same F H8 := fun x u e => s8 x u (S7 x u e)
  have D8 := D7.same s8
  have ia := D7.fresh ha
  have ir8 := D7.fresh hr7
  have in8 := D7.fresh hn7
  have eg8 := s8 _ _ eg7
  have er8 := s8 _ _ er7
  walk_at "rd"
  refine r_methO D8.o rfl (lkD_none (by decide +kernel)) ?_
  walk_at "rd"
  refine ⟨d, F, M, A, rfl, S8, D8, fun H9 s9 => ?_⟩
  have S9 : Same F H9 := fun x u e => s9 x u (S8 x u e)
  have S9' := S7
  have eg7' := eg7
  have rqr : qr ≠ r := fun z => by rw [z, hr7] at er7; cases er7
  have rqn : qr ≠ n := fun z => by rw [z, hn7] at er7; cases er7
  have D9 := D8.same s9
  have r9 := s9 _ _ r8
  have n9 := s9 _ _ n8
  have a9 := s9 _ _ a8
  have eg9 := s9 _ _ eg8
  have er9 := s9 _ _ er8
  obtain ⟨vb, b1', b2⟩ := D9.blkAt
  have bl : vb.length ≤ 1000 := by rw [b2.len]; exact htl
  refine r_tyL (SqL.of b1') ?_
  walk_at "rd"
  refine r_app b1' (by omega) ?_
  clear S8 D8 r8 n8 a8 eg8 er8 s8 s9 f8 eg7 er7 D7 S7
  have Fr : F r = none := by
    cases e : F r with
    | none => rfl
    | some o => exact absurd (S9' _ _ e) (by rw [hr7]; exact fun z => nomatch z)
  have Fn : F n = none := by
    cases e : F n with
    | none => rfl
    | some o => exact absurd (S9' _ _ e) (by rw [hn7]; exact fun z => nomatch z)
  have loop : ∀ (σ0 : L2.St), σ0 = (((((((L2.start ["self", "line", "words", "many", "goals", "deed", "rest", "row", "name", "form", "letter", "word"] [V.ref d, V.int ln, V.ref aw]).set 3 (some (V.int m))).set 4 (some (V.ref qg))).set 5 (some (V.str l.deed))).set 6 (some (V.ref qr))).set 7 (some (V.ref a)))) → ∀ (rds : List Str) (nms : List Int) (R : L2.St → Hp → Prop),
      (∀ F2 z H', Same F F2 → (∀ x ∈ A.fp d, F2 x = none) → (∀ x o, x ≠ r → x ≠ n → F2 x = some o → H' x = some o) → F2 r = some (.lst (rds.map .str)) → F2 n = some (.lst (nms.map .int)) →
        DAt K F2 H' d { addR M (.row ln l.deed l.goals rds nms .nil) with known := l.goals.foldl putN M.known } A → (∀ x o, x ∉ A.fp d → H9 x = some o → H' x = some o) →
        R (List.set σ0 8 z) H') →
      ∀ (D0 : Ends), D0.nx = R → tFor (iList K (tVar 4)) (gName 8) (sDPut (tFld K (tVar 0) "known") (tVar 8) (tC (V.bl true))) D0
        σ0 (upd H9 A.blk (.lst (vb ++ [.ref a]))) := by
    intro σ0 eσ rds nms R hR D0 eD
    obtain ⟨F2, p1, p2, p3, p4, p5, p6⟩ := D9.proph S9 Fr Fn ir8 in8 hrn (.lst (rds.map .str)) (.lst (nms.map .int))
    have gr : qg ≠ r := fun z => by rw [z, hr7] at eg7'; cases eg7'
    have gn : qg ≠ n := fun z => by rw [z, hn7] at eg7'; cases eg7'
    have row : RowsAt K F2 (.row ln l.deed l.goals rds nms .nil) [.ref a] := ⟨a, dx, qg, r, n, [], rfl, p6 _ _ ia ra.symm na.symm a9, p6 _ _ ig gr gn eg9, p4, p5, rfl⟩
    have D10 := (D9.froze p1 p2).addN b1' row
    have bm := D9.blk_mem
    have f10 : ∀ x o, x ∉ A.fp d → H9 x = some o → upd H9 A.blk (.lst (vb ++ [.ref a])) x = some o := fun x o hx e => by
      have hxb : x ≠ A.blk := fun z => hx (by rw [z]; exact bm)
      rw [upd_ne hxb]; exact e
    have fz2 : ∀ x o, x ≠ r → x ≠ n → F2 x = some o → x ∉ A.fp d ∧ H9 x = some o := fun x o x1 x2 e =>
      ⟨fun z => (by rw [p2 x z] at e; cases e), p3 x o x1 x2 e⟩
    refine r_forLv (by rw [eσ]; rfl) (SqL.of (f10 _ _ ig eg9)) ⟨fun i σ' H' => (∃ z, σ' = List.set σ0 8 z) ∧ DAt K F2 H' d { addR M (.row ln l.deed l.goals rds nms .nil) with known := (l.goals.take i).foldl putN M.known } A ∧ (∀ x o, x ∉ A.fp d → H9 x = some o → H' x = some o), ⟨⟨none, by rw [eσ]; rfl⟩, ?_, f10⟩, fun i σ' H' q => SqL.of (q.2.2 _ _ ig eg9), fun i x σ' H' hx q => ?_, fun σ' H' q => ?_⟩
    · have e : ({ addR M (.row ln l.deed l.goals rds nms .nil) with known := M.known } : DM) = addR M (.row ln l.deed l.goals rds nms .nil) := by
        obtain ⟨wd, ins, rows, outs, loops, known, chosen⟩ := M
        cases loops with
        | nil => rfl
        | cons y l => obtain ⟨a, b, c⟩ := y; rfl
      show DAt K F2 _ d { addR M (.row ln l.deed l.goals rds nms .nil) with known := M.known } A
      rw [e]; exact D10
    · obtain ⟨⟨z, rfl⟩, Dq, fq⟩ := q
      obtain ⟨y, hy, rfl⟩ : ∃ y, l.goals[i]? = some y ∧ x = V.str y := by
        rw [List.getElem?_map] at hx
        cases e : l.goals[i]? with
        | none => rw [e] at hx; cases hx
        | some y => rw [e] at hx; exact ⟨y, rfl, (Option.some.inj hx).symm⟩
      rw [eσ]
      walk_at "rd"
      refine r_fldO Dq.o (c_Draft T) (na_Draft_known T) lkD_known ?_
      walk_at "rd"
      refine r_dputS Dq.k ?_ ?_
      · have l1 := fold_len M.known (l.goals.take i)
        have l2 : (l.goals.take i).length ≤ l.goals.length := by rw [List.length_take]; exact Nat.min_le_right _ _
        have l3 := P.gl3
        unfold knownD
        rw [List.length_map]
        show ((l.goals.take i).foldl putN M.known).length ≤ 100000
        omega
      have Dk := Dq.know y
      have km := (A.mem d).2.2.2.2.2.1
      refine ⟨⟨some (V.str y), ?_⟩, ?_, fun x o hx' e => ?_⟩
      · exact List.set_set ..
      · rw [take_fold hy]; exact Dk
      · have hxk : x ≠ A.k := fun z => hx' (by rw [z]; exact km)
        rw [upd_ne hxk]; exact fq x o hx' e
    · obtain ⟨⟨z, rfl⟩, Dq, fq⟩ := q
      rw [eD]
      have et : l.goals.take (l.goals.map V.str).length = l.goals := by rw [List.length_map]; exact List.take_length
      rw [et] at Dq
      exact hR F2 z H' p1 p2 (fun x o x1 x2 e => fq x o (fz2 x o x1 x2 e).1 (fz2 x o x1 x2 e).2) p4 p5 Dq fq
  walk_at "rd"
  have sameF : ∀ H', (∀ x o, x ∉ A.fp d → H9 x = some o → H' x = some o) → Same F H' := fun H' f x o e => f x o (fun z => by rw [D9.fz x z] at e; cases e) (S9 x o e)
  cases l with
  | width w => exact hl.elim
  | inp w => exact hl.elim
  | out w => exact hl.elim
  | rep w => exact hl.elim
  | fin => exact hl.elim
  | bad g =>
    refine loop _ rfl [] [] _ ?_ _ rfl
    intro F2 z H10 p1 p2 p3 p4 p5 D10 f10
    have er10 := f10 _ _ ir er9
    have r10 := f10 _ _ ir8 r9
    have n10 := f10 _ _ in8 n9
    have a10 := f10 _ _ ia a9
    walk_at "rdo"
    refine ⟨_, rfl, fun H11 s11 => ?_⟩
    rw [show formOf (Ln.bad g).deed = "b" by show formOf "copy" = "b"; decide +kernel]
    have D11 := D10.same s11
    have er11 := s11 _ _ er10
    have r11 := s11 _ _ r10
    have n11 := s11 _ _ n10
    have a11 := s11 _ _ a10
    walk_at "rd"
    refine r_lenS (by decide +kernel) ?_
    walk_at "rd"
    refine r_lenL (SqL.of er11) ?_
    walk_at "rd"
    rw [show (!decide (((("b" : Str).length : Nat) : Int) = ((((Ln.bad g).rest.map V.str).length : Nat) : Int))) = true by show (!decide (((("b" : Str).length : Nat) : Int) = 0)) = true; decide +kernel]
    walk_at "rd"
    exact kq _ (sameF _ fun x o hx e => s11 _ _ (f10 x o hx e))
  | copy g b =>
    have NB := hl.2
    have ewd := (addR_known0 M (.row ln "copy" [g] [b] [] .nil)).2.1
    have w4 : 4 ≤ (addR M (.row ln "copy" [g] [b] [] .nil)).wd := by rw [ewd]; exact h4
    have w32 : (addR M (.row ln "copy" [g] [b] [] .nil)).wd ≤ 32 := by rw [ewd]; exact h32
    have kq' : PostD K F d { addR M (.row ln "copy" [g] [b] [] .nil) with known := putN M.known g } Q := by rw [← addR_known]; exact kq
    refine loop _ rfl [b] [] _ ?_ _ rfl
    intro F2 z H10 p1 p2 p3 p4 p5 D10 f10
    have er10 := f10 _ _ ir er9
    have r10 := f10 _ _ ir8 r9
    have n10 := f10 _ _ in8 n9
    have a10 := f10 _ _ ia a9
    walk_at "rdo"
    refine ⟨_, rfl, fun H11 s11 => ?_⟩
    rw [show formOf (Ln.copy g b).deed = "b" by show formOf "copy" = "b"; decide +kernel]
    have D11 := D10.same s11
    have er11 := s11 _ _ er10
    have r11 := s11 _ _ r10
    have n11 := s11 _ _ n10
    have a11 := s11 _ _ a10
    walk_at "rd"
    refine r_lenS (by decide +kernel) ?_
    walk_at "rd"
    refine r_lenL (SqL.of er11) ?_
    walk_at "rd"
    rw [show (!decide (((("b" : Str).length : Nat) : Int) = ((((Ln.copy g b).rest.map V.str).length : Nat) : Int))) = false by show (!decide (((("b" : Str).length : Nat) : Int) = 1)) = false; decide +kernel]
    walk_at "rd"
    refine r_newL fun q12 hq12 => ?_
    have s12 : Same H11 (upd H11 q12 (.lst [])) := Same.new hq12
    refine r_eqE1 (SqL.of (s12 _ _ er11)) (SqL.of upd_same) (by show 1 ≠ 0; decide) ?_
    have D12 := D11.same s12
    have er12 := s12 _ _ er11
    have r12 := s12 _ _ r11
    have n12 := s12 _ _ n11
    have a12 := s12 _ _ a11
    have f12 : ∀ x o, H10 x = some o → upd H11 q12 (.lst []) x = some o := fun x o e => s12 _ _ (s11 _ _ e)
    generalize upd H11 q12 (.lst []) = H12 at *
    walk_at "rd"
    refine r_lcZ (x := "b") (ys := [.str b]) rfl rfl (SqL.of er12) (fun E i H' => H12 E = none ∧ H' E = some (.lst ((List.replicate i true).map V.bl)) ∧ H' r = some (.lst (([b].take i).map V.str)) ∧ H' n = some (.lst []) ∧ (∀ x o, x ≠ r → x ≠ n → H12 x = some o → H' x = some o)) (fun p q => rfl)
      (fun E hE => ?_) (fun E i H' q => ?_) (fun E i Tp c y H' hc hy q hT => ?_) (fun E H' q => ?_)
    · refine ⟨hE, upd_same, ?_, ?_, fun x o _ _ e => ?_⟩
      · rw [upd_ne (ne_of_none r12 hE)]; exact r12
      · rw [upd_ne (ne_of_none n12 hE)]; exact n12
      · rw [upd_ne (ne_of_none e hE)]; exact e
    · exact SqL.of (q.2.2.2.2 _ _ rqr rqn er12)
    · obtain ⟨hE, aE, rE, nE, fE⟩ := q
      have Er : E ≠ r := ne_of_none' hE r12
      have En : E ≠ n := ne_of_none' hE n12
      have ET : E ≠ Tp := fun w => by rw [w, hT] at aE; cases aE
      have DT := (D12.frame (H' := H') fun x hx => by
        obtain ⟨o, e⟩ := D12.alloc x hx
        rw [e]; exact fE x o (fun w => ir8 (by rw [← w]; exact hx)) (fun w => in8 (by rw [← w]; exact hx)) e).same (Same.new (o := .tup [.str ⟨#[c]⟩, y]) hT)
      have rT := Same.new (o := .tup [.str ⟨#[c]⟩, y]) hT _ _ rE
      have nT := Same.new (o := .tup [.str ⟨#[c]⟩, y]) hT _ _ nE
      have aT := Same.new (o := .tup [.str ⟨#[c]⟩, y]) hT _ _ (fE _ _ ra.symm na.symm a12)
      have ET' := Same.new (o := .tup [.str ⟨#[c]⟩, y]) hT _ _ aE
      have fT : ∀ x o, x ≠ r → x ≠ n → H12 x = some o → upd H' Tp (.tup [.str ⟨#[c]⟩, y]) x = some o := fun x o x1 x2 e => Same.new hT _ _ (fE x o x1 x2 e)
      generalize upd H' Tp (.tup [.str ⟨#[c]⟩, y]) = HT at *
      match i, hc, hy, aE, rE, nE, ET', rT, nT with
      | 0, hc, hy, aE, rE, nE, ET', rT, nT =>
        obtain rfl : c = 98 := by
          have e : ("b" : Str).cps[0]? = some 98 := by decide +kernel
          rw [e] at hc; exact (Option.some.inj hc).symm
        obtain rfl : y = .str b := (Option.some.inj hy).symm
        rw [show (⟨#[98]⟩ : Str) = "b" by decide +kernel]
        walk_at "rd"
        refine r_fldO DT.o (c_Draft T) (na_Draft_width T) lkD_width ?_
        walk_at "rd"
        refine ⟨a, dx, ln, _, qg, r, n, _, "b", b, rfl, aT, hrn, ra.symm, na.symm, w4, w32, .inl ⟨rfl, NB.nm, NB.len, [], rT, by decide, fun H4 e4 sb => ?_⟩⟩
        refine ⟨_, sb _ _ Er ET', by show 0 < sizeLine; decide, hE, upd_same, ?_, ?_, fun x o x1 x2 e => ?_⟩
        · rw [upd_ne Er.symm]; exact e4
        · rw [upd_ne En.symm]; exact sb _ _ hrn.symm nT
        · rw [upd_ne (ne_of_none e hE)]; exact sb _ _ x1 (fT x o x1 x2 e)
      | i + 1, hc, hy, aE, rE, nE, ET', rT, nT => exact absurd hy (by simp)
    · obtain ⟨hE, aE, rE, nE, fE⟩ := q
      have DE := D12.frame (H' := H') fun x hx => by
        obtain ⟨o, e⟩ := D12.alloc x hx
        rw [e]; exact fE x o (fun w => ir8 (by rw [← w]; exact hx)) (fun w => in8 (by rw [← w]; exact hx)) e
      have SF : Same F2 H' := fun x o e => by
        by_cases x1 : x = r
        · subst x1; rw [p4] at e; rw [← e]; exact rE
        · by_cases x2 : x = n
          · subst x2; rw [p5] at e; rw [← e]; exact nE
          · exact fE x o x1 x2 (f12 x o (p3 x o x1 x2 e))
      walk_at "rd"
      refine ⟨E, [true], rfl, SqL.of aE, ?_⟩
      exact kq' F2 A H' p1 SF DE
  | part g h b =>
    have NB := hl.2.2.1
    have ewd := (addR_known0 M (.row ln "part" [g, h] [b] [3] .nil)).2.1
    have w4 : 4 ≤ (addR M (.row ln "part" [g, h] [b] [3] .nil)).wd := by rw [ewd]; exact h4
    have w32 : (addR M (.row ln "part" [g, h] [b] [3] .nil)).wd ≤ 32 := by rw [ewd]; exact h32
    have kq' : PostD K F d { addR M (.row ln "part" [g, h] [b] [3] .nil) with known := putN (putN M.known g) h } Q := by rw [← addR_known]; exact kq
    refine loop _ rfl [b] [3] _ ?_ _ rfl
    intro F2 z H10 p1 p2 p3 p4 p5 D10 f10
    have er10 := f10 _ _ ir er9
    have r10 := f10 _ _ ir8 r9
    have n10 := f10 _ _ in8 n9
    have a10 := f10 _ _ ia a9
    walk_at "rdo"
    refine ⟨_, rfl, fun H11 s11 => ?_⟩
    rw [show formOf (Ln.part g h b).deed = "bn" by show formOf "part" = "bn"; decide +kernel]
    have D11 := D10.same s11
    have er11 := s11 _ _ er10
    have r11 := s11 _ _ r10
    have n11 := s11 _ _ n10
    have a11 := s11 _ _ a10
    walk_at "rd"
    refine r_lenS (by decide +kernel) ?_
    walk_at "rd"
    refine r_lenL (SqL.of er11) ?_
    walk_at "rd"
    rw [show (!decide (((("bn" : Str).length : Nat) : Int) = ((((Ln.part g h b).rest.map V.str).length : Nat) : Int))) = false by show (!decide (((("bn" : Str).length : Nat) : Int) = 2)) = false; decide +kernel]
    walk_at "rd"
    refine r_newL fun q12 hq12 => ?_
    have s12 : Same H11 (upd H11 q12 (.lst [])) := Same.new hq12
    refine r_eqE1 (SqL.of (s12 _ _ er11)) (SqL.of upd_same) (by show 2 ≠ 0; decide) ?_
    have D12 := D11.same s12
    have er12 := s12 _ _ er11
    have r12 := s12 _ _ r11
    have n12 := s12 _ _ n11
    have a12 := s12 _ _ a11
    have f12 : ∀ x o, H10 x = some o → upd H11 q12 (.lst []) x = some o := fun x o e => s12 _ _ (s11 _ _ e)
    generalize upd H11 q12 (.lst []) = H12 at *
    walk_at "rd"
    refine r_lcZ (x := "bn") (ys := [.str b, .str "3"]) rfl rfl (SqL.of er12) (fun E i H' => H12 E = none ∧ H' E = some (.lst ((List.replicate i true).map V.bl)) ∧ H' r = some (.lst (([b].take i).map V.str)) ∧ H' n = some (.lst ((([3] : List Int).take (i - 1)).map V.int)) ∧ (∀ x o, x ≠ r → x ≠ n → H12 x = some o → H' x = some o)) (fun p q => rfl)
      (fun E hE => ?_) (fun E i H' q => ?_) (fun E i Tp c y H' hc hy q hT => ?_) (fun E H' q => ?_)
    · refine ⟨hE, upd_same, ?_, ?_, fun x o _ _ e => ?_⟩
      · rw [upd_ne (ne_of_none r12 hE)]; exact r12
      · rw [upd_ne (ne_of_none n12 hE)]; exact n12
      · rw [upd_ne (ne_of_none e hE)]; exact e
    · exact SqL.of (q.2.2.2.2 _ _ rqr rqn er12)
    · obtain ⟨hE, aE, rE, nE, fE⟩ := q
      have Er : E ≠ r := ne_of_none' hE r12
      have En : E ≠ n := ne_of_none' hE n12
      have ET : E ≠ Tp := fun w => by rw [w, hT] at aE; cases aE
      have DT := (D12.frame (H' := H') fun x hx => by
        obtain ⟨o, e⟩ := D12.alloc x hx
        rw [e]; exact fE x o (fun w => ir8 (by rw [← w]; exact hx)) (fun w => in8 (by rw [← w]; exact hx)) e).same (Same.new (o := .tup [.str ⟨#[c]⟩, y]) hT)
      have rT := Same.new (o := .tup [.str ⟨#[c]⟩, y]) hT _ _ rE
      have nT := Same.new (o := .tup [.str ⟨#[c]⟩, y]) hT _ _ nE
      have aT := Same.new (o := .tup [.str ⟨#[c]⟩, y]) hT _ _ (fE _ _ ra.symm na.symm a12)
      have ET' := Same.new (o := .tup [.str ⟨#[c]⟩, y]) hT _ _ aE
      have fT : ∀ x o, x ≠ r → x ≠ n → H12 x = some o → upd H' Tp (.tup [.str ⟨#[c]⟩, y]) x = some o := fun x o x1 x2 e => Same.new hT _ _ (fE x o x1 x2 e)
      generalize upd H' Tp (.tup [.str ⟨#[c]⟩, y]) = HT at *
      match i, hc, hy, aE, rE, nE, ET', rT, nT with
      | 0, hc, hy, aE, rE, nE, ET', rT, nT =>
        obtain rfl : c = 98 := by
          have e : ("bn" : Str).cps[0]? = some 98 := by decide +kernel
          rw [e] at hc; exact (Option.some.inj hc).symm
        obtain rfl : y = .str b := (Option.some.inj hy).symm
        rw [show (⟨#[98]⟩ : Str) = "b" by decide +kernel]
        walk_at "rd"
        refine r_fldO DT.o (c_Draft T) (na_Draft_width T) lkD_width ?_
        walk_at "rd"
        refine ⟨a, dx, ln, _, qg, r, n, _, "b", b, rfl, aT, hrn, ra.symm, na.symm, w4, w32, .inl ⟨rfl, NB.nm, NB.len, [], rT, by decide, fun H4 e4 sb => ?_⟩⟩
        refine ⟨_, sb _ _ Er ET', by show 0 < sizeLine; decide, hE, upd_same, ?_, ?_, fun x o x1 x2 e => ?_⟩
        · rw [upd_ne Er.symm]; exact e4
        · rw [upd_ne En.symm]; exact sb _ _ hrn.symm nT
        · rw [upd_ne (ne_of_none e hE)]; exact sb _ _ x1 (fT x o x1 x2 e)
      | 1, hc, hy, aE, rE, nE, ET', rT, nT =>
        obtain rfl : c = 110 := by
          have e : ("bn" : Str).cps[1]? = some 110 := by decide +kernel
          rw [e] at hc; exact (Option.some.inj hc).symm
        obtain rfl : y = .str "3" := (Option.some.inj hy).symm
        rw [show (⟨#[110]⟩ : Str) = "n" by decide +kernel]
        walk_at "rd"
        refine r_fldO DT.o (c_Draft T) (na_Draft_width T) lkD_width ?_
        walk_at "rd"
        refine ⟨a, dx, ln, _, qg, r, n, _, "n", "3", rfl, aT, hrn, ra.symm, na.symm, w4, w32, .inr ⟨rfl, rfl, nT, fun H4 e4 sb => ?_⟩⟩
        refine ⟨_, sb _ _ En ET', by show 1 < sizeLine; decide, hE, upd_same, ?_, ?_, fun x o x1 x2 e => ?_⟩
        · rw [upd_ne Er.symm]; exact sb _ _ hrn rT
        · rw [upd_ne En.symm]; exact e4
        · rw [upd_ne (ne_of_none e hE)]; exact sb _ _ x2 (fT x o x1 x2 e)
      | i + 2, hc, hy, aE, rE, nE, ET', rT, nT => exact absurd hy (by simp)
    · obtain ⟨hE, aE, rE, nE, fE⟩ := q
      have DE := D12.frame (H' := H') fun x hx => by
        obtain ⟨o, e⟩ := D12.alloc x hx
        rw [e]; exact fE x o (fun w => ir8 (by rw [← w]; exact hx)) (fun w => in8 (by rw [← w]; exact hx)) e
      have SF : Same F2 H' := fun x o e => by
        by_cases x1 : x = r
        · subst x1; rw [p4] at e; rw [← e]; exact rE
        · by_cases x2 : x = n
          · subst x2; rw [p5] at e; rw [← e]; exact nE
          · exact fE x o x1 x2 (f12 x o (p3 x o x1 x2 e))
      walk_at "rd"
      refine ⟨E, [true, true], rfl, SqL.of aE, ?_⟩
      exact kq' F2 A H' p1 SF DE
  | set g n' =>
    refine loop _ rfl [] [n'] _ ?_ _ rfl
    intro F2 z H10 p1 p2 p3 p4 p5 D10 f10
    have er10 := f10 _ _ ir er9
    have r10 := f10 _ _ ir8 r9
    have n10 := f10 _ _ in8 n9
    have a10 := f10 _ _ ia a9
    have ewd := (addR_known0 M (.row ln "set" [g] [] [n'] .nil)).2.1
    have ech := (addR_known0 M (.row ln "set" [g] [] [n'] .nil)).2.2
    have w4 : 4 ≤ (addR M (.row ln "set" [g] [] [n'] .nil)).wd := by rw [ewd]; exact h4
    have w32 : (addR M (.row ln "set" [g] [] [n'] .nil)).wd ≤ 32 := by rw [ewd]; exact h32
    have kq' : PostD K F d { addR M (.row ln "set" [g] [] [n'] .nil) with known := putN M.known g, chosen := (addR M (.row ln "set" [g] [] [n'] .nil)).chosen ++ [ln] } Q := by rw [ech, ← addR_chosen]; exact kq
    walk_at "rdo"
    refine r_fldO D10.o (c_Draft T) (na_Draft_width T) lkD_width ?_
    walk_at "rdo"
    refine r_slL (SqL.of er10) fun q11 hq11 => ?_
    have s11 : Same H10 (upd H10 q11 (.lst (cutV ((Ln.set g n').rest.map V.str) none (some (-1))))) := Same.new hq11
    have e11 : upd H10 q11 (.lst (cutV ((Ln.set g n').rest.map V.str) none (some (-1)))) q11 = some (.lst [.str "plain"]) := by rw [upd_same]; rfl
    generalize upd H10 q11 (.lst (cutV ((Ln.set g n').rest.map V.str) none (some (-1)))) = H11 at *
    walk_at "rdo"
    refine ⟨_, q11, rfl, e11, w4, w32, fun k H12 hk s12 K12 => ?_⟩
    have s02 : Same H10 H12 := fun x o e => s12 _ _ (s11 _ _ e)
    have hk10 : H10 k = none := s11.free hk
    have D12 := D10.same s02
    have ik := D10.fresh hk10
    obtain ⟨gk, dk, ek⟩ := K12
    have Fk : F2 k = none := by
      cases e : F2 k with
      | none => rfl
      | some o =>
        have k1 : k ≠ r := ne_of_none' hk10 r10
        have k2 : k ≠ n := ne_of_none' hk10 n10
        rw [p3 _ _ k1 k2 e] at hk10; cases hk10
    have D13 := D12.froze (Same.new (o := .ins (clsOf K KTag.plain) dk [("width", .int (addR M (.row ln "set" [g] [] [n'] .nil)).wd), ("point", .int 0)]) Fk) (fun x hx => by rw [upd_ne (fun w => ik (by rw [← w]; exact hx))]; exact p2 x hx)
    obtain ⟨kvs, c1, c2, c3⟩ := D13.c
    have K13 : KindAt K (upd F2 k (.ins (clsOf K KTag.plain) dk [("width", .int (addR M (.row ln "set" [g] [] [n'] .nil)).wd), ("point", .int 0)])) k ⟨.plain, (addR M (.row ln "set" [g] [] [n'] .nil)).wd, 0⟩ := ⟨gk, dk, upd_same⟩
    have D14 := D13.choose (ln := ln) c1 K13
    walk_at "rdo"
    refine r_fldO D12.o (c_Draft T) (na_Draft_chosen T) lkD_chosen ?_
    walk_at "rdo"
    have cl : kvs.length ≤ M.chosen.length := by rw [← ech]; exact c2
    refine r_dputI c1 (by omega) ?_
    have cm := (A.mem d).2.2.2.2.2.2
    have f14 : ∀ x o, x ∉ A.fp d → H10 x = some o → upd H12 A.c (.dK (putK kvs (Sum.inl ln) (.ref k))) x = some o := fun x o hx e => by
      have hxc : x ≠ A.c := fun w => hx (by rw [w]; exact cm)
      rw [upd_ne hxc]; exact s02 _ _ e
    have k14 : upd H12 A.c (.dK (putK kvs (Sum.inl ln) (.ref k))) k = some (.ins (clsOf K KTag.plain) dk [("width", .int (addR M (.row ln "set" [g] [] [n'] .nil)).wd), ("point", .int 0)]) := by
      have hkc : k ≠ A.c := fun w => ik (by rw [w]; exact cm)
      rw [upd_ne hkc]; exact ek
    have c14 : upd H12 A.c (.dK (putK kvs (Sum.inl ln) (.ref k))) A.c = some (.dK (putK kvs (Sum.inl ln) (.ref k))) := upd_same
    generalize upd H12 A.c (.dK (putK kvs (Sum.inl ln) (.ref k))) = H14 at *
    have a14 := f14 _ _ ia a10
    have n14 := f14 _ _ in8 n10
    have r14 := f14 _ _ ir8 r10
    have er14 := f14 _ _ ir er10
    walk_at "rdo"
    refine r_fldO a14 (c_Row T) (na_Row_numbers T) lkR_numbers ?_
    refine r_tyL (SqL.of n14) ?_
    walk_at "rdo"
    refine r_dget ?_
    walk_at "rdo"
    refine r_fldO D14.o (c_Draft T) (na_Draft_chosen T) lkD_chosen ?_
    walk_at "rdo"
    refine r_dgetI (v := .ref k) c14 (by rw [valV_put, if_pos rfl]) ?_
    walk_at "rdo"
    refine ⟨rfl, ?_⟩
    walk_at "rdo"
    refine r_slL (SqL.of er14) fun q15 hq15 => ?_
    have s15 : Same H14 (upd H14 q15 (.lst (cutV ((Ln.set g n').rest.map V.str) (some (-1)) none))) := Same.new hq15
    have e15 : upd H14 q15 (.lst (cutV ((Ln.set g n').rest.map V.str) (some (-1)) none)) q15 = some (.lst (([num n'] : List Str).map V.str)) := by rw [upd_same]; rfl
    generalize upd H14 q15 (.lst (cutV ((Ln.set g n').rest.map V.str) (some (-1)) none)) = H15 at *
    walk_at "rdo"
    have j3 := join3 hl.2.1 hl.2.2
    refine ⟨"", q15, [num n'], rfl, rfl, .inl (SqL.of e15), ?_, ?_⟩
    · have l0 : ("" : Str).length = 0 := by decide +kernel
      rw [l0]
      show ([(num n').length].sum + 1 * 0 ≤ 16777216)
      simp only [List.sum_cons, List.sum_nil]
      have := j3.2
      omega
    rw [j3.1]
    walk_at "rdo"
    refine ⟨k, _, n', rfl, ⟨gk, dk, s15 _ _ k14⟩, rfl, hl.2.1, hl.2.2, fun H16 s16 => ?_⟩
    have s46 : Same H14 H16 := fun x o e => s16 _ _ (s15 _ _ e)
    have D16 := D14.same s46
    walk_at "rdo"
    refine r_app (s46 _ _ n14) (by decide) ?_
    have D17 := D16.other (o := .lst ([] ++ [.int n'])) in8
    have n17 : upd H16 n (.lst ([] ++ [.int n'])) n = some (.lst [.int n']) := upd_same
    have a17 : upd H16 n (.lst ([] ++ [.int n'])) a = some (.ins (He.ga K "Row") dx (rowFs ln (Ln.set g n').deed qg r n)) := by rw [upd_ne na.symm]; exact s46 _ _ a14
    have f17 : ∀ x o, x ∉ A.fp d → x ≠ n → H10 x = some o → upd H16 n (.lst ([] ++ [.int n'])) x = some o := fun x o hx hxn e => by
      rw [upd_ne hxn]; exact s46 _ _ (f14 x o hx e)
    have k17 : upd H16 n (.lst ([] ++ [.int n'])) k = some (.ins (clsOf K KTag.plain) dk [("width", .int (addR M (.row ln "set" [g] [] [n'] .nil)).wd), ("point", .int 0)]) := by
      rw [upd_ne (ne_of_none' hk10 n10)]; exact s46 _ _ k14
    generalize upd H16 n (.lst ([] ++ [.int n'])) = H17 at *
    walk_at "rdo"
    refine r_fldO a17 (c_Row T) (na_Row_numbers T) lkR_numbers ?_
    walk_at "rdo"
    refine r_newL fun q18 hq18 => ?_
    have s18 : Same H17 (upd H17 q18 (.lst [.non])) := Same.new hq18
    refine ⟨.list [.int n'], .list [.none], .lst (SqL.of (s18 _ _ n17)) (.cons (.int n') .nil), .lst (SqL.of upd_same) (.cons .non .nil), by simp [SeqAt.shaped, PyData.canLay0, PyData.canLayAll0, PyData.depth, PyData.depthAll], by decide +kernel, ?_⟩
    rw [show (!PyData.eqv (.list [.int n']) (.list [.none])) = true by simp [PyData.eqv, PyData.eqvAll]]
    have D18 := D17.same s18
    have F3s : Same F (upd F2 k (.ins (clsOf K KTag.plain) dk [("width", .int (addR M (.row ln "set" [g] [] [n'] .nil)).wd), ("point", .int 0)])) := fun x o e => Same.new Fk _ _ (p1 _ _ e)
    refine kq' _ A _ F3s (fun x o e => ?_) D18
    by_cases xk : x = k
    · subst xk; rw [upd_same] at e; rw [← e]; exact s18 _ _ k17
    rw [upd_ne xk] at e
    by_cases x1 : x = r
    · subst x1; rw [p4] at e; rw [← e]; exact s18 _ _ (f17 _ _ ir8 hrn r10)
    · by_cases x2 : x = n
      · subst x2; rw [p5] at e; rw [← e]; exact s18 _ _ n17
      · refine s18 _ _ (f17 x o (fun w => ?_) x2 (p3 x o x1 x2 e))
        rw [p2 x w] at e; cases e
theorem met_Draft_take_row (T : Tx K mg) : ∀ C, C = He.ga K "Draft" → MetX P w K mg base 8 C "take_row" (sp_Draft_take_row K) := by
  rintro C rfl
  obtain ⟨fd, F⟩ := fn_Draft_take_row T
  exact ⟨_, fd, _, c_Draft T, m_Draft_take_row T, ok_Draft_take_row T F, F.bindsN fun _ _ _ _ _ _ us hl => match us, hl with | [_, _, _], _ => rfl⟩

end
section
variable {P : Program} {w : World} {K : PySem.W.Frag} {mg : Str → Option Value} {base : Heap}
def Ln.sound (ln : Int) (M : DM) : Ln → Prop
  | .width w => ln = 0 ∧ M.ins = [] ∧ M.chosen = [] ∧ numberIn (num w) 4 32 = some w ∧ (num w).length ≤ 100
  | .inp nm => 0 < ln ∧ M.rows = .nil ∧ M.loops = [] ∧ M.outs = [] ∧ isName nm = true ∧ nm.length ≤ 100 ∧ 4 ≤ M.wd ∧ M.wd ≤ 32 ∧ M.ins.length ≤ 1000 ∧ M.known.length ≤ 1000
  | .out nm => 0 < ln ∧ M.loops = [] ∧ isName nm = true ∧ nm.length ≤ 100 ∧ M.outs.length ≤ 1000
  | .rep n => 0 < ln ∧ M.outs = [] ∧ numberIn (num n) 1 32 = some n ∧ (num n).length ≤ 100 ∧ M.loops.length ≤ 1000
  | .fin => 0 < ln ∧ M.outs = [] ∧ ∃ a b y l, M.loops = (a, b, y) :: l ∧ y ≠ .nil ∧ ({ M with loops := l } : DM).top.len ≤ 1000
  | l => 0 < ln ∧ M.outs = [] ∧ l.rowOk isName ∧ 4 ≤ M.wd ∧ M.wd ≤ 32 ∧ M.known.length ≤ 1000 ∧ M.chosen.length ≤ 1000 ∧ M.top.len ≤ 1000
def sp_Draft_take (K : PySem.W.Frag) : Sp := fun vs H Q _ => ∃ d ln aw, ∃ l : Ln, ∃ F M A, vs = [.ref d, .int ln, .ref aw] ∧ F aw = some (.lst (l.words.map V.str)) ∧ Same F H ∧ DAt K F H d M A ∧ l.sound ln M ∧
  match l.step ln M with
  | some M' => PostD K F d M' Q
  | none => ∀ H', Same F H' → Q (.bl false) H'
abbrev N_Draft_take : List Str := ["self", "line", "words"]
theorem sc_Draft_take : FnScope ["self", "line", "words"] ["self", "line", "words"] (defScope s_Draft_take) := ⟨rfl, rfl, rfl, by decide +kernel, rfl, by decide +kernel, by decide +kernel⟩
theorem ok_Draft_take {f : Addr} {fd : FuncData} (T : Tx K mg)  (F : FunP K "take" "Draft.take" s_Draft_take f fd) : FnOk P w K mg base (L2.CX P w) 9 f fd ["self", "line", "words"] (sp_Draft_take K) := by
  refine F.ok sc_Draft_take (fun vs H Q E h => ?_) (fun cdv A outer s H vs Q E hr h => ?_)
  · repeat first | (obtain ⟨e, _⟩ := h; subst e; rfl; done) | (obtain ⟨_, h⟩ := h)
  refine ⟨_, (pss_cons (ps_if (pt_cmpR op_eq (pv 1) pe_int (nomark _)) (pss_one (ps_ret (pe_mX (met_Draft_take_width T) hr (by decide) pU (pv 0) (pa_cons (pv 2) pa_nil)))) pss_nil)
  (pss_cons (ps_if (pt_cmpR op_eq (pe_ix ix_list (pv 2) pe_int (fun _ _ => rfl)) pe_str (nomark _)) (pss_one (ps_ret (pe_mX (met_Draft_take_in T) hr (by decide) pU (pv 0) (pa_cons (pv 1) (pa_cons (pv 2) pa_nil))))) pss_nil)
  (pss_cons (ps_if (pt_cmpR op_eq (pe_ix ix_list (pv 2) pe_int (fun _ _ => rfl)) pe_str (nomark _)) (pss_one (ps_ret (pe_mX (met_Draft_take_out T) hr (by decide) pU (pv 0) (pa_cons (pv 1) (pa_cons (pv 2) pa_nil))))) pss_nil)
  (pss_cons (ps_if (pt_cmpR (op_neE (hu64 hr)) (pe_fld (pv 0) rfl) (pe_lst pa_nil) (nomark _)) (pss_one (ps_ret pe_bl)) pss_nil)
  (pss_cons (ps_if (pt_cmpR op_eq (pe_ix ix_list (pv 2) pe_int (fun _ _ => rfl)) pe_str (nomark _)) (pss_one (ps_ret (pe_mX (met_Draft_take_repeat T) hr (by decide) pU (pv 0) (pa_cons (pv 1) (pa_cons (pv 2) pa_nil))))) pss_nil)
  (pss_cons (ps_if (pt_cmpR (op_eqD (hu64 hr)) (pv 2) (pe_lst (pa_cons pe_str pa_nil)) (nomark _)) (pss_one (ps_ret (pe_mX0 (met_Draft_take_end T) hr (by decide) pU (pv 0)))) pss_nil)
  (pss_one (ps_ret (pe_mX (met_Draft_take_row T) hr (by decide) pU (pv 0) (pa_cons (pv 1) (pa_cons (pv 2) pa_nil))))))))))), ?_⟩
  try dsimp only [cxK]
  obtain ⟨d, ln, aw, l, F, M, A, rfl, hw, S, D, hl, kq⟩ := h
  walk_at "rd"
  refine r_iteD (fun e0 => ?_) (fun e0 => ?_)
  · cases l with
    | width w =>
      walk_at "rdo"
      refine r_methO D.o rfl (lkD_none (by decide +kernel)) ?_
      walk_at "rdo"
      exact ⟨d, aw, w, F, M, A, rfl, hw, S, D, hl.2.1, hl.2.2.1, hl.2.2.2.1, hl.2.2.2.2, kq⟩
    | _ => exact absurd hl.1 (by omega)
  have outs0 : M.outs = [] → ∀ (R : V → Hp → Prop), (∀ H', Same H H' → R (.bl false) H') → tOp (rNeE K) (tFld K (tVar 0) "outs") (tLst tNil) (L2.start ["self", "line", "words"] [V.ref d, V.int ln, V.ref aw]) H R := by
    intro ho R hR
    walk_at "rd"
    refine r_fldO D.o (c_Draft T) (na_Draft_outs T) lkD_outs ?_
    walk_at "rd"
    refine r_newL fun q hq => ?_
    have s1 : Same H (upd H q (.lst [])) := Same.new hq
    obtain ⟨vo, o1, o2⟩ := (D.same s1).u
    rw [ho] at o2; cases o2
    exact r_neE0 (SqL.of o1) (SqL.of upd_same) (hR _ s1)
  by_cases hrw : l.rowOk isName ∧ M.outs = [] ∧ 4 ≤ M.wd ∧ M.wd ≤ 32 ∧ M.known.length ≤ 1000 ∧ M.chosen.length ≤ 1000 ∧ M.top.len ≤ 1000
  · obtain ⟨hr, ho, h4, h32, hk, hc, ht⟩ := hrw
    obtain ⟨g, t, ew, hg⟩ := Ln.firstName hr
    have hw' := hw
    rw [ew] at hw'
    have n1 : g ≠ "in" := fun z => by rw [z, show isName "in" = false by decide +kernel] at hg; cases hg
    have n2 : g ≠ "out" := fun z => by rw [z, show isName "out" = false by decide +kernel] at hg; cases hg
    have n3 : g ≠ "repeat" := fun z => by rw [z, show isName "repeat" = false by decide +kernel] at hg; cases hg
    walk_at "rd"
    refine r_ixL (SqL.of (S _ _ hw')) at0 ?_
    walk_at "rd"
    refine r_DF n1 ?_
    walk_at "rd"
    refine r_ixL (SqL.of (S _ _ hw')) at0 ?_
    walk_at "rd"
    refine r_DF n2 ?_
    with_reducible refine r_next ?_
    with_reducible refine r_seq ?_
    with_reducible refine r_if ?_
    with_reducible refine r_test ?_
    refine outs0 ho _ fun H1 s1 => ?_
    have S1 := S.trans s1
    have D1 := D.same s1
    walk_at "rd"
    refine r_ixL (SqL.of (S1 _ _ hw')) at0 ?_
    walk_at "rd"
    refine r_DF n3 ?_
    walk_at "rd"
    refine r_newL fun q2 hq2 => ?_
    have s2 : Same H1 (upd H1 q2 (.lst [.str "end"])) := Same.new hq2
    have S2 : Same F (upd H1 q2 (.lst [.str "end"])) := fun a u e => s2 a u (S1 a u e)
    have D2 := D1.same s2
    have ne := Ln.notEnd hr
    refine r_eqStrs l.words ["end"] false (SqL.of (S2 _ _ hw)) (SqL.of upd_same) (by rw [ne.1]; decide +kernel) ne.2 ?_
    generalize upd H1 q2 (.lst [.str "end"]) = H2 at *
    walk_at "rd"
    refine r_methO D2.o rfl (lkD_none (by decide +kernel)) ?_
    walk_at "rd"
    exact ⟨d, ln, aw, l, F, M, A, rfl, hw, S2, D2, hr, h4, h32, hk, hc, ht, kq⟩
  cases l with
  | width w => exact absurd hl.1 e0
  | inp nm =>
    obtain ⟨-, h1, h2, h3, h4, h5, h6, h7, h8, h9⟩ := hl
    walk_at "rd"
    refine r_ixL (SqL.of (S _ _ hw)) at0 ?_
    walk_at "rdo"
    refine r_methO D.o rfl (lkD_none (by decide +kernel)) ?_
    walk_at "rdo"
    exact ⟨d, ln, aw, nm, F, M, A, rfl, hw, S, D, h1, h2, h3, h4, h5, h6, h7, h8, h9, kq⟩
  | out nm =>
    obtain ⟨-, h1, h2, h3, h4⟩ := hl
    walk_at "rd"
    refine r_ixL (SqL.of (S _ _ hw)) at0 ?_
    walk_at "rdo"
    refine r_ixL (SqL.of (S _ _ hw)) at0 ?_
    walk_at "rdo"
    refine r_methO D.o rfl (lkD_none (by decide +kernel)) ?_
    walk_at "rdo"
    exact ⟨d, ln, aw, nm, F, M, A, rfl, hw, S, D, h1, h2, h3, h4, kq⟩
  | rep n =>
    obtain ⟨-, ho, h2, h3, h4⟩ := hl
    walk_at "rd"
    refine r_ixL (SqL.of (S _ _ hw)) at0 ?_
    walk_at "rdo"
    refine r_ixL (SqL.of (S _ _ hw)) at0 ?_
    walk_at "rd"
    refine r_DF (by decide +kernel) ?_
    with_reducible refine r_next ?_
    with_reducible refine r_seq ?_
    with_reducible refine r_if ?_
    with_reducible refine r_test ?_
    refine outs0 ho _ fun H1 s1 => ?_
    have S1 := S.trans s1
    have D1 := D.same s1
    walk_at "rd"
    refine r_ixL (SqL.of (S1 _ _ hw)) at0 ?_
    walk_at "rdo"
    refine r_methO D1.o rfl (lkD_none (by decide +kernel)) ?_
    walk_at "rdo"
    exact ⟨d, ln, aw, n, F, M, A, rfl, hw, S1, D1, h2, h3, h4, kq⟩
  | fin =>
    obtain ⟨-, ho, a, b, y, l', hl', hy, ht⟩ := hl
    walk_at "rd"
    refine r_ixL (SqL.of (S _ _ hw)) at0 ?_
    walk_at "rdo"
    refine r_ixL (SqL.of (S _ _ hw)) at0 ?_
    walk_at "rd"
    refine r_DF (by decide +kernel) ?_
    with_reducible refine r_next ?_
    with_reducible refine r_seq ?_
    with_reducible refine r_if ?_
    with_reducible refine r_test ?_
    refine outs0 ho _ fun H1 s1 => ?_
    have S1 := S.trans s1
    have D1 := D.same s1
    walk_at "rd"
    refine r_ixL (SqL.of (S1 _ _ hw)) at0 ?_
    walk_at "rdo"
    refine r_newL fun q2 hq2 => ?_
    have s2 : Same H1 (upd H1 q2 (.lst [.str "end"])) := Same.new hq2
    have S2 : Same F (upd H1 q2 (.lst [.str "end"])) := fun a u e => s2 a u (S1 a u e)
    have D2 := D1.same s2
    refine r_eqStrs ["end"] ["end"] true (SqL.of (S2 _ _ hw)) (SqL.of upd_same) (by decide +kernel) (by decide +kernel) ?_
    generalize upd H1 q2 (.lst [.str "end"]) = H2 at *
    walk_at "rdo"
    refine r_methO D2.o rfl (lkD_none (by decide +kernel)) ?_
    walk_at "rdo"
    refine ⟨d, F, M, A, a, b, y, l', rfl, S2, D2, hl', hy, ht, ?_⟩
    have kq2 := kq
    simp only [Ln.step, hl'] at kq2
    exact kq2
  | copy g b => exact absurd ⟨hl.2.2.1, hl.2.1, hl.2.2.2⟩ hrw
  | bad g => exact absurd ⟨hl.2.2.1, hl.2.1, hl.2.2.2⟩ hrw
  | part g h b => exact absurd ⟨hl.2.2.1, hl.2.1, hl.2.2.2⟩ hrw
  | set g n => exact absurd ⟨hl.2.2.1, hl.2.1, hl.2.2.2⟩ hrw
theorem met_Draft_take (T : Tx K mg) : ∀ C, C = He.ga K "Draft" → MetX P w K mg base 9 C "take" (sp_Draft_take K) := by
  rintro C rfl
  obtain ⟨fd, F⟩ := fn_Draft_take T
  exact ⟨_, fd, _, c_Draft T, m_Draft_take T, ok_Draft_take T F, F.bindsN fun _ _ _ _ _ _ us hl => match us, hl with | [_, _, _], _ => rfl⟩

end
section
variable {P : Program} {w : World} {K : PySem.W.Frag} {mg : Str → Option Value} {base : Heap}
def SoundAll : Int → DM → List Ln → Prop
  | _, M, [] => M.loops = [] ∧ M.outs ≠ []
  | ln, M, l :: r => l.sound ln M ∧ ∀ M', l.step ln M = some M' → M'.great ln = false → SoundAll (ln + 1) M' r
def sp_read_lines (K : PySem.W.Frag) : Sp := fun vs H Q E => ∃ text ls, vs = [.str text] ∧ TextOk text ls ∧ SoundAll 0 DM0 ls ∧
  match readM 0 DM0 ls with
  | .ok M => ∀ d F A H', Same H F → Same F H' → DAt K F H' d M A → Q (.ref d) H'
  | .form ln => Rz1 K E H "NoProgram" "line" (.int ln)
  | .much ln => Rz1 K E H "TooMuch" "line" (.int ln)
abbrev N_read_lines : List Str := ["text", "draft", "lines", "line", "row", "words"]
theorem sc_read_lines : FnScope ["text", "draft", "lines", "line", "row", "words"] ["text"] (defScope s_read_lines) := ⟨rfl, rfl, rfl, by decide +kernel, rfl, by decide +kernel, by decide +kernel⟩
theorem ok_read_lines {f : Addr} {fd : FuncData} (T : Tx K mg)  (F : FunP K "read_lines" "read_lines" s_read_lines f fd) : FnOk P w K mg base (L2.CX P w) 10 f fd ["text"] (sp_read_lines K) := by
  refine F.ok sc_read_lines (fun vs H Q E h => ?_) (fun cdv A outer s H vs Q E hr h => ?_)
  · repeat first | (obtain ⟨e, _⟩ := h; subst e; rfl; done) | (obtain ⟨_, h⟩ := h)
  refine ⟨_, (pss_cons (ps_if (pt_not (pt_val (pe_callB call_isi (by rfl) (fr_isinstance T) (by decide +kernel) (pa_cons (pv 0) (pa_cons (pe_ty (n := "str") rfl (fr_str T) (by decide +kernel)) pa_nil))))) pss_dead pss_nil)
  (pss_cons (ps_set (i := 1) sc_read_lines.nd rfl (Or.inl rfl) (pe_kX0 (mak_Draft T) hr (by decide) rfl pU))
  (pss_cons (ps_set (i := 2) sc_read_lines.nd rfl (Or.inl rfl) (pe_split (pv 0) pe_str))
  (pss_cons (ps_for oU rfl (pi_enum rfl (fr_enumerate T) (pa_cons (pv 2) pa_nil)) (pg_tup rfl (pgs_cons (pg_name (i := 3) sc_read_lines.nd rfl (Or.inl rfl)) (pgs_cons (pg_name (i := 4) sc_read_lines.nd rfl (Or.inl rfl)) pgs_nil)))
  (pss_cons (ps_set (i := 5) sc_read_lines.nd rfl (Or.inl rfl) (pe_split (pv 4) pe_str))
  (pss_cons (ps_if (PW.pt (pw_or (pt_cmpR op_in_seq pe_str (pv 5) (by with_unfolding_all rfl)) (pw_or1 (pt_not (pt_val (pe_mX (met_Draft_take T) hr (by decide) pU (pv 1) (pa_cons (pv 3) (pa_cons (pv 5) pa_nil)))))))) (pss_one (ps_rX rfl tU (exc_NoProgram T) hr (by decide) rfl (pa_cons (pv 3) pa_nil))) pss_nil)
  (pss_one (ps_if (pt_val (pe_mX (met_Draft_is_great T) hr (by decide) pU (pv 1) (pa_cons (pv 3) pa_nil))) (pss_one (ps_rX rfl tU (exc_TooMuch T) hr (by decide) rfl (pa_cons (pv 3) pa_nil))) pss_nil)))))
  (pss_cons (ps_if (PW.pt (pw_or (pt_cmpR (op_neE (hu64 hr)) (pe_fld (pv 1) rfl) (pe_lst pa_nil) (nomark _)) (pw_or1 (pt_cmpR (op_eqE (hu64 hr)) (pe_fld (pv 1) rfl) (pe_lst pa_nil) (nomark _))))) pss_dead pss_nil)
  (pss_one (ps_ret (pv 1)))))))), ?_⟩
  try dsimp only [cxK]
  obtain ⟨text, ls, rfl, TO, SA, kq⟩ := h
  obtain ⟨ts, et, elen, ew⟩ := TO.ts
  walk_at "rdo"
  refine r_isiStr ?_
  walk_at "rdo"
  intro d dx hd hdx hne
  refine ⟨d, dx, rfl, upd_same, fun A H1 D1 fr1 f1 => ⟨rfl, ?_⟩⟩
  have frH : ∀ x ∈ A.fp d, H x = none := fun x hx => by
    rcases fr1 x hx with rfl | h
    · exact hd
    · by_cases e1 : x = d
      · rw [e1]; exact hd
      · rw [upd_ne e1] at h
        by_cases e2 : x = dx
        · rw [e2]; exact hdx
        · rwa [upd_ne e2] at h
  have D1 := D1 H frH
  have S1 : Same H H1 := fun x o e => by
    have hx : x ∉ A.fp d := fun z => by rw [frH x z] at e; cases e
    rw [f1 x hx, upd_ne (ne_of_none e hd), upd_ne (ne_of_none e hdx)]; exact e
  walk_at "rdo"
  refine r_m1 ?_
  walk_at "rdo"
  refine ⟨⟨_, rfl⟩, ?_⟩
  walk_at "rdo"
  refine ⟨rfl, line_le (by have := TO.len; omega), fun p hp => ?_⟩
  rw [et]
  have s2 : Same H1 (upd H1 p (.lst (ts.map V.str))) := Same.new hp
  have D2 := D1.same s2
  have ip := D1.fresh hp
  obtain ⟨F, z1, z2, D3, z3⟩ := D2.freeze (fun x o e => s2 _ _ (S1 x o e))
  have pF := z3 p _ ip upd_same
  generalize upd H1 p (.lst (ts.map V.str)) = H2 at *
  walk_at "rd"
  have sF : Same H F := z1
  refine r_forE rfl (SqL.of (z2 _ _ pF)) (fun i σ' H' => (∃ a1 a2 a3, σ' = (((((L2.start ["text", "draft", "lines", "line", "row", "words"] [V.str text]).set 1 (some (V.ref d))).set 2 (some (V.ref p))).set 3 a1).set 4 a2).set 5 a3) ∧
    ∃ Mi Fi Ai, readM 0 DM0 ls = readM (i : Int) Mi (ls.drop i) ∧ SoundAll (i : Int) Mi (ls.drop i) ∧ Same F Fi ∧ Same Fi H' ∧ DAt K Fi H' d Mi Ai)
    ⟨⟨none, none, none, rfl⟩, DM0, F, A, rfl, SA, Same.refl _, z2, D3⟩ (fun i σ' H' q => ?_) (fun i x Tp σ' H' hx q hT => ?_) (fun σ' H' q => ?_)
  · obtain ⟨-, Mi, Fi, Ai, -, -, q3, q4, -⟩ := q
    exact SqL.of (q4 _ _ (q3 _ _ pF))
  · obtain ⟨⟨a1, a2, a3, rfl⟩, Mi, Fi, Ai, q1, q2, q3, q4, q5⟩ := q
    obtain ⟨t, ht, rfl⟩ : ∃ t, ts[i]? = some t ∧ x = V.str t := by
      rw [List.getElem?_map] at hx
      cases e : ts[i]? with
      | none => rw [e] at hx; cases hx
      | some y => rw [e] at hx; exact ⟨y, rfl, (Option.some.inj hx).symm⟩
    have hi : i < ls.length := by rw [← elen]; exact (List.getElem?_eq_some_iff.mp ht).1
    obtain ⟨l, hl⟩ : ∃ l, ls[i]? = some l := ⟨ls[i], by simp [hi]⟩
    have ed : ls.drop i = l :: ls.drop (i + 1) := by
      rw [List.drop_eq_getElem_cons hi]
      congr 1
      rw [List.getElem?_eq_getElem hi] at hl
      exact Option.some.inj hl
    obtain ⟨w1, w2, w3, w4⟩ := ew i t l ht hl
    rw [ed] at q1 q2
    have sT := Same.new (o := .tup [.int (i : Int), .str t]) hT
    have D4 := q5.same sT
    have S4 : Same Fi (upd H' Tp (.tup [.int (i : Int), .str t])) := fun x o e => sT _ _ (q4 _ _ e)
    generalize upd H' Tp (.tup [.int (i : Int), .str t]) = H4 at *
    walk_at "rd"
    refine r_m1 ?_
    walk_at "rd"
    refine ⟨⟨_, rfl⟩, ?_⟩
    walk_at "rd"
    refine ⟨t, " ", rfl, rfl, rfl, line_le (by omega), fun q hq => ?_⟩
    rw [w1]
    have s5 := Same.new (o := .lst (l.words.map V.str)) hq
    have D5 := D4.same s5
    have iq := D4.fresh hq
    obtain ⟨F5, y1, y2, D6, y3⟩ := D5.freeze (fun x o e => s5 _ _ (S4 x o e))
    have qF := y3 q _ iq upd_same
    generalize upd H4 q (.lst (l.words.map V.str)) = H5 at *
    have SH5 : Same H H5 := fun x o e => y2 _ _ (y1 _ _ (q3 _ _ (sF _ _ e)))
    walk_at "rd"
    refine r_inLs (SqL.of (y2 _ _ qF)) ?_
    walk_at "rd"
    refine r_DF w3 ?_
    walk_at "rd"
    refine r_methO D6.o rfl (lkD_none (by decide +kernel)) ?_
    walk_at "rd"
    refine ⟨d, (i : Int), q, l, F5, Mi, Ai, rfl, qF, y2, D6, q2.1, ?_⟩
    cases hs : l.step (i : Int) Mi with
    | none =>
      intro H6 S6
      have e : readM 0 DM0 ls = .form (i : Int) := by rw [q1]; simp only [readM, hs]
      rw [e] at kq
      walk_at "rd"
      exact mk1 (kq.on fun x o e => S6 _ _ (y1 _ _ (q3 _ _ (sF _ _ e))))
    | some M' =>
      intro F6 A6 H6 z6 S6 D7
      walk_at "rd"
      refine r_methO D7.o rfl (lkD_none (by decide +kernel)) ?_
      walk_at "rd"
      refine ⟨d, (i : Int), F6, M', A6, rfl, D7, ?_⟩
      cases hg : M'.great (i : Int) with
      | true =>
        have e : readM 0 DM0 ls = .much (i : Int) := by rw [q1]; simp only [readM, hs, hg]; rfl
        rw [e] at kq
        walk_at "rd"
        exact mk1 (kq.on fun x o e => S6 _ _ (z6 _ _ (y1 _ _ (q3 _ _ (sF _ _ e)))))
      | false =>
        have e : readM 0 DM0 ls = readM ((i + 1 : Nat) : Int) M' (ls.drop (i + 1)) := by rw [q1]; simp only [readM, hs, hg]; rfl
        have e2 : SoundAll ((i + 1 : Nat) : Int) M' (ls.drop (i + 1)) := q2.2 M' hs hg
        walk_at "rd"
        exact ⟨⟨some (.int (i : Int)), some (.str t), some (.ref q), rfl⟩, M', F6, A6, e, e2, fun x o e => z6 _ _ (y1 _ _ (q3 _ _ e)), S6, D7⟩
  · obtain ⟨⟨a1, a2, a3, rfl⟩, Mi, Fi, Ai, q1, q2, q3, q4, q5⟩ := q
    have el : ls.drop (ts.map V.str).length = [] := by rw [List.length_map, elen]; exact List.drop_length
    rw [el] at q1 q2
    obtain ⟨hl, ho⟩ := q2
    rw [q1] at kq
    walk_at "rd"
    refine r_fldO q5.o (c_Draft T) (na_Draft_loops T) lkD_loops ?_
    walk_at "rd"
    refine r_newL fun q2 hq2 => ?_
    have s2 := Same.new (o := .lst []) hq2
    have D2 := q5.same s2
    obtain ⟨vl, l1, l2⟩ := D2.l
    have ll := l2.len
    rw [hl] at ll
    have el2 : vl = [] := List.eq_nil_of_length_eq_zero ll
    subst el2
    refine r_neE0 (SqL.of l1) (SqL.of upd_same) ?_
    walk_at "rd"
    refine r_fldO D2.o (c_Draft T) (na_Draft_outs T) lkD_outs ?_
    walk_at "rd"
    refine r_newL fun q3' hq3 => ?_
    have s3 := Same.new (o := .lst []) hq3
    have D3' := D2.same s3
    obtain ⟨vo, o1, o2⟩ := D3'.u
    have ol := o2.len
    refine r_eqE1 (SqL.of o1) (SqL.of upd_same) (by rw [ol]; exact fun z => ho (List.eq_nil_of_length_eq_zero z)) ?_
    walk_at "rd"
    exact kq d Fi Ai _ (fun x o e => q3 _ _ (sF _ _ e)) (fun x o e => s3 _ _ (s2 _ _ (q4 _ _ e))) D3'
theorem cal_read_lines (T : Tx K mg) : CalX P w K mg base 10 "read_lines" (sp_read_lines K) [] := by
  obtain ⟨fd, F⟩ := fn_read_lines T
  exact ⟨_, fd, _, [], ok_read_lines T F, g_read_lines T, F.kp, F.bindsN fun _ _ _ _ _ _ us hl => match us, hl with | [_], _ => rfl, .nil⟩

end
section
variable {P : Program} {w : World} {K : PySem.W.Frag} {mg : Str → Option Value} {base : Heap}
theorem c_is (T : Tx K mg) : ∀ {H : Hp} {a dx : Addr} {fs : List (Str × V)} {Q : VK}, (H a = some (.ins (He.ga K "Row") dx fs) → Q (.bl false) H → rIsi K [.ref a, .ref (He.ga K "Repeat")] H Q) ∧ (H a = some (.ins (He.ga K "Repeat") dx fs) → Q (.bl true) H → rIsi K [.ref a, .ref (He.ga K "Repeat")] H Q) :=
  fun {H a dx fs Q} => ⟨fun e q => ⟨_, _, _, _, _, rfl, .own _, .base (.ins e (c_Row T) (is_Row T).ha (is_Row T).hn (is_Row T).htk (is_Row T).hm), ki_Row_Repeat T, q⟩,
    fun e q => ⟨_, _, _, _, _, rfl, .own _, .base (.ins e (c_Repeat T) (is_Repeat T).ha (is_Repeat T).hn (is_Repeat T).htk (is_Repeat T).hm), ki_Repeat_Repeat T, q⟩⟩
def sp_count_rows (K : PySem.W.Frag) (d : Nat) : Sp := fun vs H Q _ => ∃ p ws r, vs = [.ref p] ∧ H p = some (.lst ws) ∧ RowsAt K H r ws ∧ r.depth < d ∧ r.small ∧ r.count ≤ 100000000 ∧ Q (.int r.count) H
abbrev N_count_rows : List Str := ["rows", "many", "row"]
theorem sc_count_rows : FnScope ["rows", "many", "row"] ["rows"] (defScope s_count_rows) := ⟨rfl, rfl, rfl, by decide +kernel, rfl, by decide +kernel, by decide +kernel⟩
theorem ok_count_rows {f : Addr} {fd : FuncData} (T : Tx K mg) {d : Nat} (ih : CalX P w K mg base (d + 1) "count_rows" (sp_count_rows K d) []) (F : FunP K "count_rows" "count_rows" s_count_rows f fd) : FnOk P w K mg base (L2.CX P w) (d + 2) f fd ["rows"] (sp_count_rows K (d + 1)) := by
  refine F.ok sc_count_rows (fun vs H Q E h => ?_) (fun cdv A outer s H vs Q E hr h => ?_)
  · repeat first | (obtain ⟨e, _⟩ := h; subst e; rfl; done) | (obtain ⟨_, h⟩ := h)
  refine ⟨_, (pss_cons (ps_set (i := 1) sc_count_rows.nd rfl (Or.inl rfl) pe_int)
  (pss_cons (ps_for oU rfl (pi_list (pv 0)) (pg_name (i := 2) sc_count_rows.nd rfl (Or.inl rfl))
  (pss_one (ps_if (pt_val (pe_callB call_isi (by rfl) (fr_isinstance T) (by decide +kernel) (pa_cons (pv 2) (pa_cons (pe_gref rfl (g_Repeat T)) pa_nil)))) (pss_one (ps_aug (i := 1) sc_count_rows.nd rfl (Or.inl rfl) (pe_op op_mul (pe_fld (pv 2) rfl) (pe_cX ih hr (Nat.le_refl _) rfl pU (pa_cons (pe_fld (pv 2) rfl) pa_nil))) ip_add)) (pss_one (ps_aug (i := 1) sc_count_rows.nd rfl (Or.inl rfl) pe_int ip_add)))))
  (pss_one (ps_ret (pv 1))))), ?_⟩
  try dsimp only [cxK]
  obtain ⟨p, ws, r, rfl, hp, hr', hd, hs, hc, kq⟩ := h
  walk_at "rd"
  refine r_forLv rfl (SqL.of hp) ⟨fun i σ' H' => H' = H ∧ ∃ z, σ' = ((L2.start ["rows", "many", "row"] [V.ref p]).set 1 (some (.int (r.count - (r.dropN i).count)))).set 2 z, ⟨rfl, none, ?_⟩, fun i σ' H' q => by rw [q.1]; exact SqL.of hp, fun i x σ' H' hx q => ?_, fun σ' H' q => ?_⟩
  · rw [show r.count - (r.dropN 0).count = 0 by show r.count - r.count = 0; omega]; rfl
  · obtain ⟨rfl, z, rfl⟩ := q
    have sm := Rows.dropN_small hs i
    have sm2 := Rows.dropN_small hs (i + 1)
    have c0 := Rows.count0 sm.1
    have c1 := Rows.count0 sm2.1
    rcases hr'.item hx with ⟨ln, deed, gs, rs, ns, a, dx, g, rr, n, rfl, er, ea, -⟩ | ⟨ln, tm, body, a, dx, b, bs, rfl, er, ea, eb, hb⟩
    · have ec : (r.dropN i).count = 1 + (r.dropN (i + 1)).count := by rw [er]; rfl
      walk_at "rd"
      refine (c_is T).1 ea ?_
      walk_at "rd"
      refine ⟨rfl, some (.ref a), ?_⟩
      rw [show r.count - (r.dropN (i + 1)).count = r.count - (r.dropN i).count + 1 by omega]
      rfl
    · have ec : (r.dropN i).count = tm * body.count + (r.dropN (i + 1)).count := by rw [er]; rfl
      have sm' := sm.1
      rw [er] at sm'
      have hdep : body.depth < d := by have := sm.2; rw [er] at this; have h1 : body.depth + 1 ≤ r.depth := Nat.le_trans (Nat.le_max_left _ _) this; omega
      walk_at "rd"
      refine (c_is T).2 ea ?_
      walk_at "rd"
      refine r_fldO ea (c_Repeat T) (na_Repeat_times T) lkP_times ?_
      walk_at "rd"
      refine r_fldO ea (c_Repeat T) (na_Repeat_rows T) lkP_rows ?_
      walk_at "rd"
      refine ⟨b, bs, body, rfl, eb, hb, hdep, sm'.2.2.2.1, sm'.2.2.1, ?_⟩
      have b0 := Rows.count0 sm'.2.2.2.1
      have b1 := sm'.2.2.1
      have t0 := sm'.1
      have t1 := sm'.2.1
      show rI CMul (fun i j => V.int (i * j)) (V.int tm) (V.int body.count) H' _
      refine r_I (.inl ⟨by omega, by omega⟩) ?_
      walk_at "rd"
      refine ⟨rfl, some (.ref a), ?_⟩
      rw [show r.count - (r.dropN (i + 1)).count = r.count - (r.dropN i).count + tm * body.count by omega]
      rfl
  · obtain ⟨rfl, z, rfl⟩ := q
    rw [hr'.done, show r.count - Rows.nil.count = r.count by show r.count - 0 = r.count; omega]
    walk_at "rd"
    exact kq
theorem cal_count_rows' (T : Tx K mg) : ∀ d, CalX P w K mg base (d + 1) "count_rows" (sp_count_rows K d) []
  | 0 => by
    obtain ⟨fd, F⟩ := fn_count_rows T
    refine ⟨_, fd, ["rows"], [], F.ok sc_count_rows (fun vs H Q E h => ?_) (fun cdv A outer s H vs Q E hr h => ?_), g_count_rows T, F.kp, F.bindsN fun _ _ _ _ _ _ us hl => match us, hl with | [_], _ => rfl, .nil⟩
    · obtain ⟨p, ws, r, rfl, h1, h2, h3, h4⟩ := h; exact absurd h3 (Nat.not_lt_zero _)
    · obtain ⟨p, ws, r, rfl, h1, h2, h3, h4⟩ := h; exact absurd h3 (Nat.not_lt_zero _)
  | d + 1 => by
    obtain ⟨fd, F⟩ := fn_count_rows T
    exact ⟨_, fd, _, [], ok_count_rows T (cal_count_rows' T d) F, g_count_rows T, F.kp, F.bindsN fun _ _ _ _ _ _ us hl => match us, hl with | [_], _ => rfl, .nil⟩
theorem cal_count_rows (T : Tx K mg) : CalX P w K mg base 10 "count_rows" (sp_count_rows K 9) [] := cal_count_rows' T 9
end
section
variable {P : Program} {w : World} {K : PySem.W.Frag} {mg : Str → Option Value} {base : Heap}
def sp_Program_rows_run (K : PySem.W.Frag) : Sp := fun vs H Q _ => ∃ a dx wd i rr o k ws r, vs = [.ref a] ∧ H a = some (.ins (He.ga K "Program") dx (progFs wd i rr o k)) ∧ H rr = some (.lst ws) ∧ RowsAt K H r ws ∧ r.depth < 9 ∧ r.small ∧ r.count ≤ 100000000 ∧ Q (.int r.count) H
theorem lkQ_width {wd : Int} {i r o k : Addr} : List.lookup ("width" : Str) (progFs wd i r o k) = some (V.int wd) := rfl
theorem lkQ_inputs {wd : Int} {i r o k : Addr} : List.lookup ("inputs" : Str) (progFs wd i r o k) = some (V.ref i) := rfl
theorem lkQ_rows {wd : Int} {i r o k : Addr} : List.lookup ("rows" : Str) (progFs wd i r o k) = some (V.ref r) := rfl
theorem lkQ_outs {wd : Int} {i r o k : Addr} : List.lookup ("outs" : Str) (progFs wd i r o k) = some (V.ref o) := rfl
theorem lkQ_kinds {wd : Int} {i r o k : Addr} : List.lookup ("kinds" : Str) (progFs wd i r o k) = some (V.ref k) := rfl
theorem lkQ_none {wd : Int} {i r o k : Addr} {m : Str} (h : m ∉ (["width", "inputs", "rows", "outs", "kinds"] : List Str)) : List.lookup m (progFs wd i r o k) = none := by
  unfold progFs
  simp only [List.mem_cons, List.not_mem_nil, or_false, not_or] at h
  obtain ⟨h1, h2, h3, h4, h5⟩ := h
  simp only [List.lookup, beq_eq_false_iff_ne.mpr h1, beq_eq_false_iff_ne.mpr h2, beq_eq_false_iff_ne.mpr h3, beq_eq_false_iff_ne.mpr h4, beq_eq_false_iff_ne.mpr h5]
abbrev N_Program_rows_run : List Str := ["self"]
theorem sc_Program_rows_run : FnScope ["self"] ["self"] (defScope s_Program_rows_run) := ⟨rfl, rfl, rfl, by decide +kernel, rfl, by decide +kernel, by decide +kernel⟩
theorem ok_Program_rows_run {f : Addr} {fd : FuncData} (T : Tx K mg)  (F : FunP K "rows_run" "Program.rows_run" s_Program_rows_run f fd) : FnOk P w K mg base (L2.CX P w) 11 f fd ["self"] (sp_Program_rows_run K) := by
  refine F.ok sc_Program_rows_run (fun vs H Q E h => ?_) (fun cdv A outer s H vs Q E hr h => ?_)
  · repeat first | (obtain ⟨e, _⟩ := h; subst e; rfl; done) | (obtain ⟨_, h⟩ := h)
  refine ⟨_, (pss_one (ps_ret (pe_cX (cal_count_rows T) hr (by decide) rfl pU (pa_cons (pe_fld (pv 0) rfl) pa_nil)))), ?_⟩
  try dsimp only [cxK]
  obtain ⟨a, dx, wd, i, rr, o, k, ws, r, rfl, ha, hr', hw, hd, hs, hc, kq⟩ := h
  walk_at "rd"
  refine r_fldO ha (c_Program T) (na_Program_rows T) lkQ_rows ?_
  walk_at "rd"
  exact ⟨rr, ws, r, rfl, hr', hw, hd, hs, hc, kq⟩
theorem met_Program_rows_run (T : Tx K mg) : ∀ C, C = He.ga K "Program" → MetX P w K mg base 11 C "rows_run" (sp_Program_rows_run K) := by
  rintro C rfl
  obtain ⟨fd, F⟩ := fn_Program_rows_run T
  exact ⟨_, fd, _, c_Program T, m_Program_rows_run T, ok_Program_rows_run T F, F.bindsN fun _ _ _ _ _ _ us hl => match us, hl with | [_], _ => rfl⟩

end
section
variable {P : Program} {w : World} {K : PySem.W.Frag} {mg : Str → Option Value} {base : Heap}
def sp_Program_made_kind (K : PySem.W.Frag) : Sp := fun vs H Q _ => ∃ s a dx ln deed g r n p k wd, vs = [.ref s, .ref a, .ref p] ∧ H a = some (.ins (He.ga K "Row") dx (rowFs ln deed g r n)) ∧ (deed = "copy" ∨ deed = "part") ∧ H p = some (.lst [.ref k]) ∧ KindAt K H k ⟨.plain, wd, 0⟩ ∧ Rt H Q (.ref k)
abbrev N_Program_made_kind : List Str := ["self", "row", "some", "at", "kind"]
theorem sc_Program_made_kind : FnScope ["self", "row", "some", "at", "kind"] ["self", "row", "some"] (defScope s_Program_made_kind) := ⟨rfl, rfl, rfl, by decide +kernel, rfl, by decide +kernel, by decide +kernel⟩
theorem ok_Program_made_kind {f : Addr} {fd : FuncData} (T : Tx K mg)  (F : FunP K "made_kind" "Program.made_kind" s_Program_made_kind f fd) : FnOk P w K mg base (L2.CX P w) 7 f fd ["self", "row", "some"] (sp_Program_made_kind K) := by
  refine F.ok sc_Program_made_kind (fun vs H Q E h => ?_) (fun cdv A outer s H vs Q E hr h => ?_)
  · repeat first | (obtain ⟨e, _⟩ := h; subst e; rfl; done) | (obtain ⟨_, h⟩ := h)
  refine ⟨_, (pss_cons (ps_for oU rfl (pi_enum rfl (fr_enumerate T) (pa_cons (pv 2) pa_nil)) (pg_tup rfl (pgs_cons (pg_name (i := 3) sc_Program_made_kind.nd rfl (Or.inl rfl)) (pgs_cons (pg_name (i := 4) sc_Program_made_kind.nd rfl (Or.inl rfl)) pgs_nil)))
  (pss_one (ps_if (PW.pt (pw_or (PW.pt (pw_and (pt_cmpR op_in_seq (pe_fld (pv 1) rfl) (pe_gref rfl (g_PLAIN_DEEDS T)) (by with_unfolding_all rfl)) (pw_and1 (pt_cmpR op_ne (pe_mX0 (met_Kind_word T) hr (by decide) pU (pv 4)) pe_str (nomark _))))) (pw_or1 (PW.pt (pw_and (pt_cmpR op_eq (pe_fld (pv 1) rfl) pe_str (nomark _)) (pw_and1 pt_dead)))))) pss_dead pss_nil)))
  (pss_cons (ps_if (PW.pt (pw_and (pt_cmpR op_eq (pe_fld (pv 1) rfl) pe_str (nomark _)) (pw_and1 pt_dead))) pss_dead pss_nil)
  (pss_cons (ps_if (PW.pt (pw_and (PW.pt (pw_or (pt_cmpR op_in_seq (pe_fld (pv 1) rfl) (pe_gref rfl (g_LIKE_DEEDS T)) (by with_unfolding_all rfl)) (pw_or1 (pt_cmpR op_in_seq (pe_fld (pv 1) rfl) (pe_tup (pa_cons pe_str (pa_cons pe_str pa_nil))) (by with_unfolding_all rfl))))) (pw_and1 pt_dead))) pss_dead pss_nil)
  (pss_cons (ps_if (PW.pt (pw_and (pt_cmpR op_in_seq (pe_fld (pv 1) rfl) (pe_tup (pa_cons pe_str (pa_cons pe_str pa_nil))) (by with_unfolding_all rfl)) (pw_and pt_dead (pw_and1 pt_dead)))) pss_dead pss_nil)
  (pss_cons (ps_if (pt_cmpR op_in_seq (pe_fld (pv 1) rfl) (pe_tup (pa_cons pe_str (pa_cons pe_str pa_nil))) (by with_unfolding_all rfl)) pss_dead pss_nil)
  (pss_one (ps_ret (pe_ix ix_list (pv 2) (pe_un un_neg pe_int) (fun _ _ => rfl))))))))), ?_⟩
  try dsimp only [cxK]
  obtain ⟨s', a, dx, ln, deed, g, r, n, p, k, wd, rfl, ha, hdd, hp, hk, kq⟩ := h
  walk_at "rd"
  refine r_forE rfl (SqL.of hp) (fun i σ' H' => (∃ a1 a2, σ' = (((L2.start ["self", "row", "some", "at", "kind"] [V.ref s', V.ref a, V.ref p]).set 3 a1).set 4 a2)) ∧ Same H H') ⟨⟨none, none, rfl⟩, Same.refl _⟩ (fun i σ' H' q => SqL.of (q.2 _ _ hp)) (fun i x Tp σ' H' hx q hT => ?_) (fun σ' H' q => ?_)
  · obtain ⟨⟨a1, a2, rfl⟩, s1⟩ := q
    obtain ⟨rfl, rfl⟩ : i = 0 ∧ x = .ref k := by
      cases i with
      | zero => exact ⟨rfl, (Option.some.inj hx).symm⟩
      | succ i => exact absurd hx (by simp)
    have s2 := Same.new (o := .tup [.int ((0 : Nat) : Int), .ref k]) hT
    have s12 := s1.trans s2
    generalize upd H' Tp (.tup [.int ((0 : Nat) : Int), .ref k]) = H2 at *
    walk_at "rds"
    refine r_ifB false (fun B kB => ?_) (fun H3 s3 => ?_)
    · have a2 := s12 _ _ ha
      walk_at "rd"
      refine r_fldO a2 (c_Row T) (na_Row_deed T) lkR_deed ?_
      walk_at "rd"
      refine r_inTp (l := ["low", "high", "rest", "over", "part"]) (tp_PLAIN_DEEDS T _) ?_
      walk_at "rd"
      rcases hdd with rfl | rfl
      · refine r_DF (by decide +kernel) ?_
        walk_at "rd"
        refine r_fldO a2 (c_Row T) (na_Row_deed T) lkR_deed ?_
        walk_at "rd"
        refine r_DF (by decide +kernel) ?_
        exact kB _ (Same.refl _)
      · refine r_DT (by decide +kernel) ?_
        walk_at "rd"
        refine r_methK (hk.on s12) rfl ?_
        walk_at "rd"
        refine ⟨k, _, rfl, hk.on s12, rfl, ?_⟩
        walk_at "rd"
        refine r_NDT rfl ?_
        walk_at "rd"
        refine r_fldO a2 (c_Row T) (na_Row_deed T) lkR_deed ?_
        walk_at "rd"
        refine r_DF (by decide +kernel) ?_
        exact kB _ (Same.refl _)
    · rw [if_neg (by decide)]
      walk_at "rd"
      exact ⟨⟨_, _, rfl⟩, s12.trans s3⟩
  · obtain ⟨⟨a1, a2, rfl⟩, s1⟩ := q
    have e1 := s1 _ _ ha
    walk_at "rds"
    refine r_ifB false (fun B kB => ?_) (fun H3 s3 => ?_)
    · walk_at "rd"
      refine r_fldO e1 (c_Row T) (na_Row_deed T) lkR_deed ?_
      walk_at "rd"
      refine r_DF (by rcases hdd with rfl | rfl <;> decide +kernel) ?_
      exact kB _ (Same.refl _)
    rw [if_neg (by decide)]
    have s13 := s1.trans s3
    have e3 := s13 _ _ ha
    walk_at "rds"
    refine r_ifB false (fun B kB => ?_) (fun H4 s4 => ?_)
    · walk_at "rd"
      refine r_fldO e3 (c_Row T) (na_Row_deed T) lkR_deed ?_
      walk_at "rd"
      refine r_inTp (l := ["add", "sub", "addstop", "substop", "less", "same"]) (tp_LIKE_DEEDS T _) ?_
      walk_at "rd"
      refine r_DF (by rcases hdd with rfl | rfl <;> decide +kernel) ?_
      walk_at "rd"
      refine r_fldO e3 (c_Row T) (na_Row_deed T) lkR_deed ?_
      walk_at "rd"
      refine r_inNew ["mul", "pick"] (by decide) fun q' H5 _ s5 => ?_
      walk_at "rd"
      refine r_DF (by rcases hdd with rfl | rfl <;> decide +kernel) ?_
      exact kB _ s5
    rw [if_neg (by decide)]
    have s14 := s13.trans s4
    have e4 := s14 _ _ ha
    walk_at "rds"
    refine r_ifB false (fun B kB => ?_) (fun H5 s5 => ?_)
    · walk_at "rd"
      refine r_fldO e4 (c_Row T) (na_Row_deed T) lkR_deed ?_
      walk_at "rd"
      refine r_inNew ["div", "times"] (by decide) fun q' H5 _ s5 => ?_
      walk_at "rd"
      refine r_DF (by rcases hdd with rfl | rfl <;> decide +kernel) ?_
      exact kB _ s5
    rw [if_neg (by decide)]
    have s15 := s14.trans s5
    have e5 := s15 _ _ ha
    walk_at "rds"
    refine r_ifB false (fun B kB => ?_) (fun H6 s6 => ?_)
    · walk_at "rd"
      refine r_fldO e5 (c_Row T) (na_Row_deed T) lkR_deed ?_
      walk_at "rd"
      refine r_inNew ["less", "same"] (by decide) fun q' H5 _ s5 => ?_
      have e : decide (deed ∈ (["less", "same"] : List Str)) = false := by rcases hdd with rfl | rfl <;> decide +kernel
      rw [e]
      walk_at "rd"
      exact kB _ s5
    rw [if_neg (by decide)]
    have s16 := s15.trans s6
    walk_at "rd"
    refine r_ixL (SqL.of (s16 _ _ hp)) (atLast (l := []) (x := V.ref k)) ?_
    exact kq.go s16
theorem met_Program_made_kind (T : Tx K mg) : ∀ C, C = He.ga K "Program" → MetX P w K mg base 7 C "made_kind" (sp_Program_made_kind K) := by
  rintro C rfl
  obtain ⟨fd, F⟩ := fn_Program_made_kind T
  exact ⟨_, fd, _, c_Program T, m_Program_made_kind T, ok_Program_made_kind T F, F.bindsN fun _ _ _ _ _ _ us hl => match us, hl with | [_, _, _], _ => rfl⟩

end
section
variable {P : Program} {w : World} {K : PySem.W.Frag} {mg : Str → Option Value} {base : Heap}
structure LookPre (K : PySem.W.Frag) (F H : Hp) (P p ch : Addr) (dx i rr o k : Addr) (wd : Int) (ws : List V) (r : Rows) (chs : List Int) (kvc kvs : List (Key × V)) (ks : List Str) : Prop where
  S : Same F H
  hP : F P = some (.ins (He.ga K "Program") dx (progFs wd i rr o k))
  hp : F p = some (.lst ws)
  hw : RowsAt K F r ws
  hl : r.lookOk chs
  hc : F ch = some (.dK kvc)
  hC : ChosenAt K F wd kvc chs
  fk : F k = none
  hk : H k = some (.dK kvs)
  hK : KindsAt K F wd kvs ks
  hb : ks.length + 3 * r.total ≤ 50000
def sp_Program_look (K : PySem.W.Frag) (d : Nat) : Sp := fun vs H Q E => ∃ P p ch dx i rr o k wd ws r chs kvc kvs ks F, vs = [.ref P, .ref p, .ref ch] ∧ LookPre K F H P p ch dx i rr o k wd ws r chs kvc kvs ks ∧ r.depth < d ∧
  match lookM r ks with
  | .un ln nm => Rz2 K E F "Unknown" "line" "name" (.int ln) (.str nm)
  | .ok ks' => ∀ F' H' kvs', Same F F' → Same F' H' → F' k = none → H' k = some (.dK kvs') → KindsAt K F' wd kvs' ks' → Q .non H'
abbrev N_Program_look : List Str := ["self", "rows", "chosen", "row", "name", "kind"]
theorem sc_Program_look : FnScope ["self", "rows", "chosen", "row", "name", "kind"] ["self", "rows", "chosen"] (defScope s_Program_look) := ⟨rfl, rfl, rfl, by decide +kernel, rfl, by decide +kernel, by decide +kernel⟩
theorem ok_Program_look {f : Addr} {fd : FuncData} (T : Tx K mg) {d : Nat} (ih : ∀ C, C = He.ga K "Program" → MetX P w K mg base (d + 20) C "look" (sp_Program_look K d)) (F : FunP K "look" "Program.look" s_Program_look f fd) : FnOk P w K mg base (L2.CX P w) (d + 21) f fd ["self", "rows", "chosen"] (sp_Program_look K (d + 1)) := by
  refine F.ok sc_Program_look (fun vs H Q E h => ?_) (fun cdv A outer s H vs Q E hr h => ?_)
  · repeat first | (obtain ⟨e, _⟩ := h; subst e; rfl; done) | (obtain ⟨_, h⟩ := h)
  refine ⟨_, (pss_one (ps_for oU rfl (pi_list (pv 1)) (pg_name (i := 3) sc_Program_look.nd rfl (Or.inl rfl))
  (pss_one (ps_if (pt_val (pe_callB call_isi (by rfl) (fr_isinstance T) (by decide +kernel) (pa_cons (pv 3) (pa_cons (pe_gref rfl (g_Repeat T)) pa_nil)))) (pss_one (ps_expr (pe_mX ih hr (Nat.le_refl _) pU (pv 0) (pa_cons (pe_fld (pv 3) rfl) (pa_cons (pv 2) pa_nil))))) (pss_cons (ps_for oU rfl (pi_list (pe_fld (pv 3) rfl)) (pg_name (i := 4) sc_Program_look.nd rfl (Or.inl rfl))
  (pss_one (ps_if (pt_cmp (pc_dnotin (hu_of hr) (pv 4) (pe_fld (pv 0) rfl))) (pss_one (ps_rX rfl tU (exc_Unknown T) hr (by omega) rfl (pa_cons (pe_fld (pv 3) rfl) (pa_cons (pv 4) pa_nil)))) pss_nil)))
  (pss_cons (ps_set (i := 5) sc_Program_look.nd rfl (Or.inl rfl) (pe_dget1 (hu_of hr) (pv 2) (pe_fld (pv 3) rfl) ⟨by rfl, by rfl, by rfl, by rfl⟩))
  (C8.pss_cut (ps_if (pt_cmp (pc_isN (pv 5))) (pss_one (ps_set (i := 5) sc_Program_look.nd rfl (Or.inl rfl) (pe_mX (met_Program_made_kind T) hr (by omega) pU (pv 0) (pa_cons (pv 3) (pa_cons (pe_lc (own := [("name", 4)]) (te := tDGet (tFld K (tVar 0) "kinds") (tVar 4)) (g := gName 4) (tt := tYes) rfl sc_Program_look.nd (pi_list (pe_fld (pv 3) rfl)) (blkOk_by (N := N_Program_look) (sc := defScope s_Program_look) (by decide +kernel)) (fun _ _ _ _ _ => (pg_name (i := 4) sc_Program_look.nd rfl (Or.inl rfl))) (fun _ _ _ _ _ => pts_nil) (fun _ _ _ _ _ => (pe_dget (hu_of hr) (pe_fld (pv 0) rfl) (pv 4) (fun _ _ => rfl)))) pa_nil))))) pss_nil)
  (pss_one (ps_for oU rfl (pi_list (pe_fld (pv 3) rfl)) (pg_name (i := 4) sc_Program_look.nd rfl (Or.inl rfl))
  (pss_cons (ps_if (PW.pt (pw_and (pt_cmp (pc_din (hu_of hr) (pv 4) (pe_fld (pv 0) rfl))) (pw_and1 (pt_not (pt_val (pe_cX (cal_same_kind T) hr (by omega) rfl pU (pa_cons (pe_dget (hu_of hr) (pe_fld (pv 0) rfl) (pv 4) (fun _ _ => rfl)) (pa_cons (pv 5) pa_nil)))))))) pss_dead pss_nil)
  (pss_one (ps_expr (pe_dsetd (pe_fld (pv 0) rfl) (pv 4) (pv 5) ⟨by rfl, by rfl, by rfl, by rfl⟩))))))))))))), ?_⟩
  try dsimp only [cxK]
  obtain ⟨P0, p, ch, dx, i0, rr, o, k, wd, ws, r, chs, kvc, kvs, ks, F0, rfl, L, hd, kq⟩ := h
  refine r_forLv rfl (SqL.of (L.S _ _ L.hp)) ⟨fun i σ' H' => (∃ a1 a2 a3, σ' = (((L2.start ["self", "rows", "chosen", "row", "name", "kind"] [V.ref P0, V.ref p, V.ref ch]).set 3 a1).set 4 a2).set 5 a3) ∧
    ∃ F' kvs' ks', lookM r ks = lookM (r.dropN i) ks' ∧ Same F0 F' ∧ Same F' H' ∧ F' k = none ∧ H' k = some (.dK kvs') ∧ KindsAt K F' wd kvs' ks' ∧ ks'.length + 3 * (r.dropN i).total ≤ 50000,
    ⟨⟨none, none, none, rfl⟩, F0, kvs, ks, rfl, Same.refl _, L.S, L.fk, L.hk, L.hK, L.hb⟩, fun i σ' H' q => ?_, fun i x σ' H' hx q => ?_, fun σ' H' q => ?_⟩
  · obtain ⟨-, F', kvs', ks', -, q2, q3, -⟩ := q
    exact SqL.of (q3 _ _ (q2 _ _ L.hp))
  · obtain ⟨⟨a1, a2, a3, rfl⟩, F', kvs', ks', q1, q2, q3, q4, q5, q6, q7⟩ := q
    rcases L.hw.item hx with ⟨ln, deed, gs, rs, ns, a, dx', g, rd, n, rfl, er, ea, eg, erd, en⟩ | ⟨ln, tm, body, a, dx', b, bs, rfl, er, ea, eb, hb⟩
    · have hll := Rows.dropN_look L.hl i
      rw [er] at hll q1 q7
      have f0 : ∀ x o, F0 x = some o → H' x = some o := fun x o e => q3 _ _ (q2 _ _ e)
      have ea' := f0 _ _ ea
      have q7' : ks'.length + 3 * ((r.dropN (i + 1)).total + 1) ≤ 50000 := q7
      have hrs : rs = [] ∨ ∃ b, rs = [b] := hll.2.1.elim (fun h => .inl h.2) (fun h => .inr h.2.2)
      walk_at "rd"
      refine (c_is T).1 ea' ?_
      walk_at "rd"
      refine r_forLf rfl ea' (c_Row T) (na_Row_reads T) lkR_reads (SqL.of (f0 _ _ erd)) ⟨fun j σ' H'' => H'' = H' ∧ (∃ z, σ' = ((((L2.start ["self", "rows", "chosen", "row", "name", "kind"] [V.ref P0, V.ref p, V.ref ch]).set 3 (some (.ref a))).set 4 z).set 5 a3)) ∧ ∀ x ∈ rs.take j, x ∈ ks',
        ⟨rfl, ⟨a2, rfl⟩, fun x hx => by cases hx⟩, fun j σ' H'' q => by rw [q.1]; exact SqL.of (f0 _ _ erd), fun j y σ' H'' hy q => ?_, fun σ' H'' q => ?_⟩
      · obtain ⟨rfl, ⟨z, rfl⟩, qa⟩ := q
        obtain ⟨b, rfl⟩ : ∃ b, rs = [b] := by
          rcases hrs with h | h
          · rw [h] at hy; exact absurd hy (by simp)
          · exact h
        obtain ⟨rfl, rfl⟩ : j = 0 ∧ y = V.str b := by
          cases j with
          | zero => exact ⟨rfl, (Option.some.inj hy).symm⟩
          | succ j => exact absurd hy (by simp)
        walk_at "rd"
        refine r_dnin ?_
        walk_at "rd"
        refine r_fldO (f0 _ _ L.hP) (c_Program T) (na_Program_kinds T) lkQ_kinds ?_
        refine r_dinS q5 ?_
        by_cases hb : b ∈ ks'
        · obtain ⟨kb, eb, Kb⟩ := (q6.2 b).1 hb
          rw [eb]
          walk_at "rd"
          refine ⟨rfl, ⟨some (.str b), rfl⟩, fun x hx => ?_⟩
          have : x = b := by simpa using hx
          rw [this]; exact hb
        · rw [(q6.2 b).2 hb]
          have e : lookM r ks = .un ln b := by rw [q1]; simp [lookM, hb]
          rw [e] at kq
          walk_at "rd"
          refine r_fldO ea' (c_Row T) (na_Row_line T) lkR_line ?_
          walk_at "rd"
          exact mk2 (kq.on f0)
      obtain ⟨rfl, ⟨z4, rfl⟩, qa⟩ := q
      have qa' : ∀ x ∈ rs, x ∈ ks' := fun x hx => qa x (by rw [List.length_map, List.take_length]; exact hx)
      have el : lookM r ks = lookM (r.dropN (i + 1)) (gs.foldl putN ks') := by
        rw [q1]
        have : rs.find? (fun n => decide (n ∉ ks')) = none := by
          rw [List.find?_eq_none]
          intro x hx
          simpa using qa' x hx
        simp only [lookM, this]
      walk_at "rd"
      refine r_dget1 ?_
      walk_at "rd"
      refine ⟨.inl ⟨kvc, .inl (f0 _ _ L.hc)⟩, ?_⟩
      walk_at "rd"
      refine r_fldO ea' (c_Row T) (na_Row_line T) lkR_line ?_
      refine ⟨_, DGet.k (k := Sum.inl ln) (f0 _ _ L.hc), ?_⟩
      walk_at "rd"
      refine ⟨fun σ' H2 => ∃ kk z, σ' = ((((L2.start ["self", "rows", "chosen", "row", "name", "kind"] [V.ref P0, V.ref p, V.ref ch]).set 3 (some (.ref a))).set 4 z).set 5 (some (.ref kk))) ∧ Same H'' H2 ∧ KindAt K F' kk ⟨.plain, wd, 0⟩, ?_, ?_⟩
      · rcases hll.2.1 with ⟨hin, -⟩ | ⟨hin, hdeed, b, rfl⟩
        · obtain ⟨kk, ek, Kk⟩ := (L.hC ln).1 hin
          rw [ek]
          walk_at "rd"
          refine r_DF (fun z => nomatch z) ?_
          walk_at "rd"
          exact ⟨kk, z4, rfl, Same.refl _, Kk.on q2⟩
        · rw [(L.hC ln).2 hin]
          walk_at "rd"
          refine r_DT rfl ?_
          walk_at "rd"
          refine r_methO (f0 _ _ L.hP) rfl (lkQ_none (by decide +kernel)) ?_
          walk_at "rd"
          obtain ⟨kb, eb, Kb⟩ := (q6.2 b).1 (qa' b (List.mem_singleton.mpr rfl))
          refine r_lcLf rfl ea' (c_Row T) (na_Row_reads T) lkR_reads (SqL.of (f0 _ _ erd)) (fun E j H2 => H'' E = none ∧ H2 E = some (.lst (List.replicate j (.ref kb))) ∧ ∀ x o, x ≠ E → H'' x = some o → H2 x = some o) (fun q => rfl)
            (fun E hE => ⟨hE, upd_same, fun x o hx e => by rw [upd_ne hx]; exact e⟩) (fun E j H2 q => SqL.of (q.2.2 _ _ (ne_of_none (f0 _ _ erd) q.1) (f0 _ _ erd))) (fun E j y H2 hy q => ?_) (fun E H2 q => ?_)
          · obtain ⟨rfl, rfl⟩ : j = 0 ∧ y = V.str b := by
              cases j with
              | zero => exact ⟨rfl, (Option.some.inj hy).symm⟩
              | succ j => exact absurd hy (by simp)
            obtain ⟨hE, aE, fE⟩ := q
            have nn : ∀ {x : Addr} {o : HO}, H'' x = some o → x ≠ E := fun e => ne_of_none e hE
            refine r_dget ?_
            walk_at "rd"
            refine r_fldO (fE _ _ (nn (f0 _ _ L.hP)) (f0 _ _ L.hP)) (c_Program T) (na_Program_kinds T) lkQ_kinds ?_
            walk_at "rd"
            refine r_dgetS (fE _ _ (nn q5) q5) eb ?_
            refine ⟨[], aE, by show 0 < sizeLine; decide, hE, upd_same, fun x o hx e => by rw [upd_ne hx]; exact fE x o hx e⟩
          · obtain ⟨hE, aE, fE⟩ := q
            have sE : Same H'' H2 := fun x o e => fE x o (ne_of_none e hE) e
            walk_at "rd"
            refine ⟨P0, a, dx', ln, deed, g, rd, n, E, kb, wd, rfl, sE _ _ ea', hdeed, aE, (Kb.on q3).on sE, fun H3 s3 => ?_⟩
            walk_at "rd"
            exact ⟨kb, z4, rfl, sE.trans s3, Kb⟩
      rintro σ' H2 ⟨kk, z, rfl, s2, Kk⟩
      have f2 : ∀ x o, F' x = some o → H2 x = some o := fun x o e => s2 _ _ (q3 _ _ e)
      have ea2 := s2 _ _ ea'
      refine r_forLf rfl ea2 (c_Row T) (na_Row_goals T) lkR_goals (SqL.of (f2 _ _ (q2 _ _ eg))) ⟨fun j σ' H3 => (∃ z, σ' = ((((L2.start ["self", "rows", "chosen", "row", "name", "kind"] [V.ref P0, V.ref p, V.ref ch]).set 3 (some (.ref a))).set 4 z).set 5 (some (.ref kk)))) ∧
        Same F' H3 ∧ ∃ kv3, H3 k = some (.dK kv3) ∧ KindsAt K F' wd kv3 ((gs.take j).foldl putN ks'), ⟨⟨z, rfl⟩, f2, kvs', s2 _ _ q5, q6⟩, fun j σ' H3 q => SqL.of (q.2.1 _ _ (q2 _ _ eg)), fun j y σ' H3 hy q => ?_, fun σ' H3 q => ?_⟩
      · obtain ⟨⟨z, rfl⟩, f3, kv3, e3, K3⟩ := q
        obtain ⟨b, hb, rfl⟩ : ∃ b, gs[j]? = some b ∧ y = V.str b := by
          rw [List.getElem?_map] at hy
          cases e : gs[j]? with
          | none => rw [e] at hy; cases hy
          | some y => rw [e] at hy; exact ⟨y, rfl, (Option.some.inj hy).symm⟩
        have hP3 := f3 _ _ (q2 _ _ L.hP)
        have kl : kv3.length ≤ 90000 := by
          have h1 := K3.1
          have h2 := fold_len ks' (gs.take j)
          have h3 : (gs.take j).length ≤ gs.length := by rw [List.length_take]; exact Nat.min_le_right _ _
          have h4 := hll.1
          omega
        by_cases hbk : b ∈ (gs.take j).foldl putN ks'
        · obtain ⟨kb, eb, Kb⟩ := (K3.2 b).1 hbk
          walk_at "rd"
          refine r_din ?_
          walk_at "rd"
          refine r_fldO hP3 (c_Program T) (na_Program_kinds T) lkQ_kinds ?_
          refine r_dinS e3 ?_
          rw [eb]
          walk_at "rd"
          refine r_dget ?_
          walk_at "rd"
          refine r_fldO hP3 (c_Program T) (na_Program_kinds T) lkQ_kinds ?_
          walk_at "rd"
          refine r_dgetS e3 eb ?_
          walk_at "rd"
          refine ⟨kb, kk, _, rfl, Kb.on f3, Kk.on f3, ?_⟩
          walk_at "rd"
          refine r_dsetd ?_
          walk_at "rd"
          refine r_fldO hP3 (c_Program T) (na_Program_kinds T) lkQ_kinds ?_
          refine ⟨k, rfl, .inl ⟨kv3, .inl e3⟩, ?_⟩
          walk_at "rd"
          refine ⟨kv3, Sum.inr b, e3, rfl, line_lt (by omega), fun v _ => ?_, fun hn => by rw [eb] at hn; cases hn⟩
          exact ⟨⟨some (.str b), rfl⟩, f3, kv3, e3, by rw [take_fold hb, putN_in hbk]; exact K3⟩
        · have eb := (K3.2 b).2 hbk
          walk_at "rd"
          refine r_din ?_
          walk_at "rd"
          refine r_fldO hP3 (c_Program T) (na_Program_kinds T) lkQ_kinds ?_
          refine r_dinS e3 ?_
          rw [eb]
          walk_at "rd"
          refine r_dsetd ?_
          walk_at "rd"
          refine r_fldO hP3 (c_Program T) (na_Program_kinds T) lkQ_kinds ?_
          refine ⟨k, rfl, .inl ⟨kv3, .inl e3⟩, ?_⟩
          walk_at "rd"
          refine ⟨kv3, Sum.inr b, e3, rfl, line_lt (by omega), fun v hv => (by rw [eb] at hv; cases hv), fun _ => ?_⟩
          exact ⟨⟨some (.str b), rfl⟩, same_updN f3 q4, _, upd_same, by rw [take_fold hb]; exact K3.put hbk Kk⟩
      · obtain ⟨⟨z, rfl⟩, f3, kv3, e3, K3⟩ := q
        have et : gs.take (gs.map V.str).length = gs := by rw [List.length_map]; exact List.take_length
        rw [et] at K3
        have h2 := fold_len ks' gs
        have h4 := hll.1
        exact ⟨⟨some (.ref a), _, _, rfl⟩, F', kv3, _, el, q2, f3, q4, e3, K3, by omega⟩
    · have hll := Rows.dropN_look L.hl i
      have hdd := Rows.dropN_depth (r := r) i
      rw [er] at hll hdd q1 q7
      have hdep : body.depth < d := by have h1 : body.depth + 1 ≤ r.depth := Nat.le_trans (Nat.le_max_left _ _) hdd; omega
      have ea' := q3 _ _ (q2 _ _ ea)
      walk_at "rd"
      refine (c_is T).2 ea' ?_
      walk_at "rd"
      refine r_methO (q3 _ _ (q2 _ _ L.hP)) rfl (lkQ_none (by decide +kernel)) ?_
      walk_at "rd"
      refine r_fldO ea' (c_Repeat T) (na_Repeat_rows T) lkP_rows ?_
      walk_at "rd"
      have q7' : ks'.length + 3 * (body.total + (r.dropN (i + 1)).total) ≤ 50000 := q7
      refine ⟨P0, b, ch, dx, i0, rr, o, k, wd, bs, body, chs, kvc, kvs', ks', F', rfl, ⟨q3, q2 _ _ L.hP, q2 _ _ eb, hb.on q2, hll.1, q2 _ _ L.hc, L.hC.on q2, q4, q5, q6, by omega⟩, hdep, ?_⟩
      cases hbm : lookM body ks' with
      | un l2 nm =>
        have e : lookM r ks = .un l2 nm := by rw [q1]; simp only [lookM, hbm]
        rw [e] at kq
        exact kq.on q2
      | ok k2 =>
        intro F2 H2 kvs2 z1 z2 z3 z4 z5
        have e : lookM r ks = lookM (r.dropN (i + 1)) k2 := by rw [q1]; simp only [lookM, hbm]
        have hle := lookM_len chs hll.1 hbm
        walk_at "rd"
        exact ⟨⟨some (.ref a), _, _, rfl⟩, F2, kvs2, k2, e, fun x o e => z1 _ _ (q2 _ _ e), z2, z3, z4, z5, by omega⟩
  · obtain ⟨⟨a1, a2, a3, rfl⟩, F', kvs', ks', q1, q2, q3, q4, q5, q6, q7⟩ := q
    rw [L.hw.done] at q1
    rw [q1] at kq
    exact kq F' H' kvs' q2 q3 q4 q5 q6
theorem met_Program_look' (T : Tx K mg) : ∀ d, ∀ C, C = He.ga K "Program" → MetX P w K mg base (d + 20) C "look" (sp_Program_look K d)
  | 0 => by
    rintro C rfl
    obtain ⟨fd, F⟩ := fn_Program_look T
    refine ⟨_, fd, ["self", "rows", "chosen"], c_Program T, m_Program_look T, F.ok (k := 19) sc_Program_look (fun vs H Q E h => ?_) (fun cdv A outer s H vs Q E hr h => ?_), F.bindsN fun _ _ _ _ _ _ us hl => match us, hl with | [_, _, _], _ => rfl⟩
    · obtain ⟨P, p, ch, dx, i, rr, o, k, wd, ws, r, chs, kvc, kvs, ks, F, rfl, h1, h2, h3⟩ := h; exact absurd h2 (Nat.not_lt_zero _)
    · obtain ⟨P, p, ch, dx, i, rr, o, k, wd, ws, r, chs, kvc, kvs, ks, F, rfl, h1, h2, h3⟩ := h; exact absurd h2 (Nat.not_lt_zero _)
  | d + 1 => by
    rintro C rfl
    obtain ⟨fd, F⟩ := fn_Program_look T
    exact ⟨_, fd, _, c_Program T, m_Program_look T, ok_Program_look T (met_Program_look' T d) F, F.bindsN fun _ _ _ _ _ _ us hl => match us, hl with | [_, _, _], _ => rfl⟩
theorem met_Program_look (T : Tx K mg) : ∀ C, C = He.ga K "Program" → MetX P w K mg base 40 C "look" (sp_Program_look K 20) := met_Program_look' T 20
end
section
variable {P : Program} {w : World} {K : PySem.W.Frag} {mg : Str → Option Value} {base : Heap}
/-- what the model must fulfil for the second walk -/
structure DM.Fin (M : DM) (ks : List Str → Prop) : Prop where
  insN : (M.ins.map Prod.snd).Nodup
  insL : M.ins.length ≤ 1000
  outL : M.outs.length ≤ 1000
  dep : M.rows.depth < 9
  sm : M.rows.small
  cnt : M.rows.count ≤ 100000000
  look : M.rows.lookOk M.chosen
  tot : M.ins.length + 3 * M.rows.total ≤ 50000
  outN : (M.outs.map Prod.snd).Nodup
  outI : ∀ k, lookM M.rows (M.ins.map Prod.snd) = .ok k → ∀ n ∈ M.outs.map Prod.snd, n ∈ k
def sp_read_program (K : PySem.W.Frag) : Sp := fun vs H Q E => ∃ text ls, vs = [.str text] ∧ TextOk text ls ∧ SoundAll 0 DM0 ls ∧
  match readM 0 DM0 ls with
  | .form ln => Rz1 K E H "NoProgram" "line" (.int ln)
  | .much ln => Rz1 K E H "TooMuch" "line" (.int ln)
  | .ok M => M.Fin (fun _ => True) ∧ match lookM M.rows (M.ins.map Prod.snd) with
    | .un ln nm => Rz2 K E H "Unknown" "line" "name" (.int ln) (.str nm)
    | .ok _ => if M.rows.count > 600 then Rz1 K E H "TooMuch" "line" (.int (-1)) else
      ∀ a dx wd i rr o k ws H', Same H H' → H' a = some (.ins (He.ga K "Program") dx (progFs wd i rr o k)) → H' rr = some (.lst ws) → RowsAt K H' M.rows ws → Q (.ref a) H'
abbrev N_read_program : List Str := ["text", "draft", "program", "line", "name", "kind"]
theorem sc_read_program : FnScope ["text", "draft", "program", "line", "name", "kind"] ["text"] (defScope s_read_program) := ⟨rfl, rfl, rfl, by decide +kernel, rfl, by decide +kernel, by decide +kernel⟩
theorem ok_read_program {f : Addr} {fd : FuncData} (T : Tx K mg)  (F : FunP K "read_program" "read_program" s_read_program f fd) : FnOk P w K mg base (L2.CX P w) 41 f fd ["text"] (sp_read_program K) := by
  refine F.ok sc_read_program (fun vs H Q E h => ?_) (fun cdv A outer s H vs Q E hr h => ?_)
  · repeat first | (obtain ⟨e, _⟩ := h; subst e; rfl; done) | (obtain ⟨_, h⟩ := h)
  refine ⟨_, (pss_cons (ps_set (i := 1) sc_read_program.nd rfl (Or.inl rfl) (pe_cX (cal_read_lines T) hr (by decide) rfl pU (pa_cons (pv 0) pa_nil)))
  (pss_cons (ps_set (i := 2) sc_read_program.nd rfl (Or.inl rfl) (pe_kX (mak_Program T) hr (by decide) rfl pU (pa_cons (pe_fld (pv 1) rfl) (pa_cons (pe_fld (pv 1) rfl) pa_nil))))
  (pss_cons (ps_for oU rfl (pi_list (pe_fld (pv 1) rfl)) (pg_tup rfl (pgs_cons (pg_name (i := 3) sc_read_program.nd rfl (Or.inl rfl)) (pgs_cons (pg_name (i := 4) sc_read_program.nd rfl (Or.inl rfl)) (pgs_cons (pg_name (i := 5) sc_read_program.nd rfl (Or.inl rfl)) pgs_nil))))
  (pss_cons (ps_if (pt_cmp (pc_din (hu_of hr) (pv 4) (pe_fld (pv 2) rfl))) pss_dead pss_nil)
  (pss_cons (ps_dput (hu_of hr) (pe_fld (pv 2) rfl) (pv 4) (pv 5) rfl)
  (pss_one (ps_expr (pe_bm PySem.F.plainAttrs_list PySem.F.slot_list_append PySem.F.type_list_append mt_append (pe_fld (pv 2) rfl) (pa_cons (pe_tup (pa_cons (pv 4) (pa_cons (pv 5) pa_nil))) pa_nil)))))))
  (pss_cons (ps_expr (pe_mX (met_Program_look T) hr (by decide) pU (pv 2) (pa_cons (pe_fld (pv 1) rfl) (pa_cons (pe_fld (pv 1) rfl) pa_nil))))
  (pss_cons (ps_for oU rfl (pi_list (pe_fld (pv 1) rfl)) (pg_tup rfl (pgs_cons (pg_name (i := 3) sc_read_program.nd rfl (Or.inl rfl)) (pgs_cons (pg_name (i := 4) sc_read_program.nd rfl (Or.inl rfl)) pgs_nil)))
  (pss_cons (ps_if (pt_cmp (pc_dnotin (hu_of hr) (pv 4) (pe_fld (pv 2) rfl))) pss_dead pss_nil)
  (pss_cons (ps_if (pt_cmpR op_in_seq (pv 4) (pe_fld (pv 2) rfl) (by with_unfolding_all rfl)) pss_dead pss_nil)
  (pss_one (ps_expr (pe_bm PySem.F.plainAttrs_list PySem.F.slot_list_append PySem.F.type_list_append mt_append (pe_fld (pv 2) rfl) (pa_cons (pv 4) pa_nil)))))))
  (pss_cons (ps_if (pt_cmpR op_gt (pe_mX0 (met_Program_rows_run T) hr (by decide) pU (pv 2)) (pe_gint rfl (i_MOST_RUN T)) (nomark _)) (pss_one (ps_rX rfl tU (exc_TooMuch T) hr (by decide) rfl (pa_cons (pe_un un_neg pe_int) pa_nil))) pss_nil)
  (pss_one (ps_ret (pv 2))))))))), ?_⟩
  try dsimp only [cxK]
  obtain ⟨text, ls, rfl, TO, SA, kq⟩ := h
  walk_at "rd"
  refine ⟨text, ls, rfl, TO, SA, ?_⟩
  cases hr0 : readM 0 DM0 ls with
  | form ln => rw [hr0] at kq; exact kq
  | much ln => rw [hr0] at kq; exact kq
  | ok M =>
    rw [hr0] at kq
    obtain ⟨Fn, kq⟩ := kq
    intro d F A H1 sF S1 D
    have s01 : Same H H1 := fun x o e => S1 _ _ (sF _ _ e)
    obtain ⟨vi, i1, i2⟩ := D.i; obtain ⟨vr, r1, r2⟩ := D.r; obtain ⟨vo, o1, o2⟩ := D.u; obtain ⟨kvc, c1, c2, c3⟩ := D.c
    have i2 := i2.on S1
    have r2 := r2.on S1
    have o2 := o2.on S1
    have c3 := c3.on S1
    have dO := D.o
    walk_at "rd"
    refine r_fldO dO (c_Draft T) (na_Draft_width T) lkD_width ?_
    walk_at "rd"
    refine r_fldO dO (c_Draft T) (na_Draft_rows T) lkD_rows ?_
    walk_at "rd"
    intro a dx ha hdx hne
    refine ⟨a, dx, M.wd, A.r, rfl, upd_same, fun i o k H2 hi ho hk io ik ok i3 o3 k3 a3 f3 => ⟨rfl, ?_⟩⟩
    have fresh : ∀ x, x ≠ a → upd (upd H1 dx (.own a)) a (.ins (He.ga K "Program") dx []) x = none → H1 x = none := fun x x1 e => by
      rw [upd_ne x1] at e
      by_cases x2 : x = dx
      · rw [x2]; exact hdx
      · rwa [upd_ne x2] at e
    have ia : i ≠ a := fun z => by rw [z, upd_same] at hi; cases hi
    have oa : o ≠ a := fun z => by rw [z, upd_same] at ho; cases ho
    have ka : k ≠ a := fun z => by rw [z, upd_same] at hk; cases hk
    have hi1 := fresh i ia hi
    have ho1 := fresh o oa ho
    have hk1 := fresh k ka hk
    have s12 : Same H1 H2 := fun x u e => by
      rw [f3 x (ne_of_none e ha) (ne_of_none e hi1) (ne_of_none e ho1) (ne_of_none e hk1), upd_ne (ne_of_none e ha), upd_ne (ne_of_none e hdx)]; exact e
    clear f3 fresh
    walk_at "rd"
    refine r_forGf rfl (s12 _ _ dO) (c_Draft T) (na_Draft_inputs T) lkD_inputs (SqL.of (s12 _ _ i1)) (fun j σ' H' => (∃ z1 z2 z3, σ' = ((((((L2.start ["text", "draft", "program", "line", "name", "kind"] [V.str text]).set 1 (some (.ref d))).set 2 (some (.ref a))).set 3 z1).set 4 z2).set 5 z3)) ∧
      Same H1 H' ∧ H' a = some (.ins (He.ga K "Program") dx (progFs M.wd i A.r o k)) ∧ H' o = some (.lst []) ∧ (∃ us, H' i = some (.lst us) ∧ us.length = j) ∧ ∃ kvs, H' k = some (.dK kvs) ∧ KindsAt K H1 M.wd kvs ((M.ins.take j).map Prod.snd))
      ⟨⟨none, none, none, rfl⟩, s12, a3, o3, ⟨[], i3, rfl⟩, [], k3, by show (0 : Nat) ≤ 0; exact Nat.le_refl _, fun n => ⟨fun z => (by cases z), fun _ => rfl⟩⟩ (fun j σ' H' q => SqL.of (q.2.1 _ _ i1)) (fun j x σ' H' hx q => ?_) (fun σ' H' q => ?_)
    · obtain ⟨⟨z1, z2, z3, rfl⟩, s1, a4, o4, ⟨us, u1, u2⟩, kvs, k4, K4⟩ := q
      obtain ⟨ln, nm, t, kk, el, rfl, et, Kk⟩ := i2.item hx
      have hj : j < M.ins.length := (List.getElem?_eq_some_iff.mp el).1
      have nin := nodup_take Fn.insN el
      refine r_gT3 (SqT.of (s1 _ _ et)) ?_
      walk_at "rd"
      refine r_din ?_
      walk_at "rd"
      refine r_fldO a4 (c_Program T) (na_Program_kinds T) lkQ_kinds ?_
      refine r_dinS k4 ?_
      rw [(K4.2 nm).2 nin]
      walk_at "rd"
      refine r_fldO a4 (c_Program T) (na_Program_kinds T) lkQ_kinds ?_
      walk_at "rd"
      have kl : kvs.length ≤ 1000 := by
        have h1 := K4.1
        have h2 : ((M.ins.take j).map Prod.snd).length ≤ j := by rw [List.length_map, List.length_take]; exact Nat.min_le_left _ _
        have := Fn.insL
        omega
      refine r_dputS k4 (by omega) ?_
      have K5 := K4.put nin Kk
      have ak : a ≠ k := fun w => ka w.symm
      have a5 : upd H' k (.dK (putK kvs (Sum.inr nm) (.ref kk))) a = some (.ins (He.ga K "Program") dx (progFs M.wd i A.r o k)) := by rw [upd_ne ak]; exact a4
      have o5 : upd H' k (.dK (putK kvs (Sum.inr nm) (.ref kk))) o = some (.lst []) := by rw [upd_ne ok]; exact o4
      have u5 : upd H' k (.dK (putK kvs (Sum.inr nm) (.ref kk))) i = some (.lst us) := by rw [upd_ne ik]; exact u1
      have k5 : upd H' k (.dK (putK kvs (Sum.inr nm) (.ref kk))) k = some (.dK (putK kvs (Sum.inr nm) (.ref kk))) := upd_same
      have s5 : Same H1 (upd H' k (.dK (putK kvs (Sum.inr nm) (.ref kk)))) := same_updN s1 hk1
      generalize upd H' k (.dK (putK kvs (Sum.inr nm) (.ref kk))) = H5 at *
      walk_at "rd"
      refine r_fldO a5 (c_Program T) (na_Program_inputs T) lkQ_inputs ?_
      refine r_tyL (SqL.of u5) ?_
      walk_at "rd"
      refine r_newL fun tq htq => ?_
      have s6 := Same.new (o := .tup [.str nm, .ref kk]) htq
      generalize upd H5 tq (.tup [.str nm, .ref kk]) = H6 at *
      walk_at "rd"
      refine r_app (s6 _ _ u5) (by have := Fn.insL; omega) ?_
      have ki : k ≠ i := fun w => ik w.symm
      have oi : o ≠ i := fun w => io w.symm
      have ai : a ≠ i := fun w => ia w.symm
      refine ⟨⟨_, _, _, rfl⟩, same_updN (fun x o e => s6 _ _ (s5 _ _ e)) hi1, by rw [upd_ne ai]; exact s6 _ _ a5, by rw [upd_ne oi]; exact s6 _ _ o5, ⟨_, upd_same, by rw [List.length_append, u2]; rfl⟩, _, by rw [upd_ne ki]; exact s6 _ _ k5, ?_⟩
      rw [take_snd el]
      have e2 : putN ((M.ins.take j).map Prod.snd) nm = (M.ins.take j).map Prod.snd ++ [nm] := by unfold putN; rw [if_neg nin]
      rw [← e2]; exact K5
    · obtain ⟨⟨z1, z2, z3, rfl⟩, s1, a4, o4, -, kvs, k4, K4⟩ := q
      have et : M.ins.take vi.length = M.ins := by rw [i2.len]; exact List.take_length
      rw [et] at K4
      -- the second walk: all but the kinds is frozen
      have q1 : Same H1 (del H' k) := fun x u e => by
        rw [del_ne (ne_of_none e hk1)]; exact s1 _ _ e
      have q2 : Same (del H' k) H' := fun x u e => by
        by_cases z : x = k
        · subst z; rw [del_same] at e; cases e
        · rwa [del_ne z] at e
      have ak : a ≠ k := fun w => ka w.symm
      have a5 : del H' k a = some (.ins (He.ga K "Program") dx (progFs M.wd i A.r o k)) := by rw [del_ne ak]; exact a4
      have o5 : del H' k o = some (.lst []) := by rw [del_ne ok]; exact o4
      walk_at "rd"
      refine r_methO a4 rfl (lkQ_none (by decide +kernel)) ?_
      walk_at "rd"
      refine r_fldO (s1 _ _ dO) (c_Draft T) (na_Draft_rows T) lkD_rows ?_
      walk_at "rd"
      refine r_fldO (s1 _ _ dO) (c_Draft T) (na_Draft_chosen T) lkD_chosen ?_
      walk_at "rd"
      refine ⟨a, A.r, A.c, dx, i, A.r, o, k, M.wd, vr, M.rows, M.chosen, kvc, kvs, M.ins.map Prod.snd, del H' k, rfl, ⟨q2, a5, q1 _ _ r1, r2.on q1, Fn.look, q1 _ _ c1, c3.on q1, del_same, k4, K4.on q1, by rw [List.length_map]; exact Fn.tot⟩, by have := Fn.dep; omega, ?_⟩
      have sH : Same H (del H' k) := fun x u e => q1 _ _ (s01 _ _ e)
      cases hlk : lookM M.rows (M.ins.map Prod.snd) with
      | un ln nm => rw [hlk] at kq; exact kq.on sH
      | ok ks =>
        rw [hlk] at kq
        intro F4 H4 kvs4 y1 y2 y3 y4 y5
        have b1 : ∀ x u, del H' k x = some u → H4 x = some u := fun x u e => y2 _ _ (y1 _ _ e)
        have s4 : Same H1 H4 := fun x u e => b1 _ _ (q1 _ _ e)
        have a6 := b1 _ _ a5
        have o6 := b1 _ _ o5
        clear y1 y2 y3
        walk_at "rd"
        refine r_forGf rfl (s4 _ _ dO) (c_Draft T) (na_Draft_outs T) lkD_outs (SqL.of (s4 _ _ o1)) (fun j σ' H' => (∃ z1 z2 z3, σ' = ((((((L2.start ["text", "draft", "program", "line", "name", "kind"] [V.str text]).set 1 (some (.ref d))).set 2 (some (.ref a))).set 3 z1).set 4 z2).set 5 z3)) ∧
          Same H1 H' ∧ H' a = some (.ins (He.ga K "Program") dx (progFs M.wd i A.r o k)) ∧ H' o = some (.lst (((M.outs.take j).map Prod.snd).map V.str)) ∧ H' k = some (.dK kvs4))
          ⟨⟨_, _, _, rfl⟩, s4, a6, o6, y4⟩ (fun j σ' H' q => SqL.of (q.2.1 _ _ o1)) (fun j x σ' H' hx q => ?_) (fun σ' H' q => ?_)
        · obtain ⟨⟨z1, z2, z3, rfl⟩, s1, a7, o7, k7⟩ := q
          obtain ⟨ln, nm, t, el, rfl, et⟩ := o2.item hx
          have hj : j < M.outs.length := (List.getElem?_eq_some_iff.mp el).1
          have nin := nodup_take Fn.outN el
          have hin : nm ∈ ks := Fn.outI ks hlk nm (List.mem_map.mpr ⟨(ln, nm), List.mem_of_getElem? el, rfl⟩)
          obtain ⟨kk, ek, -⟩ := (y5.2 nm).1 hin
          refine r_gT2 (SqT.of (s1 _ _ et)) ?_
          walk_at "rd"
          refine r_dnin ?_
          walk_at "rd"
          refine r_fldO a7 (c_Program T) (na_Program_kinds T) lkQ_kinds ?_
          refine r_dinS k7 ?_
          rw [ek]
          walk_at "rd"
          refine r_fldO a7 (c_Program T) (na_Program_outs T) lkQ_outs ?_
          walk_at "rd"
          refine r_inLs (SqL.of o7) ?_
          walk_at "rd"
          refine r_DF nin ?_
          walk_at "rd"
          refine r_fldO a7 (c_Program T) (na_Program_outs T) lkQ_outs ?_
          refine r_tyL (SqL.of o7) ?_
          walk_at "rd"
          refine r_app o7 (by rw [List.length_map, List.length_map, List.length_take]; have := Fn.outL; have := Nat.min_le_right j M.outs.length; omega) ?_
          have ao : a ≠ o := fun w => oa w.symm
          have ko : k ≠ o := fun w => ok w.symm
          refine ⟨⟨_, _, _, rfl⟩, same_updN s1 ho1, by rw [upd_ne ao]; exact a7, ?_, by rw [upd_ne ko]; exact k7⟩
          rw [upd_same, take_snd el, List.map_append]
          rfl
        · obtain ⟨⟨z1, z2, z3, rfl⟩, s1, a7, o7, k7⟩ := q
          walk_at "rd"
          refine r_methO a7 rfl (lkQ_none (by decide +kernel)) ?_
          walk_at "rd"
          refine ⟨a, dx, M.wd, i, A.r, o, k, vr, M.rows, rfl, a7, s1 _ _ r1, r2.on s1, Fn.dep, Fn.sm, Fn.cnt, ?_⟩
          walk_at "rd"
          have sH' : Same H H' := fun x u e => s1 _ _ (s01 _ _ e)
          refine r_iteD (fun hgt => ?_) (fun hgt => ?_)
          · have kq2 : Rz1 K E H "TooMuch" "line" (.int (-1)) := by
              have h2 := kq
              rw [if_pos (show M.rows.count > 600 from hgt)] at h2
              exact h2
            walk_at "rd"
            exact mk1 (kq2.on sH')
          · have kq2 := kq
            rw [if_neg (show ¬ M.rows.count > 600 from hgt)] at kq2
            walk_at "rd"
            exact kq2 a dx M.wd i A.r o k vr H' sH' a7 (s1 _ _ r1) (r2.on s1)
theorem cal_read_program (T : Tx K mg) : CalX P w K mg base 41 "read_program" (sp_read_program K) [] := by
  obtain ⟨fd, F⟩ := fn_read_program T
  exact ⟨_, fd, _, [], ok_read_program T F, g_read_program T, F.kp, F.bindsN fun _ _ _ _ _ _ us hl => match us, hl with | [_], _ => rfl, .nil⟩

end
section
variable {P : Program} {w : World} {K : PySem.W.Frag} {mg : Str → Option Value} {base : Heap}
def rJoinK (K : PySem.W.Frag) : V → List V → Hp → VK → Prop := fun x xs H Q => ∃ a p, ∃ ys : List Str, x = .str a ∧ xs = [.ref p] ∧ (SqL K H p (ys.map V.str) ∨ SqT K H p (ys.map V.str)) ∧ (ys.map (·.length)).sum + ys.length * a.length ≤ 16777216 ∧ Q (.str (Txt.join a ys)) H
theorem xfc {K : PySem.W.Frag} {C : Addr} (c : He2.ExcC K C) : XfC K C := ⟨c.get, c.gtr, c.oex.exC, c.hdc⟩
/-- what a told text answers -/
def progOut (ls : List Ln) : Option (Str × Int) :=
  match readM 0 DM0 ls with
  | .form ln => some ("form", ln)
  | .much ln => some ("much", ln)
  | .ok M => match lookM M.rows (M.ins.map Prod.snd) with
    | .un ln _ => some ("unknown", ln)
    | .ok _ => if M.rows.count > 600 then some ("much", -1) else none
def sp_L_told (K : PySem.W.Frag) : Sp := fun vs H Q E => ∃ p lines ls, vs = [.ref p] ∧ H p = some (.lst (lines.map V.str)) ∧ (lines.map (·.length)).sum + lines.length * ("\n" : Str).length ≤ 16777216 ∧ TextOk (Txt.join "\n" lines) ls ∧ SoundAll 0 DM0 ls ∧
  (∀ M, readM 0 DM0 ls = .ok M → M.Fin (fun _ => True)) ∧
  match progOut ls with
  | none => Rt H Q .non
  | some (s, n) => ∀ q H', Same H H' → H q = none → H' q = some (.tup [.str s, .int n]) → Q (.ref q) H'
abbrev N_L_told : List Str := ["_law_lines", "_law_told_here", "e"]
theorem sc_L_told : FnScope ["_law_lines", "_law_told_here", "e"] ["_law_lines"] (defScope s_L_told) := ⟨rfl, rfl, rfl, by decide +kernel, rfl, by decide +kernel, by decide +kernel⟩
theorem ok_L_told {f : Addr} {fd : FuncData} (T : Tx K mg)  (F : FunP K "_law_told" "_law_told" s_L_told f fd) : FnOk P w K mg base (L2.CX P w) 42 f fd ["_law_lines"] (sp_L_told K) := by
  refine F.ok sc_L_told (fun vs H Q E h => ?_) (fun cdv A outer s H vs Q E hr h => ?_)
  · repeat first | (obtain ⟨e, _⟩ := h; subst e; rfl; done) | (obtain ⟨_, h⟩ := h)
  refine ⟨_, (pss_cons (ps_set (i := 1) sc_L_told.nd rfl (Or.inl rfl) pe_non)
  (pss_cons (ps_try_names (tb := fun W => tDrop (tCallS (sp_read_program K) (WE W) (tCons (tBM K "str" (rJoinK K) (tC (.str "\n")) (tCons (tVar 0) tNil)) tNil))) rfl rfl tU (fun W pn xe tk po => pss_one (ps_expr (pe_cXS (cal_read_program T) hr (by decide) rfl tk (pa_cons (pe_bm PySem.F.plainAttrs_str PySem.F.slot_str_join PySem.F.type_str_join mt_join pe_str (pa_cons (pv 0) pa_nil)) pa_nil))))
    (HdsN.named (i := 2) (ts := fun a cls d => tAsg (tTup (tCons (tC (.str "form")) (tCons (tXf a cls d (He.ga K "NoProgram") "line" (tVar 2)) tNil))) (gName 1)) ⟨rfl, by decide, .inl (g_NoProgram T)⟩ sc_L_told.nd rfl rfl (fun a oe cls d pn hz hf => pss_one (ps_set (i := 1) sc_L_told.nd rfl (Or.inl rfl) (pe_tup (pa_cons pe_str (pa_cons (pe_xf (xfc (xc_NoProgram T)) (na_NoProgram_line T) hz hf (pv 2)) pa_nil)))))
    (HdsN.named (i := 2) (ts := fun a cls d => tAsg (tTup (tCons (tC (.str "much")) (tCons (tXf a cls d (He.ga K "TooMuch") "line" (tVar 2)) tNil))) (gName 1)) ⟨rfl, by decide, .inl (g_TooMuch T)⟩ sc_L_told.nd rfl rfl (fun a oe cls d pn hz hf => pss_one (ps_set (i := 1) sc_L_told.nd rfl (Or.inl rfl) (pe_tup (pa_cons pe_str (pa_cons (pe_xf (xfc (xc_TooMuch T)) (na_TooMuch_line T) hz hf (pv 2)) pa_nil)))))
    (HdsN.named (i := 2) (ts := fun a cls d => tAsg (tTup (tCons (tC (.str "unknown")) (tCons (tXf a cls d (He.ga K "Unknown") "line" (tVar 2)) tNil))) (gName 1)) ⟨rfl, by decide, .inl (g_Unknown T)⟩ sc_L_told.nd rfl rfl (fun a oe cls d pn hz hf => pss_one (ps_set (i := 1) sc_L_told.nd rfl (Or.inl rfl) (pe_tup (pa_cons pe_str (pa_cons (pe_xf (xfc (xc_Unknown T)) (na_Unknown_line T) hz hf (pv 2)) pa_nil)))))
    (HdsN.plain (ts := fun a cls d => tAsg (tTup (tCons (tC (.str "another")) (tCons (tC (.int 0)) tNil))) (gName 1)) ⟨rfl, by decide, .inl (g_WiseError T)⟩ (fun a oe cls d pn hz hf => pss_one (ps_set (i := 1) sc_L_told.nd rfl (Or.inl rfl) (pe_tup (pa_cons pe_str (pa_cons pe_int pa_nil))))) HdsN.nil)))))
  (pss_one (ps_ret (pv 1))))), ?_⟩
  try dsimp only [cxK]
  obtain ⟨p, lines, ls, rfl, hp, hz, TO, SA, FN, kq⟩ := h
  walk_at "rd"
  refine r_callS ?_
  walk_at "rd"
  refine ⟨rfl, ?_⟩
  walk_at "rd"
  refine ⟨"\n", p, lines, rfl, rfl, .inl (SqL.of hp), hz, ?_⟩
  walk_at "rd"
  refine ⟨_, ls, rfl, TO, SA, ?_⟩
  unfold progOut at kq
  cases hr0 : readM 0 DM0 ls with
  | form ln =>
    rw [hr0] at kq
    intro dd H' s1 hd e
    refine ⟨true, xm_NoProgram_NoProgram T, fun _ a ha => ?_, (fun z => nomatch z)⟩
    walk_at "rd"
    refine r_xf ?_
    walk_at "rd"
    refine ⟨rfl, rfl, dd, _, _, rfl, e, rfl, ?_⟩
    walk_at "rd"
    refine r_newL fun q hq => ?_
    walk_at "rd"
    exact kq q _ (s1.new' hq) (s1.free hq) upd_same
  | much ln =>
    rw [hr0] at kq
    intro dd H' s1 hd e
    refine ⟨false, xm_TooMuch_NoProgram T, (fun z => nomatch z), fun _ => ⟨true, xm_TooMuch_TooMuch T, fun _ a ha => ?_, (fun z => nomatch z)⟩⟩
    walk_at "rd"
    refine r_xf ?_
    walk_at "rd"
    refine ⟨rfl, rfl, dd, _, _, rfl, e, rfl, ?_⟩
    walk_at "rd"
    refine r_newL fun q hq => ?_
    walk_at "rd"
    exact kq q _ (s1.new' hq) (s1.free hq) upd_same
  | ok M =>
    rw [hr0] at kq
    refine ⟨FN M hr0, ?_⟩
    cases hl : lookM M.rows (M.ins.map Prod.snd) with
    | un ln nm =>
      simp only [hl] at kq
      intro dd H' s1 hd e
      refine ⟨false, xm_Unknown_NoProgram T, (fun z => nomatch z), fun _ => ⟨false, xm_Unknown_TooMuch T, (fun z => nomatch z), fun _ => ⟨true, xm_Unknown_Unknown T, fun _ a ha => ?_, (fun z => nomatch z)⟩⟩⟩
      walk_at "rd"
      refine r_xf ?_
      walk_at "rd"
      refine ⟨rfl, rfl, dd, _, _, rfl, e, rfl, ?_⟩
      walk_at "rd"
      refine r_newL fun q hq => ?_
      walk_at "rd"
      exact kq q _ (s1.new' hq) (s1.free hq) upd_same
    | ok ks =>
      simp only [hl] at kq
      by_cases hc : M.rows.count > 600
      · rw [if_pos hc] at kq
        show if M.rows.count > 600 then _ else _
        rw [if_pos hc]
        intro dd H' s1 hd e
        refine ⟨false, xm_TooMuch_NoProgram T, (fun z => nomatch z), fun _ => ⟨true, xm_TooMuch_TooMuch T, fun _ a ha => ?_, (fun z => nomatch z)⟩⟩
        walk_at "rd"
        refine r_xf ?_
        walk_at "rd"
        refine ⟨rfl, rfl, dd, _, _, rfl, e, rfl, ?_⟩
        walk_at "rd"
        refine r_newL fun q hq => ?_
        walk_at "rd"
        exact kq q _ (s1.new' hq) (s1.free hq) upd_same
      · rw [if_neg hc] at kq
        show if M.rows.count > 600 then _ else _
        rw [if_neg hc]
        intro a dx wd i rr o k ws H' s1 _ _ _
        walk_at "rd"
        exact kq H' s1
theorem cal_L_told (T : Tx K mg) : CalX P w K mg base 42 "_law_told" (sp_L_told K) [] := by
  obtain ⟨fd, F⟩ := fn_L_told T
  exact ⟨_, fd, _, [], ok_L_told T F, g__law_told T, F.kp, F.bindsN fun _ _ _ _ _ _ us hl => match us, hl with | [_], _ => rfl, .nil⟩

end
section
variable {P : Program} {w : World} {K : PySem.W.Frag} {mg : Str → Option Value} {base : Heap}
def sp_L_cell (K : PySem.W.Frag) : Sp := fun vs H Q _ => ∃ p, ∃ xs : List Int, ∃ k : Nat, vs = [.ref p, .int k] ∧ SqL K H p (xs.map V.int) ∧ ∀ i : Int, Q (.int i) H
abbrev N_L_cell : List Str := ["_law_script", "_law_k"]
theorem sc_L_cell : FnScope ["_law_script", "_law_k"] ["_law_script", "_law_k"] (defScope s_L_cell) := ⟨rfl, rfl, rfl, by decide +kernel, rfl, by decide +kernel, by decide +kernel⟩
theorem ok_L_cell {f : Addr} {fd : FuncData} (T : Tx K mg)  (F : FunP K "_law_cell" "_law_cell" s_L_cell f fd) : FnOk P w K mg base (L2.CX P w) 1 f fd ["_law_script", "_law_k"] (sp_L_cell K) := by
  refine F.ok sc_L_cell (fun vs H Q E h => ?_) (fun cdv A outer s H vs Q E hr h => ?_)
  · repeat first | (obtain ⟨e, _⟩ := h; subst e; rfl; done) | (obtain ⟨_, h⟩ := h)
  refine ⟨_, (pss_cons (ps_if (pt_cmpR op_lt (pv 1) (pe_callB call_len_seq (by rfl) (fr_len T) (by decide +kernel) (pa_cons (pv 0) pa_nil)) (nomark _)) (pss_one (ps_ret (pe_ix ix_list (pv 0) (pv 1) (fun _ _ => rfl)))) pss_nil)
  (pss_one (ps_ret (pe_op op_add (pe_op op_mul pe_int (pv 1)) pe_int)))), ?_⟩
  try dsimp only [cxK]
  obtain ⟨p, xs, k, rfl, hp, kq⟩ := h
  walk_at "rd"
  refine ⟨p, _, rfl, .inl hp, ?_⟩
  walk_at "rd"
  refine r_iteD (fun h1 => ?_) (fun h1 => ?_)
  · walk_at "rd"
    rw [List.length_map] at h1
    have hk : k < xs.length := by omega
    refine r_ixL hp (atNat (n := k) (x := V.int xs[k]) (by rw [List.getElem?_map, List.getElem?_eq_getElem hk]; rfl)) ?_
    exact kq _
  · walk_at "rd"
    refine r_I (.inl ⟨by decide, by decide⟩) ?_
    walk_at "rd"
    exact kq _
theorem cal_L_cell (T : Tx K mg) : CalX P w K mg base 1 "_law_cell" (sp_L_cell K) [] := by
  obtain ⟨fd, F⟩ := fn_L_cell T
  exact ⟨_, fd, _, [], ok_L_cell T F, g__law_cell T, F.kp, F.bindsN fun _ _ _ _ _ _ us hl => match us, hl with | [_, _], _ => rfl, .nil⟩

end
section
variable {P : Program} {w : World} {K : PySem.W.Frag} {mg : Str → Option Value} {base : Heap}
/-- a box: three numbers -/
def BoxAt (H : Hp) (b : Addr) : Prop := ∃ x y z : Int, H b = some (.lst [.int x, .int y, .int z])
def sp_L_box (K : PySem.W.Frag) : Sp := fun vs H Q _ => ∃ i : Int, vs = [.int i] ∧ ∀ b H', H b = none → Same H H' → BoxAt H' b → Q (.ref b) H'
abbrev N_L_box : List Str := ["_law_cell_here"]
theorem sc_L_box : FnScope ["_law_cell_here"] ["_law_cell_here"] (defScope s_L_box) := ⟨rfl, rfl, rfl, by decide +kernel, rfl, by decide +kernel, by decide +kernel⟩
theorem ok_L_box {f : Addr} {fd : FuncData} (T : Tx K mg)  (F : FunP K "_law_box" "_law_box" s_L_box f fd) : FnOk P w K mg base (L2.CX P w) 1 f fd ["_law_cell_here"] (sp_L_box K) := by
  refine F.ok sc_L_box (fun vs H Q E h => ?_) (fun cdv A outer s H vs Q E hr h => ?_)
  · repeat first | (obtain ⟨e, _⟩ := h; subst e; rfl; done) | (obtain ⟨_, h⟩ := h)
  refine ⟨_, (pss_one (ps_ret (pe_lst (pa_cons (pe_callB (call_max2 rfl) (by rfl) (fr_max T) (by decide +kernel) (pa_cons pe_int (pa_cons (pe_op op_sub (pv 0) (pe_op op_pow pe_int pe_int)) pa_nil))) (pa_cons (pe_op op_mod (pv 0) pe_int) (pa_cons pe_int pa_nil)))))), ?_⟩
  try dsimp only [cxK]
  obtain ⟨i, rfl, kq⟩ := h
  walk_at "rd"
  refine r_I ⟨by decide, by decide, by decide⟩ ?_
  walk_at "rd"
  refine ⟨_, _, rfl, ?_⟩
  walk_at "rd"
  refine r_I (by decide) ?_
  walk_at "rd"
  refine r_newL fun q hq => ?_
  exact kq q _ hq (Same.new hq) ⟨_, _, _, upd_same⟩
theorem cal_L_box (T : Tx K mg) : CalX P w K mg base 1 "_law_box" (sp_L_box K) [] := by
  obtain ⟨fd, F⟩ := fn_L_box T
  exact ⟨_, fd, _, [], ok_L_box T F, g__law_box T, F.kp, F.bindsN fun _ _ _ _ _ _ us hl => match us, hl with | [_], _ => rfl, .nil⟩

end
section
variable {P : Program} {w : World} {K : PySem.W.Frag} {mg : Str → Option Value} {base : Heap}
def sp_L_take (K : PySem.W.Frag) : Sp := fun vs H Q _ => ∃ b, ∃ many : Int, vs = [.ref b, .int many] ∧ BoxAt H b ∧ 0 < many ∧ many ≤ 1000 ∧ ∀ (r : Int) H', 0 ≤ r → r < many → BoxAt H' b → SameBut b H H' → Q (.int r) H'
abbrev N_L_take : List Str := ["_law_box_here", "_law_many", "_law_digit", "_law_number"]
theorem sc_L_take : FnScope ["_law_box_here", "_law_many", "_law_digit", "_law_number"] ["_law_box_here", "_law_many"] (defScope s_L_take) := ⟨rfl, rfl, rfl, by decide +kernel, rfl, by decide +kernel, by decide +kernel⟩
theorem ok_L_take {f : Addr} {fd : FuncData} (T : Tx K mg)  (F : FunP K "_law_take" "_law_take" s_L_take f fd) : FnOk P w K mg base (L2.CX P w) 1 f fd ["_law_box_here", "_law_many"] (sp_L_take K) := by
  refine F.ok sc_L_take (fun vs H Q E h => ?_) (fun cdv A outer s H vs Q E hr h => ?_)
  · repeat first | (obtain ⟨e, _⟩ := h; subst e; rfl; done) | (obtain ⟨_, h⟩ := h)
  refine ⟨_, (pss_cons (ps_if (pt_cmpR op_gt (pe_ix ix_list (pv 0) pe_int (fun _ _ => rfl)) pe_int (nomark _)) (pss_cons (ps_set (i := 2) sc_L_take.nd rfl (Or.inl rfl) (pe_op op_mod (pe_ix ix_list (pv 0) pe_int (fun _ _ => rfl)) (pv 1)))
  (pss_cons (ps_asg (pe_op op_fdiv (pe_ix ix_list (pv 0) pe_int (fun _ _ => rfl)) (pv 1)) (pg_sub (pv 0) pe_int set_list))
  (pss_one (ps_ret (pv 2))))) pss_nil)
  (pss_cons (ps_asg (pe_op op_add (pe_ix ix_list (pv 0) pe_int (fun _ _ => rfl)) pe_int) (pg_sub (pv 0) pe_int set_list))
  (pss_cons (ps_set (i := 3) sc_L_take.nd rfl (Or.inl rfl) (pe_op op_mod (pe_op op_mul (pe_op op_add (pe_op op_add (pe_ix ix_list (pv 0) pe_int (fun _ _ => rfl)) (pe_op op_mul pe_int (pe_ix ix_list (pv 0) pe_int (fun _ _ => rfl)))) pe_int) pe_int) pe_int))
  (pss_cons (ps_set (i := 3) sc_L_take.nd rfl (Or.inl rfl) (pe_op op_mod (pe_op op_add (pe_op op_add (pe_op op_mul (pv 3) (pv 3)) (pe_op op_mul pe_int (pe_ix ix_list (pv 0) pe_int (fun _ _ => rfl)))) pe_int) pe_int))
  (pss_one (ps_ret (pe_op op_mod (pe_op op_fdiv (pe_op op_mod (pe_op op_mul (pv 3) (pe_op op_add (pv 3) pe_int)) pe_int) pe_int) (pv 1)))))))), ?_⟩
  try dsimp only [cxK]
  obtain ⟨b, many, rfl, ⟨x, y, z, hb⟩, m0, m1, kq⟩ := h
  walk_at "rd"
  refine r_ixL (SqL.of hb) at0 ?_
  walk_at "rd"
  refine r_iteD (fun h1 => ?_) (fun h1 => ?_)
  · walk_at "rd"
    refine r_ixL (SqL.of hb) at0 ?_
    walk_at "rd"
    refine r_I m0 ?_
    walk_at "rd"
    refine r_ixL (SqL.of hb) at0 ?_
    walk_at "rd"
    refine r_I ⟨m0, by omega⟩ ?_
    refine ⟨_, rfl, ?_⟩
    refine ⟨b, _, 0, 0, rfl, rfl, hb, rfl, ?_⟩
    walk_at "rd"
    exact kq _ _ (Int.emod_nonneg _ (by omega)) (Int.emod_lt_of_pos _ m0) ⟨_, _, _, upd_same⟩ fun c o hc e => by rw [upd_ne hc]; exact e
  · walk_at "rd"
    refine r_ixL (SqL.of hb) at2 ?_
    walk_at "rd"
    refine ⟨_, rfl, ?_⟩
    refine ⟨b, _, 2, 2, rfl, rfl, hb, rfl, ?_⟩
    have hb2 : upd H b (.lst (List.set [V.int x, V.int y, V.int z] 2 (.int (z + 1)))) b = some (.lst [.int x, .int y, .int (z + 1)]) := upd_same
    have f2 : ∀ c o, c ≠ b → H c = some o → upd H b (.lst (List.set [V.int x, V.int y, V.int z] 2 (.int (z + 1)))) c = some o := fun c o hc e => by rw [upd_ne hc]; exact e
    generalize upd H b (.lst (List.set [V.int x, V.int y, V.int z] 2 (.int (z + 1)))) = H2 at *
    walk_at "rd"
    refine r_ixL (SqL.of hb2) at1 ?_
    walk_at "rd"
    refine r_ixL (SqL.of hb2) at2 ?_
    refine r_I (.inl ⟨by decide, by decide⟩) ?_
    walk_at "rd"
    refine r_I (.inr ⟨by decide, by decide⟩) ?_
    walk_at "rd"
    refine r_I (by decide) ?_
    walk_at "rd"
    have n1 := Int.emod_nonneg ((y + 7919 * (z + 1) + 17) * 48271) (show (2147483629 : Int) ≠ 0 by decide)
    have n2 := Int.emod_lt_of_pos ((y + 7919 * (z + 1) + 17) * 48271) (show (0 : Int) < 2147483629 by decide)
    generalize (y + 7919 * (z + 1) + 17) * 48271 % 2147483629 = nn at *
    refine r_I (.inl ⟨by omega, by omega⟩) ?_
    walk_at "rd"
    refine r_ixL (SqL.of hb2) at2 ?_
    refine r_I (.inl ⟨by decide, by decide⟩) ?_
    walk_at "rd"
    refine r_I (by decide) ?_
    walk_at "rd"
    have n3 := Int.emod_nonneg (nn * nn + 16807 * (z + 1) + 3) (show (2147483587 : Int) ≠ 0 by decide)
    have n4 := Int.emod_lt_of_pos (nn * nn + 16807 * (z + 1) + 3) (show (0 : Int) < 2147483587 by decide)
    generalize (nn * nn + 16807 * (z + 1) + 3) % 2147483587 = mm at *
    refine r_I (.inl ⟨by omega, by omega⟩) ?_
    walk_at "rd"
    refine r_I (by decide) ?_
    walk_at "rd"
    refine r_I ⟨by decide, by decide⟩ ?_
    walk_at "rd"
    refine r_I m0 ?_
    exact kq _ _ (Int.emod_nonneg _ (by omega)) (Int.emod_lt_of_pos _ m0) ⟨_, _, _, hb2⟩ f2
theorem cal_L_take (T : Tx K mg) : CalX P w K mg base 1 "_law_take" (sp_L_take K) [] := by
  obtain ⟨fd, F⟩ := fn_L_take T
  exact ⟨_, fd, _, [], ok_L_take T F, g__law_take T, F.kp, F.bindsN fun _ _ _ _ _ _ us hl => match us, hl with | [_, _], _ => rfl, .nil⟩

end
section
variable {P : Program} {w : World} {K : PySem.W.Frag} {mg : Str → Option Value} {base : Heap}
/-! ### the checks, as plain functions -/
def nameB (x : Str) : Bool := isName x && (decide (x.length ≤ 100) && (SeqAt.shaped (.list (([x] : List Str).map .str)) && !decide (x = "=")))
theorem nameB_ok {x : Str} (h : nameB x = true) : NameOk isName x := by
  unfold nameB at h
  simp only [Bool.and_eq_true, decide_eq_true_eq, Bool.not_eq_true', decide_eq_false_iff_not] at h
  exact ⟨h.1, h.2.1, h.2.2.1, h.2.2.2⟩
def rowB : Ln → Bool
  | .copy g b => nameB g && nameB b
  | .bad g => nameB g
  | .part g h b => nameB g && (nameB h && (nameB b && !decide (g = h)))
  | .set g n => nameB g && (decide (1 ≤ n) && decide (n ≤ 3))
  | _ => false
theorem rowB_ok {l : Ln} (h : rowB l = true) : l.rowOk isName := by
  cases l <;> simp only [rowB, Bool.and_eq_true, decide_eq_true_eq, Bool.not_eq_true', decide_eq_false_iff_not, Bool.false_eq_true] at h
  · exact ⟨nameB_ok h.1, nameB_ok h.2⟩
  · exact nameB_ok h
  · exact ⟨nameB_ok h.1, nameB_ok h.2.1, nameB_ok h.2.2.1, h.2.2.2⟩
  · exact ⟨nameB_ok h.1, h.2.1, h.2.2⟩
def sizeB (M : DM) : Bool := decide (M.known.length ≤ 1000) && (decide (M.chosen.length ≤ 1000) && (decide (M.top.len ≤ 1000) && (decide (M.ins.length ≤ 1000) && (decide (M.outs.length ≤ 1000) && decide (M.loops.length ≤ 1000)))))
def soundB (ln : Int) (M : DM) : Ln → Bool
  | .width w => decide (ln = 0) && (M.ins.isEmpty && (M.chosen.isEmpty && (decide (numberIn (num w) 4 32 = some w) && decide ((num w).length ≤ 100))))
  | .inp nm => decide (0 < ln) && (decide (M.rows = .nil) && (M.loops.isEmpty && (M.outs.isEmpty && (isName nm && (decide (nm.length ≤ 100) && (decide (4 ≤ M.wd) && (decide (M.wd ≤ 32) && (decide (M.ins.length ≤ 1000) && decide (M.known.length ≤ 1000)))))))))
  | .out nm => decide (0 < ln) && (M.loops.isEmpty && (isName nm && (decide (nm.length ≤ 100) && decide (M.outs.length ≤ 1000))))
  | .rep n => decide (0 < ln) && (M.outs.isEmpty && (decide (numberIn (num n) 1 32 = some n) && (decide ((num n).length ≤ 100) && decide (M.loops.length ≤ 1000))))
  | .fin => decide (0 < ln) && (M.outs.isEmpty && (match M.loops with
    | [] => false
    | (_, _, y) :: l => !decide (y = .nil) && decide (({ M with loops := l } : DM).top.len ≤ 1000)))
  | l => decide (0 < ln) && (M.outs.isEmpty && (rowB l && (decide (4 ≤ M.wd) && (decide (M.wd ≤ 32) && (decide (M.known.length ≤ 1000) && (decide (M.chosen.length ≤ 1000) && decide (M.top.len ≤ 1000)))))))
theorem soundB_ok {ln : Int} {M : DM} {l : Ln} (h : soundB ln M l = true) : l.sound ln M := by
  cases l
  case fin =>
    simp only [soundB, Bool.and_eq_true, decide_eq_true_eq, List.isEmpty_iff] at h
    obtain ⟨h1, h2, h3⟩ := h
    refine ⟨h1, h2, ?_⟩
    cases hl : M.loops with
    | nil => rw [hl] at h3; cases h3
    | cons x l =>
      obtain ⟨a, b, y⟩ := x
      rw [hl] at h3
      simp only [Bool.and_eq_true, decide_eq_true_eq, Bool.not_eq_true', decide_eq_false_iff_not] at h3
      exact ⟨a, b, y, l, rfl, h3.1, h3.2⟩
  case copy g b =>
    simp only [soundB, Bool.and_eq_true, decide_eq_true_eq, List.isEmpty_iff] at h
    exact ⟨h.1, h.2.1, rowB_ok h.2.2.1, h.2.2.2⟩
  case bad g =>
    simp only [soundB, Bool.and_eq_true, decide_eq_true_eq, List.isEmpty_iff] at h
    exact ⟨h.1, h.2.1, rowB_ok h.2.2.1, h.2.2.2⟩
  case part g h' b =>
    simp only [soundB, Bool.and_eq_true, decide_eq_true_eq, List.isEmpty_iff] at h
    exact ⟨h.1, h.2.1, rowB_ok h.2.2.1, h.2.2.2⟩
  case set g n =>
    simp only [soundB, Bool.and_eq_true, decide_eq_true_eq, List.isEmpty_iff] at h
    exact ⟨h.1, h.2.1, rowB_ok h.2.2.1, h.2.2.2⟩
  all_goals
    simp only [soundB, Bool.and_eq_true, decide_eq_true_eq, List.isEmpty_iff] at h
    exact h
def soundAllB : Int → DM → List Ln → Bool
  | _, M, [] => M.loops.isEmpty && !M.outs.isEmpty
  | ln, M, l :: r => soundB ln M l && match l.step ln M with
    | none => true
    | some M' => M'.great ln || soundAllB (ln + 1) M' r
theorem soundAllB_ok : ∀ {ls : List Ln} {ln : Int} {M : DM}, soundAllB ln M ls = true → SoundAll ln M ls
  | [], ln, M, h => by
    simp only [soundAllB, Bool.and_eq_true, List.isEmpty_iff, Bool.not_eq_true'] at h
    exact ⟨h.1, fun z => by rw [z] at h; cases h.2⟩
  | l :: r, ln, M, h => by
    simp only [soundAllB, Bool.and_eq_true] at h
    refine ⟨soundB_ok h.1, fun M' hs hg => ?_⟩
    have h2 := h.2
    rw [hs] at h2
    simp only [hg, Bool.false_or] at h2
    exact soundAllB_ok h2
/-- the lines as texts -/
def textB : List Str → List Ln → Bool
  | [], [] => true
  | t :: ts, l :: ls => decide (Txt.split t " " = l.words) && (decide (t.length ≤ 90000) && (!decide (("" : Str) ∈ l.words) && (decide (l.words.length ≤ 10) && textB ts ls)))
  | _, _ => false
theorem textB_ok : ∀ {ts : List Str} {ls : List Ln}, textB ts ls = true → ts.length = ls.length ∧ ∀ (i : Nat) (t : Str) (l : Ln), ts[i]? = some t → ls[i]? = some l → Txt.split t " " = l.words ∧ t.length ≤ 90000 ∧ ("" : Str) ∉ l.words ∧ l.words.length ≤ 10
  | [], [], _ => ⟨rfl, fun i t l h => by simp at h⟩
  | t :: ts, l :: ls, h => by
    simp only [textB, Bool.and_eq_true, decide_eq_true_eq, Bool.not_eq_true', decide_eq_false_iff_not] at h
    obtain ⟨h1, h2, h3, h4, h5⟩ := h
    have ih := textB_ok h5
    refine ⟨by rw [List.length_cons, List.length_cons, ih.1], fun i t' l' e1 e2 => ?_⟩
    cases i with
    | zero =>
      obtain rfl : t = t' := Option.some.inj e1
      obtain rfl : l = l' := Option.some.inj e2
      exact ⟨h1, h2, h3, h4⟩
    | succ i => exact ih.2 i t' l' e1 e2
  | [], _ :: _, h => by cases h
  | _ :: _, [], h => by cases h

end
section
variable {P : Program} {w : World} {K : PySem.W.Frag} {mg : Str → Option Value} {base : Heap}
def smallB : Rows → Bool
  | .nil => true
  | .row _ _ _ _ _ t => smallB t
  | .rep _ tm b t => decide (0 ≤ tm) && (decide (tm ≤ 1000) && (decide (b.count ≤ 100000000) && (smallB b && smallB t)))
theorem smallB_ok : ∀ {r : Rows}, smallB r = true → r.small
  | .nil, _ => trivial
  | .row _ _ _ _ _ t, h => smallB_ok (r := t) h
  | .rep _ tm b t, h => by
    simp only [smallB, Bool.and_eq_true, decide_eq_true_eq] at h
    exact ⟨h.1, h.2.1, h.2.2.1, smallB_ok h.2.2.2.1, smallB_ok h.2.2.2.2⟩
def one? : List Str → Bool
  | [_] => true
  | _ => false
theorem one_ok {rs : List Str} (h : one? rs = true) : ∃ b, rs = [b] := by
  cases rs with
  | nil => cases h
  | cons a t => cases t with
    | nil => exact ⟨a, rfl⟩
    | cons _ _ => cases h
def lookB (ch : List Int) : Rows → Bool
  | .nil => true
  | .row ln deed gs rs _ t => decide (gs.length ≤ 3) && (((decide (ln ∈ ch) && rs.isEmpty) || (!decide (ln ∈ ch) && ((decide (deed = "copy") || decide (deed = "part")) && one? rs))) && lookB ch t)
  | .rep _ _ b t => lookB ch b && lookB ch t
theorem lookB_ok {ch : List Int} : ∀ {r : Rows}, lookB ch r = true → r.lookOk ch
  | .nil, _ => trivial
  | .row ln deed gs rs _ t, h => by
    simp only [lookB, Bool.and_eq_true, Bool.or_eq_true, decide_eq_true_eq, Bool.not_eq_true', decide_eq_false_iff_not, List.isEmpty_iff] at h
    exact ⟨h.1, h.2.1.imp (fun q => ⟨q.1, q.2⟩) (fun q => ⟨q.1, q.2.1, one_ok q.2.2⟩), lookB_ok h.2.2⟩
  | .rep _ _ b t, h => by
    simp only [lookB, Bool.and_eq_true] at h
    exact ⟨lookB_ok h.1, lookB_ok h.2⟩
def finB (M : DM) : Bool := decide ((M.ins.map Prod.snd).Nodup) && (decide (M.ins.length ≤ 1000) && (decide (M.outs.length ≤ 1000) && (decide (M.rows.depth < 9) && (smallB M.rows && (decide (M.rows.count ≤ 100000000) && (lookB M.chosen M.rows && (decide (M.ins.length + 3 * M.rows.total ≤ 50000) &&
  (decide ((M.outs.map Prod.snd).Nodup) && match lookM M.rows (M.ins.map Prod.snd) with
    | .un _ _ => true
    | .ok k => (M.outs.map Prod.snd).all fun n => decide (n ∈ k)))))))))
theorem finB_ok {M : DM} (h : finB M = true) : M.Fin (fun _ => True) := by
  simp only [finB, Bool.and_eq_true, decide_eq_true_eq] at h
  obtain ⟨h1, h2, h3, h4, h5, h6, h7, h8, h9, h10⟩ := h
  refine ⟨h1, h2, h3, h4, smallB_ok h5, h6, lookB_ok h7, h8, h9, fun k hk n hn => ?_⟩
  rw [hk] at h10
  have := List.all_eq_true.mp h10 n hn
  simpa using this
/-- all that a told list of lines asks -/
structure Good (lines : List Str) (ls : List Ln) (o : Option (Str × Int)) : Prop where
  sz : (lines.map (·.length)).sum + lines.length * ("\n" : Str).length ≤ 16777216
  tx : TextOk (Txt.join "\n" lines) ls
  so : SoundAll 0 DM0 ls
  fi : ∀ M, readM 0 DM0 ls = .ok M → M.Fin (fun _ => True)
  pr : progOut ls = o
def goodB (lines : List Str) (ls : List Ln) (o : Option (Str × Int)) : Bool :=
  decide ((lines.map (·.length)).sum + lines.length * ("\n" : Str).length ≤ 16777216) && (decide ((Txt.join "\n" lines).length ≤ 90000) && ((lines.all (fun t => !decide (10 ∈ t.cps.toList)) && !lines.isEmpty) && (textB lines ls && (soundAllB 0 DM0 ls &&
    ((match readM 0 DM0 ls with | .ok M => finB M | _ => true) && decide (progOut ls = o))))))
theorem goodB_ok {lines : List Str} {ls : List Ln} {o : Option (Str × Int)} (h : goodB lines ls o = true) : Good lines ls o := by
  simp only [goodB, Bool.and_eq_true, decide_eq_true_eq] at h
  obtain ⟨h1, h2, h3, h4, h5, h6, h7⟩ := h
  have tb := textB_ok h4
  have h3' : Txt.split (Txt.join "\n" lines) "\n" = lines := by
    simp only [Bool.and_eq_true, Bool.not_eq_true', List.isEmpty_eq_false_iff] at h3
    refine TL.split_join (s := 10) (S := []) (by decide +kernel) (by decide +kernel) h3.2 fun p hp => ?_
    have := List.all_eq_true.mp h3.1 p hp
    simpa using this
  refine ⟨h1, ⟨h2, lines, h3', tb.1, tb.2⟩, soundAllB_ok h5, fun M hM => ?_, h7⟩
  rw [hM] at h6
  exact finB_ok h6
/-- the lines of the first part -/
def linesL (many : Nat) : List Str := (["width 8", "in b plain"] : List Str) ++ List.replicate (many - 3) ("k = copy b" : Str) ++ (["out k"] : List Str)
def linesN (many : Nat) : List Ln := [.width 8, .inp "b"] ++ List.replicate (many - 3) (.copy "k" "b") ++ [.out "k"]
def due60 (many : Nat) : Option (Str × Int) := if many > 60 then some ("much", 60) else none
theorem lines1 : ((List.range 8).all fun r => goodB (linesL (57 + r)) (linesN (57 + r)) (due60 (57 + r))) = true := by decide +kernel

end
section
variable {P : Program} {w : World} {K : PySem.W.Frag} {mg : Str → Option Value} {base : Heap}
def due2 (many : Nat) : Option (Str × Int) := if many > 60 then some ("much", 60) else some ("unknown", 5)
def due3 (many : Nat) : Option (Str × Int) := if many - 2 > 60 then some ("much", 60) else some ("form", ((many - 2 : Nat) : Int))
theorem lines2 : ((List.range 8).all fun r => goodB ((linesL (57 + r)).set 5 "k = copy v") ((linesN (57 + r)).set 5 (.copy "k" "v")) (due2 (57 + r))) = true := by decide +kernel
theorem lines3 : ((List.range 8).all fun r => goodB (((linesL (57 + r)).set 5 "k = copy v").set (57 + r - 2) "k = copy") (((linesN (57 + r)).set 5 (.copy "k" "v")).set (57 + r - 2) (.bad "k")) (due3 (57 + r))) = true := by decide +kernel
/-- what is told, at its place -/
def OutAt (H : Hp) (v : V) : Option (Str × Int) → Prop
  | none => v = .non
  | some (s, n) => ∃ q, v = .ref q ∧ H q = some (.tup [.str s, .int n])
def dO : Option (Str × Int) → PyData
  | none => .none
  | some (s, n) => .tuple [.str s, .int n]
theorem OutAt.dp {K : PySem.W.Frag} {H : Hp} {v : V} : ∀ {o : Option (Str × Int)}, OutAt H v o → Dp K H v (dO o)
  | none, h => by rw [show v = .non from h]; exact .non
  | some (s, n), ⟨q, e, hq⟩ => by rw [e]; exact .tup (SqT.of hq) (.cons (.str s) (.cons (.int n) .nil))
theorem eqvO : ∀ a b : Option (Str × Int), PyData.eqv (dO a) (dO b) = decide (a = b)
  | none, none => by simp [dO, PyData.eqv]
  | none, some (s, n) => by simp [dO, PyData.eqv]
  | some (s, n), none => by simp [dO, PyData.eqv]
  | some (s, n), some (t, m) => by
    simp only [dO, PyData.eqv, PyData.eqvAll, Bool.and_true, Option.some.injEq, Prod.mk.injEq]
    by_cases h1 : s = t <;> by_cases h2 : n = m <;> simp [h1, h2]
theorem r_neO {K : PySem.W.Frag} {H : Hp} {v u : V} {o o' : Option (Str × Int)} {Q : VK} (h1 : OutAt H v o) (h2 : OutAt H u o') (s1 : SeqAt.shaped (dO o) = true) (s2 : SeqAt.shaped (dO o') = true) (q : Q (.bl (!decide (o = o'))) H) : rNeD K v u H Q :=
  ⟨_, _, h1.dp, h2.dp, s1, s2, by rw [eqvO]; exact q⟩
theorem r_eqO {K : PySem.W.Frag} {H : Hp} {v u : V} {o o' : Option (Str × Int)} {Q : VK} (h1 : OutAt H v o) (h2 : OutAt H u o') (s1 : SeqAt.shaped (dO o) = true) (s2 : SeqAt.shaped (dO o') = true) (q : Q (.bl (decide (o = o'))) H) : rEqD K v u H Q :=
  ⟨_, _, h1.dp, h2.dp, s1, s2, by rw [eqvO]; exact q⟩
/-- the promise of a told answer, by what is good -/
theorem told_of {K : PySem.W.Frag} {H : Hp} {Q : VK} {E : XK} {p : Addr} {lines : List Str} {ls : List Ln} {o : Option (Str × Int)} (G : Good lines ls o) (hp : H p = some (.lst (lines.map V.str))) (q : ∀ v H', Same H H' → OutAt H' v o → Q v H') : sp_L_told K [.ref p] H Q E := by
  refine ⟨p, lines, ls, rfl, hp, G.sz, G.tx, G.so, G.fi, ?_⟩
  rw [G.pr]
  cases o with
  | none => exact fun H' s => q _ _ s rfl
  | some x =>
    obtain ⟨s, n⟩ := x
    exact fun a H' s' _ e => q _ _ s' ⟨a, rfl, e⟩
theorem flat_rep {x : V} : ∀ k : Nat, (List.replicate k [x]).flatten = List.replicate k x
  | 0 => rfl
  | k + 1 => by rw [List.replicate_succ, List.flatten_cons, flat_rep k]; rfl
theorem r_rep1 {H : Hp} {p : Addr} {x : V} {k : Int} {Q : VK} (e : H p = some (.lst [x])) (h0 : 0 ≤ k) (h1 : k ≤ 1000) (h : ∀ q, H q = none → Q (.ref q) (upd H q (.lst (List.replicate k.toNat x)))) : rRep (.ref p) (.int k) H Q :=
  ⟨p, k, _, rfl, rfl, e, by omega, by omega, line_le (by show 1 * k.toNat ≤ 100000; omega), fun q hq => by rw [flat_rep]; exact h q hq⟩
theorem r_cat {H : Hp} {p q : Addr} {xs zs : List V} {Q : VK} (e : H p = some (.lst xs)) (e2 : H q = some (.lst zs)) (hz : xs.length + zs.length ≤ 100000) (h : ∀ a, H a = none → Q (.ref a) (upd H a (.lst (xs ++ zs)))) : rCat (.ref p) (.ref q) H Q :=
  ⟨p, q, _, _, rfl, rfl, e, e2, line_le hz, h⟩
theorem OutAt.on {H H' : Hp} {v : V} (s : Same H H') : ∀ {o : Option (Str × Int)}, OutAt H v o → OutAt H' v o
  | none, h => h
  | some (_, _), ⟨q, e, hq⟩ => ⟨q, e, s _ _ hq⟩
theorem OutAt.updL {H : Hp} {v : V} {p : Addr} {xs : List V} {o' : HO} (hp : H p = some (.lst xs)) : ∀ {o : Option (Str × Int)}, OutAt H v o → OutAt (upd H p o') v o
  | none, h => h
  | some (_, _), ⟨q, e, hq⟩ => ⟨q, e, by
    have : q ≠ p := fun z => by rw [z, hp] at hq; cases hq
    rw [upd_ne this]; exact hq⟩
theorem r_setL {H : Hp} {p : Addr} {xs : List V} {j : Nat} {v : V} {Q : Hp → Prop} (e : H p = some (.lst xs)) (hj : j < xs.length) (h : Q (upd H p (.lst (xs.set j v)))) : rSetL (.ref p) (.int (j : Int)) v H Q :=
  ⟨p, xs, _, j, rfl, rfl, e, by unfold ixN; rw [if_pos (by omega), if_pos (by omega)]; simp, h⟩

end
section
variable {P : Program} {w : World} {K : PySem.W.Frag} {mg : Str → Option Value} {base : Heap}
def sp_box (K : PySem.W.Frag) : Sp := fun vs H Q _ => ∃ b, vs = [.ref b] ∧ BoxAt H b ∧ ∀ H', BoxAt H' b → SameBut b H H' → Q (.bl true) H'
abbrev N_L_lines_right : List Str := ["_law_box_here", "_law_many", "_law_lines", "_law_due"]
theorem sc_L_lines_right : FnScope ["_law_box_here", "_law_many", "_law_lines", "_law_due"] ["_law_box_here"] (defScope s_L_lines_right) := ⟨rfl, rfl, rfl, by decide +kernel, rfl, by decide +kernel, by decide +kernel⟩
theorem ok_L_lines_right {f : Addr} {fd : FuncData} (T : Tx K mg)  (F : FunP K "_law_lines_right" "_law_lines_right" s_L_lines_right f fd) : FnOk P w K mg base (L2.CX P w) 43 f fd ["_law_box_here"] (sp_box K) := by
  refine F.ok sc_L_lines_right (fun vs H Q E h => ?_) (fun cdv A outer s H vs Q E hr h => ?_)
  · repeat first | (obtain ⟨e, _⟩ := h; subst e; rfl; done) | (obtain ⟨_, h⟩ := h)
  refine ⟨_, (pss_cons (ps_set (i := 1) sc_L_lines_right.nd rfl (Or.inl rfl) (pe_op op_add pe_int (pe_cX (cal_L_take T) hr (by decide) rfl pU (pa_cons (pv 0) (pa_cons pe_int pa_nil)))))
  (pss_cons (ps_set (i := 2) sc_L_lines_right.nd rfl (Or.inl rfl) (pe_op op_cat (pe_op op_cat (pe_lst (pa_cons pe_str (pa_cons pe_str pa_nil))) (pe_op op_rep (pe_lst (pa_cons pe_str pa_nil)) (pe_op op_sub (pv 1) pe_int))) (pe_lst (pa_cons pe_str pa_nil))))
  (pss_cons (ps_set (i := 3) sc_L_lines_right.nd rfl (Or.inl rfl) pe_non)
  (C8.pss_cut (ps_if (pt_cmpR op_gt (pv 1) pe_int (nomark _)) (pss_one (ps_set (i := 3) sc_L_lines_right.nd rfl (Or.inl rfl) (pe_tup (pa_cons pe_str (pa_cons pe_int pa_nil))))) pss_nil)
  (pss_cons (ps_if (pt_cmpR (op_neD (hu64 hr)) (pe_cX (cal_L_told T) hr (by decide) rfl pU (pa_cons (pv 2) pa_nil)) (pv 3) (nomark _)) (pss_one (ps_ret pe_bl)) pss_nil)
  (pss_cons (ps_asg pe_str (pg_sub (pv 2) pe_int set_list))
  (pss_cons (ps_if (pt_cmpR (op_neD (hu64 hr)) (pe_cX (cal_L_told T) hr (by decide) rfl pU (pa_cons (pv 2) pa_nil)) (pe_ix ix_list (pe_lst (pa_cons (pe_tup (pa_cons pe_str (pa_cons pe_int pa_nil))) (pa_cons (pv 3) pa_nil))) (pe_callTy call_int1 (by rfl) (fr_int T) (by decide +kernel) (pa_cons (pe_cmpR op_gt (pv 1) pe_int (nomark _)) pa_nil)) (fun _ _ => rfl)) (nomark _)) (pss_one (ps_ret pe_bl)) pss_nil)
  (pss_cons (ps_asg pe_str (pg_sub (pv 2) (pe_op op_sub (pv 1) pe_int) set_list))
  (pss_one (ps_ret (pe_cmpR (op_eqD (hu64 hr)) (pe_cX (cal_L_told T) hr (by decide) rfl pU (pa_cons (pv 2) pa_nil)) (pe_ix ix_list (pe_lst (pa_cons (pe_tup (pa_cons pe_str (pa_cons (pe_op op_sub (pv 1) pe_int) pa_nil))) (pa_cons (pv 3) pa_nil))) (pe_callTy call_int1 (by rfl) (fr_int T) (by decide +kernel) (pa_cons (pe_cmpR op_gt (pe_op op_sub (pv 1) pe_int) pe_int (nomark _)) pa_nil)) (fun _ _ => rfl)) (nomark _)))))))))))), ?_⟩
  try dsimp only [cxK]
  obtain ⟨b, rfl, hb, kq⟩ := h
  walk_at "rd"
  refine ⟨b, 8, rfl, hb, by decide, by decide, fun r H1 r0 r8 b1 f1 => ?_⟩
  obtain ⟨n, rfl⟩ : ∃ n : Nat, r = (n : Int) := ⟨r.toNat, by omega⟩
  have n8 : n < 8 := by omega
  have G1 := goodB_ok (List.all_eq_true.mp lines1 n (List.mem_range.mpr n8))
  have G2 := goodB_ok (List.all_eq_true.mp lines2 n (List.mem_range.mpr n8))
  have G3 := goodB_ok (List.all_eq_true.mp lines3 n (List.mem_range.mpr n8))
  walk_at "rd"
  refine r_newL fun p1 hp1 => ?_
  have s1 := Same.new (o := .lst [V.str "width 8", V.str "in b plain"]) hp1
  have e1 : upd H1 p1 (.lst [V.str "width 8", V.str "in b plain"]) p1 = some (.lst [V.str "width 8", V.str "in b plain"]) := upd_same
  generalize upd H1 p1 (.lst [V.str "width 8", V.str "in b plain"]) = H2 at *
  walk_at "rd"
  refine r_newL fun p2 hp2 => ?_
  have s2 := Same.new (o := .lst [V.str "k = copy b"]) hp2
  have e2 : upd H2 p2 (.lst [V.str "k = copy b"]) p2 = some (.lst [V.str "k = copy b"]) := upd_same
  have e12 := s2 _ _ e1
  have s12 := s1.trans s2
  generalize upd H2 p2 (.lst [V.str "k = copy b"]) = H3 at *
  walk_at "rd"
  refine r_rep1 e2 (by omega) (by omega) fun p3 hp3 => ?_
  have s3 := Same.new (o := .lst (List.replicate (57 + (n : Int) - 3).toNat (V.str "k = copy b"))) hp3
  have e3 : upd H3 p3 (.lst (List.replicate (57 + (n : Int) - 3).toNat (V.str "k = copy b"))) p3 = some (.lst (List.replicate (57 + (n : Int) - 3).toNat (V.str "k = copy b"))) := upd_same
  have e13 := s3 _ _ e12
  have s13 := s12.trans s3
  generalize upd H3 p3 (.lst (List.replicate (57 + (n : Int) - 3).toNat (V.str "k = copy b"))) = H4 at *
  refine r_cat e13 e3 (by rw [List.length_replicate]; show 2 + _ ≤ _; omega) fun p4 hp4 => ?_
  have s4 := Same.new (o := .lst ([V.str "width 8", V.str "in b plain"] ++ List.replicate (57 + (n : Int) - 3).toNat (V.str "k = copy b"))) hp4
  have e4 : upd H4 p4 (.lst ([V.str "width 8", V.str "in b plain"] ++ List.replicate (57 + (n : Int) - 3).toNat (V.str "k = copy b"))) p4 = some (.lst ([V.str "width 8", V.str "in b plain"] ++ List.replicate (57 + (n : Int) - 3).toNat (V.str "k = copy b"))) := upd_same
  have s14 := s13.trans s4
  generalize upd H4 p4 (.lst ([V.str "width 8", V.str "in b plain"] ++ List.replicate (57 + (n : Int) - 3).toNat (V.str "k = copy b"))) = H5 at *
  walk_at "rd"
  refine r_newL fun p5 hp5 => ?_
  have s5 := Same.new (o := .lst [V.str "out k"]) hp5
  have e5 : upd H5 p5 (.lst [V.str "out k"]) p5 = some (.lst [V.str "out k"]) := upd_same
  have e45 := s5 _ _ e4
  have s15 := s14.trans s5
  generalize upd H5 p5 (.lst [V.str "out k"]) = H6 at *
  walk_at "rd"
  refine r_cat e45 e5 (by rw [List.length_append, List.length_replicate]; show 2 + _ + 1 ≤ _; omega) fun p hp => ?_
  have s6 := Same.new (o := .lst ([V.str "width 8", V.str "in b plain"] ++ List.replicate (57 + (n : Int) - 3).toNat (V.str "k = copy b") ++ [V.str "out k"])) hp
  have el : [V.str "width 8", V.str "in b plain"] ++ List.replicate (57 + (n : Int) - 3).toNat (V.str "k = copy b") ++ [V.str "out k"] = (linesL (57 + n)).map V.str := by
    unfold linesL
    rw [show (57 + (n : Int) - 3).toNat = 57 + n - 3 by omega, List.map_append, List.map_append, List.map_replicate]
    rfl
  rw [el] at s6 ⊢
  have ep : upd H6 p (.lst ((linesL (57 + n)).map V.str)) p = some (.lst ((linesL (57 + n)).map V.str)) := upd_same
  have s16 := s15.trans s6
  have b6 := b1
  have hpF : H1 p = none := s15.free hp
  have pb : p ≠ b := fun z => by
    obtain ⟨x, y, z', e⟩ := b1
    rw [z, s15 _ _ e] at hp; cases hp
  generalize upd H6 p (.lst ((linesL (57 + n)).map V.str)) = H7 at *
  clear s1 s2 s3 s4 s5 s6 s12 s13 s14 s15 e1 e2 e3 e4 e5 e12 e13 e45 hp1 hp2 hp3 hp4 hp5 hp b6
  walk_at "rd"
  refine ⟨fun σ' H' => ∃ v, σ' = ((((L2.start ["_law_box_here", "_law_many", "_law_lines", "_law_due"] [V.ref b]).set 1 (some (.int (57 + (n : Int))))).set 2 (some (.ref p))).set 3 (some v)) ∧ Same H7 H' ∧ OutAt H' v (due60 (57 + n)), ?_, ?_⟩
  · walk_at "rd"
    unfold due60
    refine r_iteD (fun h => ?_) (fun h => ?_)
    · walk_at "rd"
      refine r_newL fun q hq => ?_
      rw [if_pos (show 57 + n > 60 by omega)]
      walk_at "rd"
      exact ⟨_, rfl, Same.new hq, q, rfl, upd_same⟩
    · rw [if_neg (show ¬ 57 + n > 60 by omega)]
      walk_at "rd"
      exact ⟨_, rfl, Same.refl _, rfl⟩
  rintro σ' H8 ⟨v, rfl, s8, o8⟩
  walk_at "rd"
  refine told_of G1 (s8 _ _ ep) fun u H9 s9 o9 => ?_
  walk_at "rd"
  refine r_neO o9 (o8.on s9) (by unfold due60; split <;> decide +kernel) (by unfold due60; split <;> decide +kernel) ?_
  rw [show (!decide (due60 (57 + n) = due60 (57 + n))) = false by simp]
  walk_at "rd"
  have ep9 := s9 _ _ (s8 _ _ ep)
  have ov9 := o8.on s9
  have hlen : ((linesL (57 + n)).map V.str).length = 57 + n := by
    rw [List.length_map]; unfold linesL; rw [List.length_append, List.length_append, List.length_replicate]; show 2 + (57 + n - 3) + 1 = 57 + n; omega
  refine ⟨_, rfl, ?_⟩
  refine r_setL (j := 5) ep9 (by omega) ?_
  have f10 : SameBut p H9 (upd H9 p (.lst (((linesL (57 + n)).map V.str).set 5 (V.str "k = copy v")))) := fun c o hc e => by rw [upd_ne hc]; exact e
  have ov10 := ov9.updL (o' := .lst (((linesL (57 + n)).map V.str).set 5 (V.str "k = copy v"))) ep9
  have ep10 : upd H9 p (.lst (((linesL (57 + n)).map V.str).set 5 (V.str "k = copy v"))) p = some (.lst (((linesL (57 + n)).set 5 "k = copy v").map V.str)) := by rw [upd_same, List.map_set]
  generalize upd H9 p (.lst (((linesL (57 + n)).map V.str).set 5 (V.str "k = copy v"))) = H10 at *
  walk_at "rd"
  refine told_of G2 ep10 fun u2 H11 s11 o11 => ?_
  walk_at "rd"
  refine r_newL fun q12 h12 => ?_
  have t12 := Same.new (o := .tup [V.str "unknown", V.int 5]) h12
  have e12 : upd H11 q12 (.tup [V.str "unknown", V.int 5]) q12 = some (.tup [V.str "unknown", V.int 5]) := upd_same
  generalize upd H11 q12 (.tup [V.str "unknown", V.int 5]) = H12 at *
  walk_at "rd"
  refine r_newL fun q13 h13 => ?_
  have t13 := Same.new (o := .lst [V.ref q12, v]) h13
  have e13 : upd H12 q13 (.lst [V.ref q12, v]) q13 = some (.lst [V.ref q12, v]) := upd_same
  generalize upd H12 q13 (.lst [V.ref q12, v]) = H13 at *
  walk_at "rd"
  refine r_intB ?_
  walk_at "rd"
  have ov13 := (ov10.on s11).on (t12.trans t13)
  have ho : ∃ w, atI [V.ref q12, v] (if decide ((60 : Int) < 57 + (n : Int)) = true then 1 else 0) = some w ∧ OutAt H13 w (due2 (57 + n)) := by
    by_cases hn : (60 : Int) < 57 + (n : Int)
    · refine ⟨v, by rw [decide_eq_true hn]; exact at1, ?_⟩
      have := ov13
      unfold due60 at this
      rw [if_pos (show 57 + n > 60 by omega)] at this
      unfold due2
      rw [if_pos (show 57 + n > 60 by omega)]
      exact this
    · refine ⟨.ref q12, by rw [decide_eq_false hn]; exact at0, ?_⟩
      unfold due2
      rw [if_neg (show ¬ 57 + n > 60 by omega)]
      exact ⟨q12, rfl, t13 _ _ e12⟩
  obtain ⟨w2, hw2, ow2⟩ := ho
  refine r_ixL (SqL.of e13) hw2 ?_
  refine r_neO (o11.on (t12.trans t13)) ow2 (by unfold due2; split <;> decide +kernel) (by unfold due2; split <;> decide +kernel) ?_
  rw [show (!decide (due2 (57 + n) = due2 (57 + n))) = false by simp]
  have s13 := s11.trans (t12.trans t13)
  have ep13 := s13 _ _ ep10
  walk_at "rd"
  refine ⟨_, rfl, ?_⟩
  walk_at "rd"
  have e2n : (57 + (n : Int) - 2) = ((57 + n - 2 : Nat) : Int) := by omega
  rw [e2n]
  refine r_setL ep13 (by rw [List.length_map, List.length_set]; rw [List.length_map] at hlen; omega) ?_
  have f14 : SameBut p H13 (upd H13 p (.lst ((((linesL (57 + n)).set 5 "k = copy v").map V.str).set (57 + n - 2) (V.str "k = copy")))) := fun c o hc e => by rw [upd_ne hc]; exact e
  have ov14 := ov13.updL (o' := .lst ((((linesL (57 + n)).set 5 "k = copy v").map V.str).set (57 + n - 2) (V.str "k = copy"))) ep13
  have ep14 : upd H13 p (.lst ((((linesL (57 + n)).set 5 "k = copy v").map V.str).set (57 + n - 2) (V.str "k = copy"))) p = some (.lst ((((linesL (57 + n)).set 5 "k = copy v").set (57 + n - 2) "k = copy").map V.str)) := by simp only [upd_same, List.map_set]
  generalize upd H13 p (.lst ((((linesL (57 + n)).set 5 "k = copy v").map V.str).set (57 + n - 2) (V.str "k = copy"))) = H14 at *
  walk_at "rd"
  refine told_of G3 ep14 fun u3 H15 s15 o15 => ?_
  walk_at "rd"
  refine r_newL fun q16 h16 => ?_
  rw [e2n]
  have t16 := Same.new (o := .tup [V.str "form", V.int ((57 + n - 2 : Nat) : Int)]) h16
  have e16 : upd H15 q16 (.tup [V.str "form", V.int ((57 + n - 2 : Nat) : Int)]) q16 = some (.tup [V.str "form", V.int ((57 + n - 2 : Nat) : Int)]) := upd_same
  generalize upd H15 q16 (.tup [V.str "form", V.int ((57 + n - 2 : Nat) : Int)]) = H16 at *
  walk_at "rd"
  refine r_newL fun q17 h17 => ?_
  have t17 := Same.new (o := .lst [V.ref q16, v]) h17
  have e17 : upd H16 q17 (.lst [V.ref q16, v]) q17 = some (.lst [V.ref q16, v]) := upd_same
  generalize upd H16 q17 (.lst [V.ref q16, v]) = H17 at *
  walk_at "rd"
  refine r_intB ?_
  have ov17 := (ov14.on s15).on (t16.trans t17)
  have ho3 : ∃ w, atI [V.ref q16, v] (if decide ((60 : Int) < 57 + (n : Int) - 2) = true then 1 else 0) = some w ∧ OutAt H17 w (due3 (57 + n)) := by
    by_cases hn : (60 : Int) < 57 + (n : Int) - 2
    · refine ⟨v, by rw [decide_eq_true hn]; exact at1, ?_⟩
      have := ov17
      unfold due60 at this
      rw [if_pos (show 57 + n > 60 by omega)] at this
      unfold due3
      rw [if_pos (show 57 + n - 2 > 60 by omega)]
      exact this
    · refine ⟨.ref q16, by rw [decide_eq_false hn]; exact at0, ?_⟩
      unfold due3
      rw [if_neg (show ¬ 57 + n - 2 > 60 by omega)]
      exact ⟨q16, rfl, t17 _ _ e16⟩
  obtain ⟨w3, hw3, ow3⟩ := ho3
  refine r_ixL (SqL.of e17) hw3 ?_
  refine r_eqO (o15.on (t16.trans t17)) ow3 (by unfold due3; split <;> first | decide +kernel | (simp [dO, SeqAt.shaped, PyData.canLay0, PyData.canLayAll0, PyData.depth, PyData.depthAll]; decide +kernel)) (by unfold due3; split <;> first | decide +kernel | (simp [dO, SeqAt.shaped, PyData.canLay0, PyData.canLayAll0, PyData.depth, PyData.depthAll]; decide +kernel)) ?_
  rw [decide_eq_true rfl]
  have keep : SameBut b H H17 := fun c o hc e => by
    have e1 := f1 c o hc e
    have e2 := s9 _ _ (s8 _ _ (s16 _ _ e1))
    have hcp : c ≠ p := ne_of_none e1 hpF
    exact t17 _ _ (t16 _ _ (s15 _ _ (f14 c o hcp (s13 _ _ (f10 c o hcp e2)))))
  refine kq _ ?_ keep
  obtain ⟨x, y, z', eb⟩ := b1
  exact ⟨x, y, z', t17 _ _ (t16 _ _ (s15 _ _ (f14 b _ (Ne.symm pb) (s13 _ _ (f10 b _ (Ne.symm pb) (s9 _ _ (s8 _ _ (s16 _ _ eb)))))))) ⟩
theorem cal_L_lines_right (T : Tx K mg) : CalX P w K mg base 43 "_law_lines_right" (sp_box K) [] := by
  obtain ⟨fd, F⟩ := fn_L_lines_right T
  exact ⟨_, fd, _, [], ok_L_lines_right T F, g__law_lines_right T, F.kp, F.bindsN fun _ _ _ _ _ _ us hl => match us, hl with | [_], _ => rfl, .nil⟩

end
section
variable {P : Program} {w : World} {K : PySem.W.Frag} {mg : Str → Option Value} {base : Heap}
/-- loops within one another -/
def loopsL (ts : List Int) : List Str := (["width 9"] : List Str) ++ ts.map (fun t => ("repeat " : Str) ++ num t) ++ (["b = set plain 3"] : List Str) ++ List.replicate ts.length ("end" : Str) ++ (["out b"] : List Str)
def loopsN (ts : List Int) : List Ln := [.width 9] ++ ts.map (fun t => Ln.rep t) ++ [.set "b" 3] ++ List.replicate ts.length Ln.fin ++ [.out "b"]
def loopsO (ts : List Int) : Option (Str × Int) := if ts.length > 3 then some ("much", 4) else none
/-- all lists of 1, 2, 3 -/
def turnsL : Nat → List (List Int)
  | 0 => [[]]
  | d + 1 => (turnsL d).flatMap fun l => [1 :: l, 2 :: l, 3 :: l]
theorem loops1 : ((turnsL 1 ++ turnsL 2 ++ turnsL 3).all fun ts => goodB (loopsL ts) (loopsN ts) (loopsO ts)) = true := by decide +kernel
theorem most1 : goodB ["width 9", "in b plain", "repeat 24", "repeat 25", "b = copy b", "end", "end", "out b"] [.width 9, .inp "b", .rep 24, .rep 25, .copy "b" "b", .fin, .fin, .out "b"] none = true := by decide +kernel
theorem most2 : goodB ["width 9", "in b plain", "repeat 24", "repeat 25", "b = copy b", "end", "end", "b = copy b", "out b"] [.width 9, .inp "b", .rep 24, .rep 25, .copy "b" "b", .fin, .fin, .copy "b" "b", .out "b"] (some ("much", -1)) = true := by decide +kernel

end
section
variable {P : Program} {w : World} {K : PySem.W.Frag} {mg : Str → Option Value} {base : Heap}
/-! ### lines by their kinds -/
def lnText : Ln → Str
  | .width w => ("width " : Str) ++ num w
  | .inp nm => ("in " : Str) ++ nm ++ (" plain" : Str)
  | .out nm => ("out " : Str) ++ nm
  | .rep n => ("repeat " : Str) ++ num n
  | .fin => "end"
  | .copy g b => g ++ ((" = copy " : Str) ++ b)
  | .bad g => g ++ (" = copy" : Str)
  | .part g h b => g ++ (" " : Str) ++ h ++ (" = part " : Str) ++ b ++ (" 3" : Str)
  | .set g n => g ++ ((" = set plain " : Str) ++ num n)
def lineB (l : Ln) : Bool := decide (Txt.split (lnText l) " " = l.words) && (decide ((lnText l).length ≤ 100) && (!decide (("" : Str) ∈ l.words) && (decide (l.words.length ≤ 10) && !decide (10 ∈ (lnText l).cps.toList))))
theorem joinL_len (S : List Nat) : ∀ l : List (List Nat), (TL.joinL S l).length ≤ (l.map List.length).sum + l.length * S.length
  | [] => by simp [TL.joinL]
  | [p] => by simp [TL.joinL]
  | p :: q :: r => by
    have ih := joinL_len S (q :: r)
    simp only [TL.joinL, List.length_append, List.map_cons, List.sum_cons, List.length_cons] at ih ⊢
    have e : (r.length + 1 + 1) * S.length = (r.length + 1) * S.length + S.length := Nat.succ_mul _ _
    rw [e]
    omega
theorem sum_le {f : Ln → Nat} {B : Nat} : ∀ {ls : List Ln}, (∀ l ∈ ls, f l ≤ B) → (ls.map f).sum ≤ ls.length * B
  | [], _ => by simp
  | l :: r, h => by
    have h1 := h l List.mem_cons_self
    have h2 := sum_le (ls := r) fun x hx => h x (List.mem_cons_of_mem _ hx)
    have e : (r.length + 1) * B = r.length * B + B := Nat.succ_mul _ _
    simp only [List.map_cons, List.sum_cons, List.length_cons]
    rw [e]; omega
theorem text_of {ls : List Ln} (h : ∀ l ∈ ls, lineB l = true) (hn : ls ≠ []) (hl : ls.length ≤ 200) :
    ((ls.map lnText).map (·.length)).sum + (ls.map lnText).length * ("\n" : Str).length ≤ 16777216 ∧ TextOk (Txt.join "\n" (ls.map lnText)) ls := by
  have hb : ∀ l ∈ ls, Txt.split (lnText l) " " = l.words ∧ (lnText l).length ≤ 100 ∧ ("" : Str) ∉ l.words ∧ l.words.length ≤ 10 ∧ 10 ∉ (lnText l).cps.toList := fun l hm => by
    have q := h l hm
    unfold lineB at q
    simp only [Bool.and_eq_true, decide_eq_true_eq, Bool.not_eq_true', decide_eq_false_iff_not] at q
    exact ⟨q.1, q.2.1, q.2.2.1, q.2.2.2.1, q.2.2.2.2⟩
  have hs : ((ls.map lnText).map (·.length)).sum ≤ ls.length * 100 := by
    rw [List.map_map]
    exact sum_le (f := (fun x : Str => x.length) ∘ lnText) fun l hm => (hb l hm).2.1
  have h1 : ("\n" : Str).length = 1 := by decide +kernel
  have hm : ls.length * 100 ≤ 200 * 100 := Nat.mul_le_mul_right _ hl
  refine ⟨by rw [h1, List.length_map]; omega, ?_, ls.map lnText, ?_, by rw [List.length_map], fun i t l e1 e2 => ?_⟩
  · have e := TL.tl_join "\n" (ls.map lnText)
    have e2 : (Txt.join "\n" (ls.map lnText)).length = (TL.tl (Txt.join "\n" (ls.map lnText))).length := by unfold TL.tl; rw [Array.length_toList]; rfl
    rw [e2, TL.join_eq, e]
    have j := joinL_len (TL.tl "\n") ((ls.map lnText).map TL.tl)
    have e3 : ((ls.map lnText).map TL.tl).map List.length = (ls.map lnText).map (·.length) := by
      rw [List.map_map]
      refine List.map_congr_left fun a _ => ?_
      show (TL.tl a).length = a.length
      unfold TL.tl; rw [Array.length_toList]; rfl
    have e4 : (TL.tl "\n").length = 1 := by decide +kernel
    rw [e3, e4, List.length_map, List.length_map] at j
    omega
  · refine TL.split_join (s := 10) (S := []) (by decide +kernel) (by decide +kernel) (by simpa using hn) fun p hp => ?_
    obtain ⟨l, hl', rfl⟩ := List.mem_map.mp hp
    exact (hb l hl').2.2.2.2
  · rw [List.getElem?_map, e2] at e1
    obtain rfl := Option.some.inj e1
    have q := hb l (List.mem_of_getElem? e2)
    exact ⟨q.1, Nat.le_trans q.2.1 (by decide), q.2.2.1, q.2.2.2.1⟩
/-! ### runs of lines -/
structure Rn (ln : Int) (M : DM) (pre : List Ln) (ln' : Int) (M' : DM) : Prop where
  rd : ∀ r, readM ln M (pre ++ r) = readM ln' M' r
  so : ∀ r, SoundAll ln' M' r → SoundAll ln M (pre ++ r)
theorem Rn.nil {ln : Int} {M : DM} : Rn ln M [] ln M := ⟨fun _ => rfl, fun _ h => h⟩
theorem Rn.app {ln ln1 ln2 : Int} {M M1 M2 : DM} {p q : List Ln} (a : Rn ln M p ln1 M1) (b : Rn ln1 M1 q ln2 M2) : Rn ln M (p ++ q) ln2 M2 :=
  ⟨fun r => by rw [List.append_assoc, a.rd, b.rd], fun r h => by rw [List.append_assoc]; exact a.so _ (b.so _ h)⟩
theorem Rn.one {ln : Int} {M M' : DM} {l : Ln} (e : l.step ln M = some M') (g : M'.great ln = false) (s : l.sound ln M) : Rn ln M [l] (ln + 1) M' := by
  refine ⟨fun r => ?_, fun r h => ⟨s, fun M2 e2 _ => ?_⟩⟩
  · have h : readM ln M (l :: r) = (match l.step ln M with | none => Res.form ln | some M' => if M'.great ln = true then .much ln else readM (ln + 1) M' r) := rfl
    rw [List.singleton_append, h, e]
    exact if_neg (by rw [g]; decide)
  · rw [e] at e2
    obtain rfl := Option.some.inj e2
    exact h
def cpRows (ln : Int) : Nat → Rows
  | 0 => .nil
  | n + 1 => .row ln "copy" ["b"] ["b"] [] (cpRows (ln + 1) n)
theorem app_nil : ∀ r : Rows, r.app .nil = r
  | .nil => rfl
  | .row _ _ _ _ _ t => by show Rows.row _ _ _ _ _ (t.app .nil) = _; rw [app_nil t]
  | .rep _ _ _ t => by show Rows.rep _ _ _ (t.app .nil) = _; rw [app_nil t]
theorem app_assoc (y z : Rows) : ∀ r : Rows, (r.app y).app z = r.app (y.app z)
  | .nil => rfl
  | .row _ _ _ _ _ t => by show Rows.row _ _ _ _ _ ((t.app y).app z) = Rows.row _ _ _ _ _ (t.app (y.app z)); rw [app_assoc y z t]
  | .rep _ _ _ t => by show Rows.rep _ _ _ ((t.app y).app z) = Rows.rep _ _ _ (t.app (y.app z)); rw [app_assoc y z t]
theorem app_len (y : Rows) : ∀ r : Rows, (r.app y).len = r.len + y.len
  | .nil => by show y.len = 0 + y.len; omega
  | .row _ _ _ _ _ t => by show (t.app y).len + 1 = (t.len + 1) + y.len; rw [app_len y t]; omega
  | .rep _ _ _ t => by show (t.app y).len + 1 = (t.len + 1) + y.len; rw [app_len y t]; omega
theorem addR_nil (M : DM) : addR M .nil = M := by
  obtain ⟨wd, ins, rows, outs, loops, known, chosen⟩ := M
  cases loops with
  | nil => exact congrArg (fun z => DM.mk wd ins z outs [] known chosen) (app_nil rows)
  | cons y l => obtain ⟨a, b, c⟩ := y; exact congrArg (fun z => DM.mk wd ins rows outs ((a, b, z) :: l) known chosen) (app_nil c)
theorem addR_add (M : DM) (x y : Rows) : addR (addR M x) y = addR M (x.app y) := by
  obtain ⟨wd, ins, rows, outs, loops, known, chosen⟩ := M
  cases loops with
  | nil => exact congrArg (fun z => DM.mk wd ins z outs [] known chosen) (app_assoc x y rows)
  | cons z l => obtain ⟨a, b, c⟩ := z; exact congrArg (fun z => DM.mk wd ins rows outs ((a, b, z) :: l) known chosen) (app_assoc x y c)
theorem addR_keeps (M : DM) (x : Rows) : (addR M x).outs = M.outs ∧ (addR M x).loops.length = M.loops.length ∧ (addR M x).top.len = M.top.len + x.len := by
  obtain ⟨wd, ins, rows, outs, loops, known, chosen⟩ := M
  cases loops with
  | nil => exact ⟨rfl, rfl, by show (rows.app x).len = _; rw [app_len]; rfl⟩
  | cons z l => obtain ⟨a, b, c⟩ := z; exact ⟨rfl, rfl, by show (c.app x).len = _; rw [app_len]; rfl⟩
theorem name_b : NameOk isName "b" := nameB_ok (by decide +kernel)
theorem name_v : NameOk isName "v" := nameB_ok (by decide +kernel)
theorem great_no {ln : Int} {M : DM} (h1 : ln < 60) (h2 : M.known.length ≤ 30) (h3 : M.loops.length ≤ 3) : M.great ln = false := by
  unfold DM.great
  rw [decide_eq_false (by omega), decide_eq_false (by omega), decide_eq_false (by omega)]
  rfl
/-- a copy's line -/
theorem Rn.copy1 {x : Str} (hx : NameOk isName x) {ln : Int} {M : DM} (h0 : 0 < ln) (h1 : ln < 60) (ho : M.outs = []) (w4 : 4 ≤ M.wd) (w32 : M.wd ≤ 32) (hk : M.known = ([("b" : Str)] : List Str)) (hc : M.chosen = []) (hl : M.loops.length ≤ 3) (ht : M.top.len ≤ 1000) :
    Rn ln M [.copy "b" x] (ln + 1) (addR M (.row ln "copy" ["b"] [x] [] .nil)) := by
  have e : ({ M with known := putN M.known "b" } : DM) = M := by
    rw [hk, putN_in (by simp)]
    obtain ⟨wd, ins, rows, outs, loops, known, chosen⟩ := M
    cases hk
    rfl
  have k := addR_keeps M (.row ln "copy" ["b"] [x] [] .nil)
  have k0 := addR_known0 M (.row ln "copy" ["b"] [x] [] .nil)
  refine Rn.one (show some (addR { M with known := putN M.known "b" } _) = _ by rw [e]) (great_no h1 (by rw [k0.1, hk]; decide) (by rw [k.2.1]; exact hl)) ⟨h0, ho, ⟨name_b, hx⟩, w4, w32, by rw [hk]; decide, by rw [hc]; decide, ht⟩
theorem Rn.copies : ∀ (n : Nat) {ln : Int} {M : DM}, 0 < ln → ln + n ≤ 60 → M.outs = [] → 4 ≤ M.wd → M.wd ≤ 32 → M.known = ([("b" : Str)] : List Str) → M.chosen = [] → M.loops.length ≤ 3 → M.top.len + n ≤ 1000 →
    Rn ln M (List.replicate n (.copy "b" "b")) (ln + n) (addR M (cpRows ln n))
  | 0, ln, M, _, _, _, _, _, _, _, _, _ => by
    rw [show addR M (cpRows ln 0) = M from addR_nil M, show ln + ((0 : Nat) : Int) = ln by omega]
    exact Rn.nil
  | n + 1, ln, M, h0, h1, ho, w4, w32, hk, hc, hl, ht => by
    have k := addR_keeps M (.row ln "copy" ["b"] ["b"] [] .nil)
    have k0 := addR_known0 M (.row ln "copy" ["b"] ["b"] [] .nil)
    have a := Rn.copy1 name_b h0 (by omega) ho w4 w32 hk hc hl (by omega)
    have b := Rn.copies n (ln := ln + 1) (M := addR M (.row ln "copy" ["b"] ["b"] [] .nil)) (by omega) (by omega) (by rw [k.1]; exact ho) (by rw [k0.2.1]; exact w4) (by rw [k0.2.1]; exact w32) (by rw [k0.1]; exact hk) (by rw [k0.2.2]; exact hc) (by rw [k.2.1]; exact hl)
      (by rw [k.2.2]; show M.top.len + 1 + n ≤ 1000; omega)
    have c := a.app b
    rw [addR_add, show ln + 1 + (n : Int) = ln + ((n + 1 : Nat) : Int) by omega] at c
    exact c
/-! ### the fourth part: loops within loops, rows behind -/
theorem rep_all : ((List.range 32).all fun t => decide (numberIn (num ((t : Int) + 1)) 1 32 = some ((t : Int) + 1)) && (decide ((num ((t : Int) + 1)).length ≤ 100) && lineB (.rep ((t : Int) + 1)))) = true := by decide +kernel
theorem rep_fine {t : Int} (h1 : 1 ≤ t) (h2 : t ≤ 32) : numberIn (num t) 1 32 = some t ∧ (num t).length ≤ 100 ∧ lineB (.rep t) = true := by
  obtain ⟨n, rfl⟩ : ∃ n : Nat, t = (n : Int) + 1 := ⟨(t - 1).toNat, by omega⟩
  have h := List.all_eq_true.mp rep_all n (List.mem_range.mpr (by omega))
  simp only [Bool.and_eq_true, decide_eq_true_eq] at h
  exact h
/-- a loop's line -/
theorem Rn.rep1 {t ln : Int} {M : DM} (h1 : 1 ≤ t) (h2 : t ≤ 32) (h0 : 0 < ln) (h6 : ln < 60) (ho : M.outs = []) (hk : M.known.length ≤ 30) (hl : M.loops.length < 3) : Rn ln M [.rep t] (ln + 1) { M with loops := (ln, t, .nil) :: M.loops } := by
  have f := rep_fine h1 h2
  exact Rn.one rfl (great_no h6 hk (by show M.loops.length + 1 ≤ 3; omega)) ⟨h0, ho, f.1, f.2.1, by omega⟩
theorem num9 : numberIn (num 9) 4 32 = some 9 ∧ (num 9).length ≤ 100 := by decide +kernel
theorem Rn.w9 : Rn 0 DM0 [.width 9] 1 ⟨9, [], .nil, [], [], [], []⟩ := Rn.one rfl (by decide +kernel) ⟨rfl, rfl, rfl, num9.1, num9.2⟩
def lsR (x : Str) (t0 t1 : Int) (n m : Nat) : List Ln := [.width 9, .inp "b", .rep t0, .rep t1] ++ (.copy "b" x :: List.replicate n (.copy "b" "b")) ++ [.fin, .fin] ++ List.replicate m (.copy "b" "b") ++ [.out "b"]
def rowsR (x : Str) (t0 t1 : Int) (n m : Nat) : Rows := .rep 2 t0 (.rep 3 t1 (.row 4 "copy" ["b"] [x] [] (cpRows 5 n)) .nil) (cpRows (7 + n) m)
def dmR (x : Str) (t0 t1 : Int) (n m : Nat) : DM := ⟨9, [(1, "b")], rowsR x t0 t1 n m, [(7 + n + m, "b")], [], ["b"], []⟩
theorem lsR_run {x : Str} (hx : NameOk isName x) {t0 t1 : Int} {n m : Nat} (a0 : 1 ≤ t0) (a1 : t0 ≤ 32) (b0 : 1 ≤ t1) (b1 : t1 ≤ 32) (hn : n ≤ 5) (hm : m ≤ 45) : Rn 0 DM0 (lsR x t0 t1 n m) (8 + n + m) (dmR x t0 t1 n m) := by
  have r1 := Rn.w9
  have r2 : Rn 1 ⟨9, [], .nil, [], [], [], []⟩ [.inp "b"] 2 ⟨9, [(1, "b")], .nil, [], [], ["b"], []⟩ := Rn.one rfl (by decide +kernel) ⟨by decide, rfl, rfl, rfl, by decide +kernel, by decide +kernel, by decide, by decide, by decide, by decide⟩
  have r3 : Rn 2 ⟨9, [(1, "b")], .nil, [], [], ["b"], []⟩ [.rep t0] 3 ⟨9, [(1, "b")], .nil, [], [(2, t0, .nil)], ["b"], []⟩ := Rn.rep1 a0 a1 (by decide) (by decide) rfl (by decide) (by decide)
  have r4 : Rn 3 ⟨9, [(1, "b")], .nil, [], [(2, t0, .nil)], ["b"], []⟩ [.rep t1] 4 ⟨9, [(1, "b")], .nil, [], [(3, t1, .nil), (2, t0, .nil)], ["b"], []⟩ := Rn.rep1 b0 b1 (by decide) (by decide) rfl (by show 1 ≤ 30; decide) (by show 1 < 3; decide)
  have r5 : Rn 4 ⟨9, [(1, "b")], .nil, [], [(3, t1, .nil), (2, t0, .nil)], ["b"], []⟩ [.copy "b" x] 5 ⟨9, [(1, "b")], .nil, [], [(3, t1, .row 4 "copy" ["b"] [x] [] .nil), (2, t0, .nil)], ["b"], []⟩ :=
    Rn.copy1 hx (by decide) (by decide) rfl (by show (4 : Int) ≤ 9; decide) (by show (9 : Int) ≤ 32; decide) rfl rfl (by show 2 ≤ 3; decide) (by show 0 ≤ 1000; decide)
  have r6 := Rn.copies n (ln := 5) (M := ⟨9, [(1, "b")], .nil, [], [(3, t1, .row 4 "copy" ["b"] [x] [] .nil), (2, t0, .nil)], ["b"], []⟩) (by decide) (by omega) rfl (by show (4 : Int) ≤ 9; decide) (by show (9 : Int) ≤ 32; decide) rfl rfl (by show 2 ≤ 3; decide) (by show 1 + n ≤ 1000; omega)
  have r7 : Rn (5 + n) ⟨9, [(1, "b")], .nil, [], [(3, t1, .row 4 "copy" ["b"] [x] [] (cpRows 5 n)), (2, t0, .nil)], ["b"], []⟩ [.fin] (6 + n) ⟨9, [(1, "b")], .nil, [], [(2, t0, .rep 3 t1 (.row 4 "copy" ["b"] [x] [] (cpRows 5 n)) .nil)], ["b"], []⟩ := by
    have q := Rn.one (ln := 5 + n) (M := ⟨9, [(1, "b")], .nil, [], [(3, t1, .row 4 "copy" ["b"] [x] [] (cpRows 5 n)), (2, t0, .nil)], ["b"], []⟩) (l := .fin) (M' := ⟨9, [(1, "b")], .nil, [], [(2, t0, .rep 3 t1 (.row 4 "copy" ["b"] [x] [] (cpRows 5 n)) .nil)], ["b"], []⟩) rfl
      (great_no (by omega) (by show 1 ≤ 30; decide) (by show 1 ≤ 3; decide)) ⟨by omega, rfl, 3, t1, _, _, rfl, (fun z => by cases z), by show 0 ≤ 1000; decide⟩
    rw [show (5 : Int) + n + 1 = 6 + n by omega] at q
    exact q
  have r8 : Rn (6 + n) ⟨9, [(1, "b")], .nil, [], [(2, t0, .rep 3 t1 (.row 4 "copy" ["b"] [x] [] (cpRows 5 n)) .nil)], ["b"], []⟩ [.fin] (7 + n) ⟨9, [(1, "b")], .rep 2 t0 (.rep 3 t1 (.row 4 "copy" ["b"] [x] [] (cpRows 5 n)) .nil) .nil, [], [], ["b"], []⟩ := by
    have q := Rn.one (ln := 6 + n) (M := ⟨9, [(1, "b")], .nil, [], [(2, t0, .rep 3 t1 (.row 4 "copy" ["b"] [x] [] (cpRows 5 n)) .nil)], ["b"], []⟩) (l := .fin) (M' := ⟨9, [(1, "b")], .rep 2 t0 (.rep 3 t1 (.row 4 "copy" ["b"] [x] [] (cpRows 5 n)) .nil) .nil, [], [], ["b"], []⟩) rfl
      (great_no (by omega) (by show 1 ≤ 30; decide) (by show 0 ≤ 3; decide)) ⟨by omega, rfl, 2, t0, _, _, rfl, (fun z => by cases z), by show 0 ≤ 1000; decide⟩
    rw [show (6 : Int) + n + 1 = 7 + n by omega] at q
    exact q
  have r9 := Rn.copies m (ln := 7 + n) (M := ⟨9, [(1, "b")], .rep 2 t0 (.rep 3 t1 (.row 4 "copy" ["b"] [x] [] (cpRows 5 n)) .nil) .nil, [], [], ["b"], []⟩) (by omega) (by omega) rfl (by show (4 : Int) ≤ 9; decide) (by show (9 : Int) ≤ 32; decide) rfl rfl (by show 0 ≤ 3; decide) (by show 1 + m ≤ 1000; omega)
  have r10 : Rn (7 + n + m) ⟨9, [(1, "b")], rowsR x t0 t1 n m, [], [], ["b"], []⟩ [.out "b"] (8 + n + m) (dmR x t0 t1 n m) := by
    have q := Rn.one (ln := 7 + n + m) (M := ⟨9, [(1, "b")], rowsR x t0 t1 n m, [], [], ["b"], []⟩) (l := .out "b") (M' := dmR x t0 t1 n m) rfl (great_no (by omega) (by show 1 ≤ 30; decide) (by show 0 ≤ 3; decide)) ⟨by omega, rfl, by decide +kernel, by decide +kernel, by show 0 ≤ 1000; decide⟩
    rw [show (7 : Int) + n + m + 1 = 8 + n + m by omega] at q
    exact q
  have c := ((r1.app r2).app (r3.app r4)).app ((r5.app (r6.app (r7.app r8))).app (r9.app r10))
  have e : ([.width 9] ++ [.inp "b"] ++ ([.rep t0] ++ [.rep t1]) ++ ([.copy "b" x] ++ (List.replicate n (.copy "b" "b") ++ ([.fin] ++ [.fin])) ++ (List.replicate m (.copy "b" "b") ++ [.out "b"])) : List Ln) = lsR x t0 t1 n m := by
    unfold lsR
    simp only [List.append_assoc, List.cons_append, List.nil_append]
  rw [e] at c
  exact c
theorem cp_count : ∀ (n : Nat) (ln : Int), (cpRows ln n).count = n ∧ (cpRows ln n).depth = 0 ∧ (cpRows ln n).small ∧ (cpRows ln n).lookOk [] ∧ (cpRows ln n).total = n ∧ lookM (cpRows ln n) ["b"] = .ok ["b"]
  | 0, _ => ⟨rfl, rfl, trivial, trivial, rfl, rfl⟩
  | n + 1, ln => by
    obtain ⟨h1, h2, h3, h4, h5, h6⟩ := cp_count n (ln + 1)
    refine ⟨?_, h2, h3, ⟨by decide, .inr ⟨by simp, .inl rfl, _, rfl⟩, h4⟩, ?_, ?_⟩
    · show 1 + (cpRows (ln + 1) n).count = _; rw [h1]; omega
    · show (cpRows (ln + 1) n).total + 1 = _; rw [h5]
    · show lookM (cpRows (ln + 1) n) (([("b" : Str)] : List Str).foldl putN ([("b" : Str)] : List Str)) = _
      rw [show (["b"] : List Str).foldl putN ([("b" : Str)] : List Str) = ([("b" : Str)] : List Str) by decide +kernel]; exact h6
theorem lookM_rep {ln tm : Int} {b t : Rows} {ks : List Str} : lookM (.rep ln tm b t) ks = (match lookM b ks with | .un ln nm => .un ln nm | .ok ks' => lookM t ks') := rfl
def outR (x : Str) (c : Int) : Option (Str × Int) := if x = "b" then (if c > 600 then some ("much", -1) else none) else some ("unknown", 4)
theorem rows_good {x : Str} (hx : x = "b" ∨ x = "v") {t0 t1 : Int} {n m : Nat} (a0 : 1 ≤ t0) (a1 : t0 ≤ 32) (b0 : 1 ≤ t1) (b1 : t1 ≤ 32) (hn : n ≤ 5) (hm : m ≤ 45) :
    Good ((lsR x t0 t1 n m).map lnText) (lsR x t0 t1 n m) (outR x (t0 * (t1 * (1 + (n : Int))) + m)) ∧ ∀ M, readM 0 DM0 (lsR x t0 t1 n m) = .ok M → M.rows.count = t0 * (t1 * (1 + (n : Int))) + m := by
  have nx : NameOk isName x := by rcases hx with rfl | rfl; exact name_b; exact name_v
  have r := lsR_run nx a0 a1 b0 b1 hn hm
  have e : readM 0 DM0 (lsR x t0 t1 n m) = .ok (dmR x t0 t1 n m) := by
    have q := r.rd []
    rw [List.append_nil] at q
    exact q
  have lb : ∀ l ∈ lsR x t0 t1 n m, lineB l = true := fun l hl => by
    unfold lsR at hl
    simp only [List.mem_append, List.mem_cons, List.not_mem_nil, or_false, List.mem_replicate] at hl
    have cb : lineB (.copy "b" "b") = true := by decide +kernel
    have cx : lineB (.copy "b" x) = true := by rcases hx with rfl | rfl; exact cb; decide +kernel
    rcases hl with (((h | h) | h) | h) | h
    · rcases h with rfl | rfl | rfl | rfl
      · decide +kernel
      · decide +kernel
      · exact (rep_fine a0 a1).2.2
      · exact (rep_fine b0 b1).2.2
    · rcases h with rfl | h
      · exact cx
      · rw [h.2]; exact cb
    · rcases h with rfl | rfl <;> decide +kernel
    · rw [h.2]; exact cb
    · rw [h]; decide +kernel
  have t := text_of lb (by unfold lsR; simp) (by unfold lsR; simp only [List.length_append, List.length_cons, List.length_nil, List.length_replicate]; omega)
  obtain ⟨c1, c2, c3, c4, c5, c6⟩ := cp_count n 5
  obtain ⟨d1, d2, d3, d4, d5, d6⟩ := cp_count m (7 + n)
  have cnt : (rowsR x t0 t1 n m).count = t0 * (t1 * (1 + (n : Int))) + m := by
    show t0 * (t1 * (1 + (cpRows 5 n).count) + 0) + (cpRows (7 + n) m).count = _
    rw [c1, d1, Int.add_zero]
  have p1 : 0 ≤ t1 * (1 + (n : Int)) ∧ t1 * (1 + (n : Int)) ≤ 192 := by
    have h1 : (0 : Int) ≤ 1 + n := by omega
    refine ⟨Int.mul_nonneg (by omega) h1, ?_⟩
    have h2 := Int.mul_le_mul b1 (show (1 + (n : Int)) ≤ 6 by omega) h1 (by decide)
    omega
  have p2 : 0 ≤ t0 * (t1 * (1 + (n : Int))) ∧ t0 * (t1 * (1 + (n : Int))) ≤ 6144 := by
    refine ⟨Int.mul_nonneg (by omega) p1.1, ?_⟩
    have h2 := Int.mul_le_mul a1 p1.2 p1.1 (by decide)
    omega
  have lk : x = "b" → lookM (rowsR x t0 t1 n m) ["b"] = .ok ["b"] := by
    rintro rfl
    have h1 : lookM (.row 4 "copy" ["b"] ["b"] [] (cpRows 5 n)) ["b"] = .ok ["b"] := by
      show lookM (cpRows 5 n) (([("b" : Str)] : List Str).foldl putN ([("b" : Str)] : List Str)) = _
      rw [show ([("b" : Str)] : List Str).foldl putN ([("b" : Str)] : List Str) = ([("b" : Str)] : List Str) by decide +kernel]
      exact c6
    have h2 : lookM (.rep 3 t1 (.row 4 "copy" ["b"] ["b"] [] (cpRows 5 n)) .nil) ["b"] = .ok ["b"] := by
      rw [lookM_rep, h1]
      rfl
    unfold rowsR
    rw [lookM_rep, h2]
    exact d6
  have lv : x ≠ "b" → lookM (rowsR x t0 t1 n m) ["b"] = .un 4 "v" := by
    intro h
    obtain rfl := hx.resolve_left h
    rfl
  have fin : (dmR x t0 t1 n m).Fin (fun _ => True) := by
    refine ⟨?_, by show 1 ≤ 1000; decide, by show 1 ≤ 1000; decide, ?_, ?_, ?_, ?_, ?_, ?_, fun k hk y hy => ?_⟩
    · show (["b"] : List Str).Nodup; simp
    · show max (max ((cpRows 5 n).depth + 1) 0 + 1) (cpRows (7 + n) m).depth < 9
      rw [c2, d2]; decide
    · refine ⟨by omega, by omega, ?_, ⟨by omega, by omega, ?_, c3, trivial⟩, d3⟩
      · show t1 * (1 + (cpRows 5 n).count) + 0 ≤ _
        rw [c1]; omega
      · show 1 + (cpRows 5 n).count ≤ _
        rw [c1]; omega
    · show (rowsR x t0 t1 n m).count ≤ _
      rw [cnt]; omega
    · exact ⟨⟨⟨by decide, .inr ⟨by simp [dmR], .inl rfl, _, rfl⟩, c4⟩, trivial⟩, d4⟩
    · show 1 + 3 * (((cpRows 5 n).total + 1 + 0) + (cpRows (7 + n) m).total) ≤ 50000
      rw [c5, d5]; omega
    · show (["b"] : List Str).Nodup; simp
    · have hk' : lookM (rowsR x t0 t1 n m) ["b"] = .ok k := hk
      by_cases hb : x = "b"
      · rw [lk hb] at hk'
        cases hk'
        exact hy
      · rw [lv hb] at hk'
        cases hk'
  refine ⟨⟨t.1, t.2, ?_, fun M hM => ?_, ?_⟩, fun M hM => ?_⟩
  · have q := r.so [] ⟨rfl, by show [_] ≠ []; simp⟩
    rw [List.append_nil] at q
    exact q
  · rw [e] at hM
    cases hM
    exact fin
  · unfold progOut outR
    rw [e]
    show (match lookM (rowsR x t0 t1 n m) ["b"] with | .un ln _ => some (("unknown" : Str), ln) | .ok _ => if (rowsR x t0 t1 n m).count > 600 then some (("much" : Str), (-1 : Int)) else none) = _
    by_cases hb : x = "b"
    · rw [lk hb, if_pos hb, cnt]
    · rw [lv hb, if_neg hb]
  · rw [e] at hM
    cases hM
    exact cnt
/-! ### the third part: more than three loops -/
def lsD (ts : List Int) : List Ln := [.width 9] ++ ts.map (fun t => Ln.rep t) ++ [.set "b" 3] ++ List.replicate ts.length .fin ++ [.out "b"]
theorem loops_good {t1 t2 t3 t4 : Int} {ts : List Int} (h : ∀ t ∈ t1 :: t2 :: t3 :: t4 :: ts, 1 ≤ t ∧ t ≤ 3) (hl : ts.length ≤ 10) :
    Good ((lsD (t1 :: t2 :: t3 :: t4 :: ts)).map lnText) (lsD (t1 :: t2 :: t3 :: t4 :: ts)) (some ("much", 4)) := by
  have hr : ∀ t ∈ t1 :: t2 :: t3 :: t4 :: ts, 1 ≤ t ∧ t ≤ 32 := fun t ht => by have := h t ht; omega
  have h1 := hr t1 (by simp)
  have h2 := hr t2 (by simp)
  have h3 := hr t3 (by simp)
  have h4 := hr t4 (by simp)
  have lb : ∀ l ∈ lsD (t1 :: t2 :: t3 :: t4 :: ts), lineB l = true := fun l hm => by
    unfold lsD at hm
    simp only [List.mem_append, List.mem_cons, List.not_mem_nil, or_false, List.mem_replicate, List.mem_map] at hm
    rcases hm with (((hm | hm) | hm) | hm) | hm
    · rw [hm]; decide +kernel
    · obtain ⟨t, ht, rfl⟩ := hm
      have q := hr t (by simpa using ht)
      exact (rep_fine q.1 q.2).2.2
    · rw [hm]; decide +kernel
    · rw [hm.2]; decide +kernel
    · rw [hm]; decide +kernel
  have t := text_of lb (by unfold lsD; simp) (by unfold lsD; simp only [List.length_append, List.length_cons, List.length_nil, List.length_replicate, List.length_map]; omega)
  have r1 := Rn.w9
  have r2 : Rn 1 ⟨9, [], .nil, [], [], [], []⟩ [.rep t1] 2 ⟨9, [], .nil, [], [(1, t1, .nil)], [], []⟩ := Rn.rep1 h1.1 h1.2 (by decide) (by decide) rfl (by decide) (by decide)
  have r3 : Rn 2 ⟨9, [], .nil, [], [(1, t1, .nil)], [], []⟩ [.rep t2] 3 ⟨9, [], .nil, [], [(2, t2, .nil), (1, t1, .nil)], [], []⟩ := Rn.rep1 h2.1 h2.2 (by decide) (by decide) rfl (by show 0 ≤ 30; decide) (by show 1 < 3; decide)
  have r4 : Rn 3 ⟨9, [], .nil, [], [(2, t2, .nil), (1, t1, .nil)], [], []⟩ [.rep t3] 4 ⟨9, [], .nil, [], [(3, t3, .nil), (2, t2, .nil), (1, t1, .nil)], [], []⟩ := Rn.rep1 h3.1 h3.2 (by decide) (by decide) rfl (by show 0 ≤ 30; decide) (by show 2 < 3; decide)
  have r := (r1.app r2).app (r3.app r4)
  have e : lsD (t1 :: t2 :: t3 :: t4 :: ts) = ([.width 9] ++ [.rep t1] ++ ([.rep t2] ++ [.rep t3])) ++ (.rep t4 :: (ts.map (fun t => Ln.rep t) ++ [.set "b" 3] ++ List.replicate (ts.length + 4) .fin ++ [.out "b"])) := by
    unfold lsD
    simp only [List.map_cons, List.length_cons, List.append_assoc, List.cons_append, List.nil_append]
  generalize htl : (ts.map (fun t => Ln.rep t) ++ [.set "b" 3] ++ List.replicate (ts.length + 4) Ln.fin ++ [.out "b"]) = tl at *
  have m : readM 0 DM0 (lsD (t1 :: t2 :: t3 :: t4 :: ts)) = .much 4 := by
    rw [e, r.rd]
    rfl
  refine ⟨t.1, t.2, ?_, fun M hM => ?_, ?_⟩
  · rw [e]
    refine r.so _ ⟨⟨by decide, rfl, (rep_fine h4.1 h4.2).1, (rep_fine h4.1 h4.2).2.1, by show 3 ≤ 1000; decide⟩, fun M' hs hg => ?_⟩
    obtain rfl := Option.some.inj hs
    exact absurd (show (decide ((4 : Int) ≥ 60) || (decide (0 > 30) || decide (4 > 3))) = false from hg) (by decide)
  · rw [m] at hM
    cases hM
  · unfold progOut
    rw [m]

end
section
variable {P : Program} {w : World} {K : PySem.W.Frag} {mg : Str → Option Value} {base : Heap}
/-! ### the second part: names -/
def chN (s : Str) (i : Nat) : Nat := s.cps.toList.getD i 0
def nameN (k : Nat) : Str := ⟨#[103, [98, 99, 100, 102, 103, 104, 105, 106].getD (k % 8) 0, [107, 108, 113, 118, 120].getD (k / 8) 0]⟩
theorem nameN_ok : ((List.range 34).all fun k => decide ((("g" : Str) ++ (⟨#[chN "bcdfghij" (k % 8)]⟩ : Str)) ++ (⟨#[chN "klqvx" (k / 8)]⟩ : Str) = nameN k)) = true := by decide +kernel
theorem ch_ok : ((List.range 34).all fun k => decide (atI ("bcdfghij" : Str).cps.toList ((k : Int) % 8) = some (chN "bcdfghij" (k % 8))) && decide (atI ("klqvx" : Str).cps.toList ((k : Int) / 8) = some (chN "klqvx" (k / 8)))) = true := by decide +kernel
def nm2 (k : Nat) (acc : List Ln) : List Ln := if k % 4 = 0 then acc ++ [.set (nameN k) 2] else acc
def nmRun (many : Nat) : Nat → Nat → List Ln → List Ln
  | 0, _, acc => acc
  | f + 1, k, acc => if k < many then
      (if 0 < k ∧ k % 3 = 2 ∧ k + 1 < many then nmRun many f (k + 2) (nm2 (k + 1) (acc ++ [.part (nameN k) (nameN (k + 1)) (nameN 0)]))
       else nmRun many f (k + 1) (nm2 k (acc ++ [.set (nameN k) 1]))) else acc
def nmIns (ins : Nat) : List Ln := .width 5 :: (List.range ins).map (fun k => .inp (nameN k))
def nmLs (many ins : Nat) : List Ln := nmRun many 40 ins (nmIns ins)
def inS (a z : Str) : Bool := !(Builtin.Str.occurrences z a 0 z.length 1).isEmpty
/-- the places of the lines with a name in them -/
def plcs (a : Str) (ls : List Ln) : List Nat := (List.range ls.length).filter fun i => inS a (lnText (ls.getD i .fin))
def insQ (at_ : Int) (ins : Nat) : Int := at_ + (if (ins : Int) < at_ then 1 else 0)
def due1N (many : Nat) (at_ : Int) : Option (Str × Int) := if many > 30 then some ("much", at_) else none
def due2N (many ins : Nat) (at_ : Int) : Option (Str × Int) := if many > 30 then some ("much", insQ at_ ins) else some ("unknown", (ins : Int) + 1)
def putL (ins : Nat) (x : Ln) (ls : List Ln) : List Ln := ls.take (ins + 1) ++ [x] ++ ls.drop (ins + 1)
/-! ### quicker checks: what hangs on the line alone, and what on the draft -/
def fineB : Ln → Bool
  | .width w => decide (numberIn (num w) 4 32 = some w) && decide ((num w).length ≤ 100)
  | .inp nm => isName nm && decide (nm.length ≤ 100)
  | .out nm => isName nm && decide (nm.length ≤ 100)
  | .rep n => decide (numberIn (num n) 1 32 = some n) && decide ((num n).length ≤ 100)
  | .fin => true
  | l => rowB l
def soundQ (ln : Int) (M : DM) : Ln → Bool
  | .width _ => decide (ln = 0) && (M.ins.isEmpty && M.chosen.isEmpty)
  | .inp _ => decide (0 < ln) && ((match M.rows with | .nil => true | _ => false) && (M.loops.isEmpty && (M.outs.isEmpty && (decide (4 ≤ M.wd) && (decide (M.wd ≤ 32) && (decide (M.ins.length ≤ 1000) && decide (M.known.length ≤ 1000)))))))
  | .out _ => decide (0 < ln) && (M.loops.isEmpty && decide (M.outs.length ≤ 1000))
  | .rep _ => decide (0 < ln) && (M.outs.isEmpty && decide (M.loops.length ≤ 1000))
  | .fin => false
  | _ => decide (0 < ln) && (M.outs.isEmpty && (decide (4 ≤ M.wd) && (decide (M.wd ≤ 32) && (decide (M.known.length ≤ 1000) && (decide (M.chosen.length ≤ 1000) && decide (M.top.len ≤ 1000))))))
theorem soundQ_ok {ln : Int} {M : DM} {l : Ln} (f : fineB l = true) (h : soundQ ln M l = true) : l.sound ln M := by
  cases l
  case fin => cases h
  case inp nm =>
    simp only [fineB, soundQ, Bool.and_eq_true, decide_eq_true_eq, List.isEmpty_iff] at f h
    obtain ⟨h1, h2, h3, h4, h5, h6, h7, h8⟩ := h
    refine ⟨h1, ?_, h3, h4, f.1, f.2, h5, h6, h7, h8⟩
    revert h2
    cases M.rows <;> simp
  case width w =>
    simp only [fineB, soundQ, Bool.and_eq_true, decide_eq_true_eq, List.isEmpty_iff] at f h
    exact ⟨h.1, h.2.1, h.2.2, f.1, f.2⟩
  case out nm =>
    simp only [fineB, soundQ, Bool.and_eq_true, decide_eq_true_eq, List.isEmpty_iff] at f h
    exact ⟨h.1, h.2.1, f.1, f.2, h.2.2⟩
  case rep n =>
    simp only [fineB, soundQ, Bool.and_eq_true, decide_eq_true_eq, List.isEmpty_iff] at f h
    exact ⟨h.1, h.2.1, f.1, f.2, h.2.2⟩
  case copy g b =>
    simp only [fineB, soundQ, Bool.and_eq_true, decide_eq_true_eq, List.isEmpty_iff] at f h
    exact ⟨h.1, h.2.1, rowB_ok f, h.2.2⟩
  case bad g =>
    simp only [fineB, soundQ, Bool.and_eq_true, decide_eq_true_eq, List.isEmpty_iff] at f h
    exact ⟨h.1, h.2.1, rowB_ok f, h.2.2⟩
  case part g h' b =>
    simp only [fineB, soundQ, Bool.and_eq_true, decide_eq_true_eq, List.isEmpty_iff] at f h
    exact ⟨h.1, h.2.1, rowB_ok f, h.2.2⟩
  case set g n =>
    simp only [fineB, soundQ, Bool.and_eq_true, decide_eq_true_eq, List.isEmpty_iff] at f h
    exact ⟨h.1, h.2.1, rowB_ok f, h.2.2⟩
def runQ : Int → DM → List Ln → Option Res
  | _, M, [] => if M.loops.isEmpty && !M.outs.isEmpty then some (.ok M) else none
  | ln, M, l :: r => if soundQ ln M l then (match l.step ln M with
    | none => some (.form ln)
    | some M' => if M'.great ln = true then some (.much ln) else runQ (ln + 1) M' r) else none
theorem runQ_ok : ∀ {ls : List Ln} {ln : Int} {M : DM} {R : Res}, (∀ l ∈ ls, fineB l = true) → runQ ln M ls = some R → SoundAll ln M ls ∧ readM ln M ls = R
  | [], ln, M, R, _, h => by
    unfold runQ at h
    by_cases c : (M.loops.isEmpty && !M.outs.isEmpty) = true
    · rw [if_pos c] at h
      simp only [Bool.and_eq_true, List.isEmpty_iff, Bool.not_eq_true', List.isEmpty_eq_false_iff] at c
      exact ⟨c, Option.some.inj h⟩
    · rw [if_neg c] at h; cases h
  | l :: r, ln, M, R, f, h => by
    unfold runQ at h
    by_cases c : soundQ ln M l = true
    · rw [if_pos c] at h
      have s := soundQ_ok (f l List.mem_cons_self) c
      have e : readM ln M (l :: r) = (match l.step ln M with | none => Res.form ln | some M' => if M'.great ln = true then .much ln else readM (ln + 1) M' r) := rfl
      rw [e]
      cases hs : l.step ln M with
      | none =>
        rw [hs] at h
        exact ⟨⟨s, fun M' h' _ => by rw [hs] at h'; cases h'⟩, Option.some.inj h⟩
      | some M1 =>
        rw [hs] at h
        dsimp only at h ⊢
        by_cases g : M1.great ln = true
        · rw [if_pos g] at h ⊢
          refine ⟨⟨s, fun M' h' g' => ?_⟩, Option.some.inj h⟩
          rw [hs] at h'
          rw [← Option.some.inj h', g] at g'
          cases g'
        · rw [if_neg g] at h ⊢
          have ih := runQ_ok (fun x hx => f x (List.mem_cons_of_mem _ hx)) h
          refine ⟨⟨s, fun M' h' g' => ?_⟩, ih.2⟩
          rw [hs] at h'
          rw [← Option.some.inj h']
          exact ih.1
    · rw [if_neg c] at h; cases h
def goodQ (ls : List Ln) (o : Option (Str × Int)) : Bool := match runQ 0 DM0 ls with
  | none => false
  | some (.form ln) => decide (some (("form" : Str), ln) = o)
  | some (.much ln) => decide (some (("much" : Str), ln) = o)
  | some (.ok M) => finB M && decide ((match lookM M.rows (M.ins.map Prod.snd) with
    | .un ln _ => some ("unknown", ln)
    | .ok _ => if M.rows.count > 600 then some (("much" : Str), (-1 : Int)) else none) = o)
theorem goodQ_ok {ls : List Ln} {o : Option (Str × Int)} (f : ∀ l ∈ ls, lineB l = true ∧ fineB l = true) (hn : ls ≠ []) (hl : ls.length ≤ 200) (h : goodQ ls o = true) : Good (ls.map lnText) ls o := by
  have t := text_of (fun l hm => (f l hm).1) hn hl
  unfold goodQ at h
  cases hr : runQ 0 DM0 ls with
  | none => rw [hr] at h; cases h
  | some R =>
    obtain ⟨so, rd⟩ := runQ_ok (fun l hm => (f l hm).2) hr
    rw [hr] at h
    cases R with
    | form ln =>
      refine ⟨t.1, t.2, so, (fun M hM => by rw [rd] at hM; cases hM), ?_⟩
      unfold progOut
      rw [rd]
      exact of_decide_eq_true h
    | much ln =>
      refine ⟨t.1, t.2, so, (fun M hM => by rw [rd] at hM; cases hM), ?_⟩
      unfold progOut
      rw [rd]
      exact of_decide_eq_true h
    | ok M =>
      have h2 := Bool.and_eq_true_iff.mp h
      refine ⟨t.1, t.2, so, fun M' hM => ?_, ?_⟩
      · rw [rd] at hM; cases hM; exact finB_ok h2.1
      · unfold progOut
        rw [rd]
        exact of_decide_eq_true h2.2
/-! ### all lines that are told here -/
def hasB : Ln → Bool
  | .inp nm => decide (nm = nameN 30)
  | .out nm => decide (nm = nameN 30)
  | .set g _ => decide (g = nameN 30)
  | .part g h _ => decide (g = nameN 30) || decide (h = nameN 30)
  | _ => false
def nameLs (k : Nat) : List Ln := [.inp (nameN k), .set (nameN k) 1, .set (nameN k) 2, .out (nameN k)] ++ (if k % 3 = 2 ∧ k + 1 < 34 then [.part (nameN k) (nameN (k + 1)) (nameN 0)] else [])
def allLs : List Ln := [.width 5, .copy (nameN 0) "zz"] ++ (List.range 34).flatMap nameLs
theorem allLs_ok : (allLs.all fun l => lineB l && (fineB l && (inS (nameN 30) (lnText l) == hasB l))) = true := by decide +kernel
theorem all_fine {l : Ln} (h : l ∈ allLs) : (lineB l = true ∧ fineB l = true) ∧ inS (nameN 30) (lnText l) = hasB l := by
  have q := List.all_eq_true.mp allLs_ok l h
  simp only [Bool.and_eq_true, beq_iff_eq] at q
  exact ⟨⟨q.1, q.2.1⟩, q.2.2⟩
theorem in_all {k : Nat} {l : Ln} (hk : k < 34) (h : l ∈ nameLs k) : l ∈ allLs := List.mem_append_right _ (List.mem_flatMap.mpr ⟨k, List.mem_range.mpr hk, h⟩)
theorem nm2_all {k : Nat} {acc : List Ln} (hk : k < 34) (h : ∀ l ∈ acc, l ∈ allLs) : ∀ l ∈ nm2 k acc, l ∈ allLs := by
  unfold nm2
  split
  · intro l hl
    rcases List.mem_append.mp hl with q | q
    · exact h l q
    · exact in_all hk (by rw [List.mem_singleton.mp q]; simp [nameLs])
  · exact h
theorem nmRun_all {many : Nat} (hm : many ≤ 34) : ∀ (f k : Nat) (acc : List Ln), (∀ l ∈ acc, l ∈ allLs) → ∀ l ∈ nmRun many f k acc, l ∈ allLs
  | 0, _, _, h => h
  | f + 1, k, acc, h => by
    unfold nmRun
    split
    · rename_i hk
      split
      · rename_i c
        refine nmRun_all hm f _ _ (nm2_all (by omega) fun l hl => ?_)
        rcases List.mem_append.mp hl with q | q
        · exact h l q
        · refine in_all (k := k) (by omega) ?_
          rw [List.mem_singleton.mp q]
          unfold nameLs
          rw [if_pos ⟨c.2.1, by omega⟩]
          simp
      · refine nmRun_all hm f _ _ (nm2_all (by omega) fun l hl => ?_)
        rcases List.mem_append.mp hl with q | q
        · exact h l q
        · exact in_all (k := k) (by omega) (by rw [List.mem_singleton.mp q]; simp [nameLs])
    · exact h
theorem nmIns_all {ins : Nat} (h : ins ≤ 34) : ∀ l ∈ nmIns ins, l ∈ allLs := by
  intro l hl
  unfold nmIns at hl
  rcases List.mem_cons.mp hl with q | q
  · rw [q]; simp [allLs]
  · obtain ⟨k, hk, rfl⟩ := List.mem_map.mp q
    exact in_all (k := k) (by have := List.mem_range.mp hk; omega) (by simp [nameLs])
theorem nmLs_all {many ins : Nat} (hm : many ≤ 34) (hi : ins ≤ 34) : ∀ l ∈ nmLs many ins, l ∈ allLs := nmRun_all hm _ _ _ (nmIns_all hi)
def plcsQ (ls : List Ln) : List Nat := (List.range ls.length).filter fun i => hasB (ls.getD i .fin)
theorem plcs_eq {ls : List Ln} (h : ∀ l ∈ ls, l ∈ allLs) : plcs (nameN 30) ls = plcsQ ls := by
  unfold plcs plcsQ
  refine List.filter_congr fun i hi => ?_
  have hl := List.mem_range.mp hi
  refine (all_fine (h _ ?_)).2
  rw [List.getD_eq_getElem?_getD, List.getElem?_eq_getElem hl]
  exact List.getElem_mem hl
def nmCase (many ins : Nat) (ls : List Ln) (ps : List Nat) : Bool :=
  goodQ (ls ++ [Ln.out (nameN (many - 1))]) (due1N many (ps.headD 0)) &&
  (goodQ (putL ins (.copy (nameN 0) "zz") ls ++ [Ln.out (nameN (many - 1))]) (due2N many ins (ps.headD 0)) &&
    ((decide (many ≤ 30) || !ps.isEmpty) && decide (ls.length ≤ 100)))
def nmAll (many : Nat) : Bool := (List.range 20).all fun ins => nmCase many ins (nmLs many ins) (plcsQ (nmLs many ins))
theorem nm28 : nmAll 28 = true := by decide +kernel
theorem nm29 : nmAll 29 = true := by decide +kernel
theorem nm30 : nmAll 30 = true := by decide +kernel
theorem nm31 : nmAll 31 = true := by decide +kernel
theorem nm32 : nmAll 32 = true := by decide +kernel
theorem nm33 : nmAll 33 = true := by decide +kernel
theorem nm34 : nmAll 34 = true := by decide +kernel
theorem nm_good {r ins : Nat} (hr : r < 7) (hi : ins < 20) : 
    Good ((nmLs (28 + r) ins ++ [Ln.out (nameN (28 + r - 1))]).map lnText) (nmLs (28 + r) ins ++ [Ln.out (nameN (28 + r - 1))]) (due1N (28 + r) ((plcs (nameN 30) (nmLs (28 + r) ins)).headD 0)) ∧
    Good ((putL ins (.copy (nameN 0) "zz") (nmLs (28 + r) ins) ++ [Ln.out (nameN (28 + r - 1))]).map lnText) (putL ins (.copy (nameN 0) "zz") (nmLs (28 + r) ins) ++ [Ln.out (nameN (28 + r - 1))]) (due2N (28 + r) ins ((plcs (nameN 30) (nmLs (28 + r) ins)).headD 0)) ∧
    (28 + r > 30 → plcs (nameN 30) (nmLs (28 + r) ins) ≠ []) ∧ (nmLs (28 + r) ins).length ≤ 100 := by
  have a : nmAll (28 + r) = true := by
    obtain rfl | rfl | rfl | rfl | rfl | rfl | rfl : r = 0 ∨ r = 1 ∨ r = 2 ∨ r = 3 ∨ r = 4 ∨ r = 5 ∨ r = 6 := by omega
    · exact nm28
    · exact nm29
    · exact nm30
    · exact nm31
    · exact nm32
    · exact nm33
    · exact nm34
  have c := List.all_eq_true.mp a ins (List.mem_range.mpr hi)
  have al := nmLs_all (many := 28 + r) (ins := ins) (by omega) (by omega)
  rw [← plcs_eq al] at c
  simp only [nmCase, Bool.and_eq_true, Bool.or_eq_true, decide_eq_true_eq, Bool.not_eq_true', List.isEmpty_eq_false_iff] at c
  obtain ⟨c1, c2, c3, c4⟩ := c
  have ho : Ln.out (nameN (28 + r - 1)) ∈ allLs := in_all (k := 28 + r - 1) (by omega) (by simp [nameLs])
  have hz : Ln.copy (nameN 0) "zz" ∈ allLs := by simp [allLs]
  refine ⟨goodQ_ok (fun l hl => ?_) (by simp) (by rw [List.length_append]; show _ + 1 ≤ _; omega) c1, goodQ_ok (fun l hl => ?_) (by simp) ?_ c2, fun h => c3.resolve_left (by omega), c4⟩
  · rcases List.mem_append.mp hl with q | q
    · exact (all_fine (al l q)).1
    · rw [List.mem_singleton.mp q]; exact (all_fine ho).1
  · rcases List.mem_append.mp hl with q | q
    · unfold putL at q
      rcases List.mem_append.mp q with q | q
      · rcases List.mem_append.mp q with q | q
        · exact (all_fine (al l (List.mem_of_mem_take q))).1
        · rw [List.mem_singleton.mp q]; exact (all_fine hz).1
      · exact (all_fine (al l (List.mem_of_mem_drop q))).1
    · rw [List.mem_singleton.mp q]; exact (all_fine ho).1
  · unfold putL
    simp only [List.length_append, List.length_take, List.length_drop, List.length_cons, List.length_nil]
    omega

end
section
variable {P : Program} {w : World} {K : PySem.W.Frag} {mg : Str → Option Value} {base : Heap}
theorem set12 : (" = set plain " : Str) ++ num 1 = (" = set plain 1" : Str) ∧ (" = set plain " : Str) ++ num 2 = (" = set plain 2" : Str) ∧ (" = copy " : Str) ++ ("zz" : Str) = (" = copy zz" : Str) ∧ (("width " : Str) ++ num 5 : Str) = ("width 5" : Str) := by decide +kernel
theorem lnT_set {g : Str} : g ++ (" = set plain 1" : Str) = lnText (.set g 1) ∧ g ++ (" = set plain 2" : Str) = lnText (.set g 2) ∧ g ++ (" = copy zz" : Str) = lnText (.copy g "zz") := by
  obtain ⟨h1, h2, h3, _⟩ := set12
  exact ⟨by rw [← h1]; rfl, by rw [← h2]; rfl, by rw [← h3]; rfl⟩
def namesL (many : Nat) : List Str := (List.range many).map nameN
theorem namesL_at {many k : Nat} (h : k < many) : ((namesL many).map V.str)[k]? = some (V.str (nameN k)) := by
  unfold namesL
  rw [List.getElem?_map, List.getElem?_map, List.getElem?_range h]
  rfl
theorem nameN_len (k : Nat) : (nameN k).length = 3 := rfl
theorem lineLen (l : Ln) (h : l ∈ allLs) : (lnText l).length ≤ 100 := by
  have q := (all_fine h).1.1
  unfold lineB at q
  simp only [Bool.and_eq_true, decide_eq_true_eq] at q
  exact q.2.1
theorem nmRun_done {many : Nat} : ∀ (f k : Nat) (acc : List Ln), many ≤ k → nmRun many f k acc = acc
  | 0, _, _, _ => rfl
  | f + 1, k, acc, h => by unfold nmRun; rw [if_neg (by omega)]
theorem nm2_len {k : Nat} {acc : List Ln} : (nm2 k acc).length ≤ acc.length + 1 := by
  unfold nm2
  split
  · rw [List.length_append]; exact Nat.le_refl _
  · omega
theorem shM (a : Int) : SeqAt.shaped (dO (some ("much", a))) = true := by
  simp [dO, SeqAt.shaped, PyData.canLay0, PyData.canLayAll0, PyData.depth, PyData.depthAll]; decide +kernel
theorem shU (a : Int) : SeqAt.shaped (dO (some ("unknown", a))) = true := by
  simp [dO, SeqAt.shaped, PyData.canLay0, PyData.canLayAll0, PyData.depth, PyData.depthAll]; decide +kernel
theorem shN : SeqAt.shaped (dO none) = true := by decide +kernel
theorem sh1 (many : Nat) (a : Int) : SeqAt.shaped (dO (due1N many a)) = true := by
  unfold due1N; split
  · exact shM a
  · exact shN
theorem sh2 (many ins : Nat) (a : Int) : SeqAt.shaped (dO (due2N many ins a)) = true := by
  unfold due2N; split
  · exact shM _
  · exact shU _
abbrev N_L_names_right : List Str := ["_law_box_here", "_law_many", "_law_ins", "_law_names", "_law_k", "_law_lines", "_law_name", "_law_at", "_law_line", "_law_due"]
theorem sc_L_names_right : FnScope ["_law_box_here", "_law_many", "_law_ins", "_law_names", "_law_k", "_law_lines", "_law_name", "_law_at", "_law_line", "_law_due"] ["_law_box_here"] (defScope s_L_names_right) := ⟨rfl, rfl, rfl, by decide +kernel, rfl, by decide +kernel, by decide +kernel⟩
theorem ok_L_names_right {f : Addr} {fd : FuncData} (T : Tx K mg)  (F : FunP K "_law_names_right" "_law_names_right" s_L_names_right f fd) : FnOk P w K mg base (L2.CX P w) 43 f fd ["_law_box_here"] (sp_box K) := by
  refine F.ok sc_L_names_right (fun vs H Q E h => ?_) (fun cdv A outer s H vs Q E hr h => ?_)
  · repeat first | (obtain ⟨e, _⟩ := h; subst e; rfl; done) | (obtain ⟨_, h⟩ := h)
  refine ⟨_, (pss_cons (ps_set (i := 1) sc_L_names_right.nd rfl (Or.inl rfl) (pe_op op_add pe_int (pe_cX (cal_L_take T) hr (by decide) rfl pU (pa_cons (pv 0) (pa_cons pe_int pa_nil)))))
  (pss_cons (ps_set (i := 2) sc_L_names_right.nd rfl (Or.inl rfl) (pe_cX (cal_L_take T) hr (by decide) rfl pU (pa_cons (pv 0) (pa_cons pe_int pa_nil))))
  (pss_cons (ps_set (i := 3) sc_L_names_right.nd rfl (Or.inr rfl) (pe_lc (own := [("_law_k", 4)]) (g := gName 4) (tt := tYes) rfl sc_L_names_right.nd (pi_range1 rfl (fr_range T) (pa_cons (pv 1) pa_nil)) (blkOk_by (N := N_L_names_right) (sc := defScope s_L_names_right) (by decide +kernel)) (fun _ _ _ _ _ => (pg_name (i := 4) sc_L_names_right.nd rfl (Or.inl rfl))) (fun _ _ _ _ _ => pts_nil) (fun _ _ _ _ _ => (pe_op op_add_str (pe_op op_add_str pe_str (pe_ix ix_str pe_str (pe_op op_mod (pv 4) pe_int) (fun _ _ => rfl))) (pe_ix ix_str pe_str (pe_op op_fdiv (pv 4) pe_int) (fun _ _ => rfl))))))
  (pss_cons (ps_set (i := 5) sc_L_names_right.nd rfl (Or.inl rfl) (pe_op op_cat (pe_lst (pa_cons pe_str pa_nil)) (pe_lc (own := [("_law_name", 6)]) (g := gName 6) (tt := tYes) rfl sc_L_names_right.nd (pi_list (pe_slice sl_list (pv 3) po_none (po_some (pv 2)))) (blkOk_by (N := N_L_names_right) (sc := defScope s_L_names_right) (by decide +kernel)) (fun _ _ _ _ _ => (pg_name (i := 6) sc_L_names_right.nd rfl (Or.inl rfl))) (fun _ _ _ _ _ => pts_nil) (fun _ _ _ _ _ => (pe_op op_add_str (pe_op op_add_str pe_str (pv 6)) pe_str)))))
  (pss_cons (ps_set (i := 4) sc_L_names_right.nd rfl (Or.inl rfl) (pv 2))
  (pss_cons (ps_while oU (pt_cmpR op_lt (pv 4) (pv 1) (nomark _)) (C8.pss_cut (ps_if (PW.pt (pw_and (pt_cmpR op_gt (pv 4) pe_int (nomark _)) (pw_and (pt_cmpR op_eq (pe_op op_mod (pv 4) pe_int) pe_int (nomark _)) (pw_and1 (pt_cmpR op_lt (pe_op op_add (pv 4) pe_int) (pv 1) (nomark _)))))) (pss_cons (ps_expr (pe_bm PySem.F.plainAttrs_list PySem.F.slot_list_append PySem.F.type_list_append mt_append (pv 5) (pa_cons (pe_op op_add_str (pe_op op_add_str (pe_op op_add_str (pe_op op_add_str (pe_op op_add_str (pe_ix ix_list (pv 3) (pv 4) (fun _ _ => rfl)) pe_str) (pe_ix ix_list (pv 3) (pe_op op_add (pv 4) pe_int) (fun _ _ => rfl))) pe_str) (pe_ix ix_list (pv 3) pe_int (fun _ _ => rfl))) pe_str) pa_nil)))
  (pss_one (ps_set (i := 4) sc_L_names_right.nd rfl (Or.inl rfl) (pe_op op_add (pv 4) pe_int)))) (pss_one (ps_expr (pe_bm PySem.F.plainAttrs_list PySem.F.slot_list_append PySem.F.type_list_append mt_append (pv 5) (pa_cons (pe_op op_add_str (pe_ix ix_list (pv 3) (pv 4) (fun _ _ => rfl)) pe_str) pa_nil)))))
  (C8.pss_cut (ps_if (pt_cmpR op_eq (pe_op op_mod (pv 4) pe_int) pe_int (nomark _)) (pss_one (ps_expr (pe_bm PySem.F.plainAttrs_list PySem.F.slot_list_append PySem.F.type_list_append mt_append (pv 5) (pa_cons (pe_op op_add_str (pe_ix ix_list (pv 3) (pv 4) (fun _ _ => rfl)) pe_str) pa_nil)))) pss_nil)
  (pss_one (ps_set (i := 4) sc_L_names_right.nd rfl (Or.inl rfl) (pe_op op_add (pv 4) pe_int))))))
  (pss_cons (ps_set (i := 7) sc_L_names_right.nd rfl (Or.inl rfl) (pe_callB call_len_seq (by rfl) (fr_len T) (by decide +kernel) (pa_cons (pv 5) pa_nil)))
  (C8.pss_cut (ps_if (pt_cmpR op_gt (pv 1) pe_int (nomark _)) (pss_one (ps_set (i := 7) sc_L_names_right.nd rfl (Or.inl rfl) (pe_ix ix_list (pe_lc (own := [("_law_k", 4), ("_law_line", 8)]) (te := tVar 4) (g := gTup _ 2 (gCons (gName 4) (gCons (gName 8) (gNil)))) (tt := tTest (tOp rInStr (tOp (rIxL K) (tVar 3) (tC (.int 30))) (tVar 8))) rfl sc_L_names_right.nd (pi_enum rfl (fr_enumerate T) (pa_cons (pv 5) pa_nil)) (blkOk_by (N := N_L_names_right) (sc := defScope s_L_names_right) (by decide +kernel)) (fun _ _ _ _ _ => (pg_tup rfl (pgs_cons (pg_name (i := 4) sc_L_names_right.nd rfl (Or.inl rfl)) (pgs_cons (pg_name (i := 8) sc_L_names_right.nd rfl (Or.inl rfl)) pgs_nil)))) (fun _ _ _ _ _ => (pts_one (pt_cmpR op_in_str (pe_ix ix_list (pv 3) pe_int (fun _ _ => rfl)) (pv 8) (by with_unfolding_all rfl)))) (fun _ _ _ _ _ => (pv 4))) pe_int (fun _ _ => rfl)))) pss_nil)
  (pss_cons (ps_set (i := 9) sc_L_names_right.nd rfl (Or.inl rfl) (pe_ix ix_list (pe_lst (pa_cons pe_non (pa_cons (pe_tup (pa_cons pe_str (pa_cons (pv 7) pa_nil))) pa_nil))) (pe_callTy call_int1 (by rfl) (fr_int T) (by decide +kernel) (pa_cons (pe_cmpR op_gt (pv 1) pe_int (nomark _)) pa_nil)) (fun _ _ => rfl)))
  (pss_cons (ps_if (pt_cmpR (op_neD (hu64 hr)) (pe_cX (cal_L_told T) hr (by decide) rfl pU (pa_cons (pe_op op_cat (pv 5) (pe_lst (pa_cons (pe_op op_add_str pe_str (pe_ix ix_list (pv 3) (pe_op op_sub (pv 1) pe_int) (fun _ _ => rfl))) pa_nil))) pa_nil)) (pv 9) (nomark _)) (pss_one (ps_ret pe_bl)) pss_nil)
  (pss_cons (ps_expr (pe_bm PySem.F.plainAttrs_list PySem.F.slot_list_insert PySem.F.type_list_insert mt_insert (pv 5) (pa_cons (pe_op op_add (pv 2) pe_int) (pa_cons (pe_op op_add_str (pe_ix ix_list (pv 3) pe_int (fun _ _ => rfl)) pe_str) pa_nil))))
  (pss_cons (ps_set (i := 9) sc_L_names_right.nd rfl (Or.inl rfl) (pe_ix ix_list (pe_lst (pa_cons (pe_tup (pa_cons pe_str (pa_cons (pe_op op_add (pv 2) pe_int) pa_nil))) (pa_cons (pe_tup (pa_cons pe_str (pa_cons (pe_op op_add (pv 7) (pe_callTy call_int1 (by rfl) (fr_int T) (by decide +kernel) (pa_cons (pe_cmpR op_gt (pv 7) (pv 2) (nomark _)) pa_nil))) pa_nil))) pa_nil))) (pe_callTy call_int1 (by rfl) (fr_int T) (by decide +kernel) (pa_cons (pe_cmpR op_gt (pv 1) pe_int (nomark _)) pa_nil)) (fun _ _ => rfl)))
  (pss_one (ps_ret (pe_cmpR (op_eqD (hu64 hr)) (pe_cX (cal_L_told T) hr (by decide) rfl pU (pa_cons (pe_op op_cat (pv 5) (pe_lst (pa_cons (pe_op op_add_str pe_str (pe_ix ix_list (pv 3) (pe_op op_sub (pv 1) pe_int) (fun _ _ => rfl))) pa_nil))) pa_nil)) (pv 9) (nomark _)))))))))))))))), ?_⟩
  try dsimp only [cxK]
  obtain ⟨b, rfl, hb, kq⟩ := h
  walk_at "rd"
  refine ⟨b, 7, rfl, hb, by decide, by decide, fun r H1 r0 r8 b1 f1 => ?_⟩
  obtain ⟨n, rfl⟩ : ∃ n : Nat, r = (n : Int) := ⟨r.toNat, by omega⟩
  have n7 : n < 7 := by omega
  walk_at "rd"
  refine ⟨b, 20, rfl, b1, by decide, by decide, fun r' H2 r0' r8' b2 f2 => ?_⟩
  obtain ⟨m, rfl⟩ : ∃ m : Nat, r' = (m : Int) := ⟨r'.toNat, by omega⟩
  have m20 : m < 20 := by omega
  obtain ⟨G1, G2, hne, hlen⟩ := nm_good n7 m20
  rw [show (28 : Int) + (n : Int) = ((28 + n : Nat) : Int) by omega]
  walk_at "rd"
  have ch : ∀ i : Nat, i < 34 → atI ("bcdfghij" : Str).cps.toList ((i : Int) % 8) = some (chN "bcdfghij" (i % 8)) ∧ atI ("klqvx" : Str).cps.toList ((i : Int) / 8) = some (chN "klqvx" (i / 8)) ∧ (("g" : Str) ++ (⟨#[chN "bcdfghij" (i % 8)]⟩ : Str)) ++ (⟨#[chN "klqvx" (i / 8)]⟩ : Str) = nameN i := fun i hi => by
    have q := List.all_eq_true.mp ch_ok i (List.mem_range.mpr hi)
    have q2 := List.all_eq_true.mp nameN_ok i (List.mem_range.mpr hi)
    simp only [Bool.and_eq_true, decide_eq_true_eq] at q q2
    exact ⟨q.1, q.2, q2⟩
  refine r_lcR (m := 28 + n) rfl (by omega) (fun E i H' => Same H2 H' ∧ H2 E = none ∧ H' E = some (.lst (((List.range i).map nameN).map V.str))) (fun q => rfl) (fun E hE => ⟨Same.new hE, hE, upd_same⟩) (fun E i H' hi q => ?_) (fun pn H3 q => ?_)
  · obtain ⟨s3, eE, e3⟩ := q
    obtain ⟨c1, c2, c3⟩ := ch i (by omega)
    walk_at "rd"
    refine r_I (by decide) ?_
    refine r_ixS (by decide) c1 ?_
    walk_at "rd"
    refine ⟨line_le (by show 1 + 1 ≤ 100000; decide), ?_⟩
    walk_at "rd"
    refine r_I ⟨by decide, by decide⟩ ?_
    refine r_ixS (by decide) c2 ?_
    walk_at "rd"
    refine ⟨line_le (by show 2 + 1 ≤ 100000; decide), ?_⟩
    rw [c3]
    refine ⟨_, e3, line_lt (by rw [List.length_map, List.length_map, List.length_range]; omega), same_updN s3 eE, eE, ?_⟩
    rw [upd_same, List.range_succ, List.map_append, List.map_append]
    rfl
  obtain ⟨s3, epn, e3⟩ := q
  walk_at "rd"
  refine r_newL fun q4 h4 => ?_
  have s4 := Same.new (o := .lst [V.str "width 5"]) h4
  have e4 : upd H3 q4 (.lst [V.str "width 5"]) q4 = some (.lst [V.str "width 5"]) := upd_same
  generalize upd H3 q4 (.lst [V.str "width 5"]) = H4 at *
  have e34 := s4 _ _ e3
  refine r_lcI ?_
  walk_at "rd"
  refine r_slL (SqL.of e34) fun q5 h5 => ?_
  have hcut : cutV (((List.range (28 + n)).map nameN).map V.str) none (some (m : Int)) = ((List.range m).map nameN).map V.str := by
    rw [cutTake _ (by rw [List.length_map, List.length_map, List.length_range]; omega), ← List.map_take, ← List.map_take, List.take_range, Nat.min_eq_left (by omega)]
  rw [hcut]
  have s5 := Same.new (o := .lst (((List.range m).map nameN).map V.str)) h5
  have e5 : upd H4 q5 (.lst (((List.range m).map nameN).map V.str)) q5 = some (.lst (((List.range m).map nameN).map V.str)) := upd_same
  generalize upd H4 q5 (.lst (((List.range m).map nameN).map V.str)) = H5 at *
  have e45 := s5 _ _ e4
  have e35 := s5 _ _ e34
  walk_at "rd"
  refine r_lcL (SqL.of e5) (fun E i H' => Same H5 H' ∧ H5 E = none ∧ H' E = some (.lst (((List.range i).map fun k => lnText (.inp (nameN k))).map V.str))) (fun q => rfl) (fun E hE => ⟨Same.new hE, hE, upd_same⟩) (fun E i H' q => SqL.of (q.1 _ _ e5)) (fun E i x H' hx q => ?_) (fun p6 H6 q => ?_)
  · obtain ⟨s6, eE, e6⟩ := q
    obtain ⟨hi, hx⟩ := List.getElem?_eq_some_iff.mp hx
    rw [List.length_map, List.length_map, List.length_range] at hi
    have hx : x = V.str (nameN i) := by
      rw [← hx]
      simp only [List.getElem_map, List.getElem_range]
    subst hx
    walk_at "rd"
    refine ⟨line_le (by rw [nameN_len]; decide), ?_⟩
    walk_at "rd"
    refine ⟨line_le (by rw [lenApp, nameN_len]; decide), ?_⟩
    refine ⟨_, e6, line_lt (by rw [List.length_map, List.length_map, List.length_range]; omega), same_updN s6 eE, eE, ?_⟩
    rw [upd_same, List.range_succ, List.map_append, List.map_append]
    rfl
  obtain ⟨s6, ep6, e6⟩ := q
  have e46 := s6 _ _ e45
  have e36 := s6 _ _ e35
  rw [List.length_map, List.length_map, List.length_range] at e6
  refine r_cat e46 e6 (by rw [List.length_map, List.length_map, List.length_range]; show 1 + m ≤ _; omega) fun pl hpl => ?_
  have hl7 : [V.str "width 5"] ++ ((List.range m).map fun k => lnText (.inp (nameN k))).map V.str = ((nmIns m).map lnText).map V.str := by
    unfold nmIns
    simp only [List.map_cons, List.map_map]
    rw [show lnText (.width 5) = ("width 5" : Str) from set12.2.2.2]
    rfl
  rw [hl7]
  have s7 := Same.new (o := .lst (((nmIns m).map lnText).map V.str)) hpl
  have e7 : upd H6 pl (.lst (((nmIns m).map lnText).map V.str)) pl = some (.lst (((nmIns m).map lnText).map V.str)) := upd_same
  have hplF : H2 pl = none := (s3.trans (s4.trans (s5.trans s6))).free hpl
  have npl : pn ≠ pl := fun z => by rw [← z, e36] at hpl; cases hpl
  have e37 := s7 _ _ e36
  have s27 := s3.trans (s4.trans (s5.trans (s6.trans s7)))
  generalize upd H6 pl (.lst (((nmIns m).map lnText).map V.str)) = H7 at *
  clear s3 s4 s5 s6 s7 e3 e4 e5 e6 e34 e45 e35 e46 e36 h4 h5 hpl epn ep6 hcut
  walk_at "rd"
  have nat : ∀ {H' : Hp}, SameBut pl H7 H' → ∀ {k : Nat}, k < 28 + n → ∀ {R : VK}, R (.str (nameN k)) H' → rIxL K (.ref pn) (.int (k : Int)) H' R := fun f k hk R q => r_ixL (SqL.of (f _ _ npl e37)) (atNat (namesL_at hk)) q
  have nat1 : ∀ {H' : Hp}, SameBut pl H7 H' → ∀ {k : Nat}, k + 1 < 28 + n → ∀ {R : VK}, R (.str (nameN (k + 1))) H' → rIxL K (.ref pn) (.int ((k : Int) + 1)) H' R := fun f k hk R q => nat f (k := k + 1) hk q
  have nat0 : ∀ {H' : Hp}, SameBut pl H7 H' → ∀ {R : VK}, R (.str (nameN 0)) H' → rIxL K (.ref pn) (.int 0) H' R := fun f R q => nat f (k := 0) (by omega) q
  have app : ∀ {H' : Hp} {acc : List Ln} {l : Ln} {x : Str}, H' pl = some (.lst ((acc.map lnText).map V.str)) → acc.length ≤ 1000 → SameBut pl H7 H' → x = lnText l → ∀ {R : VK}, (∀ H2, SameBut pl H7 H2 → H2 pl = some (.lst (((acc ++ [l]).map lnText).map V.str)) → R .non H2) → rAppend (.ref pl) [.str x] H' R := fun {H' acc l x} e hz f ex R q => by
    refine r_app e (by rw [List.length_map, List.length_map]; omega) (q _ (fun c o hc e => by rw [upd_ne hc]; exact f c o hc e) ?_)
    rw [upd_same, List.map_append, List.map_append, ex]
    rfl
  refine r_while (fun f σ' H' => ∃ (k : Nat) (acc : List Ln), σ' = (((((L2.start N_L_names_right [V.ref b]).set 1 (some (.int ((28 + n : Nat) : Int)))).set 2 (some (.int (m : Int)))).set 3 (some (.ref pn))).set 5 (some (.ref pl))).set 4 (some (.int (k : Int))) ∧
    SameBut pl H7 H' ∧ H' pl = some (.lst ((acc.map lnText).map V.str)) ∧ nmRun (28 + n) f k acc = nmLs (28 + n) m ∧ 28 + n ≤ k + f ∧ acc.length ≤ 30 + 2 * k ∧ k ≤ 40) 40 ⟨m, nmIns m, rfl, fun _ _ _ e => e, e7, rfl, by omega, by unfold nmIns; rw [List.length_cons, List.length_map, List.length_range]; omega, by omega⟩ ?_
  rintro f σ' H8 ⟨k, acc, rfl, f8, e8, er, hf, hl, hk40⟩
  walk_at "rd"
  refine r_iteD (fun hk => ?_) (fun hk => ?_)
  · have hk : k < 28 + n := by omega
    obtain ⟨f', rfl⟩ : ∃ f', f = f' + 1 := ⟨f - 1, by omega⟩
    refine ⟨_, fun _ _ h => h, ?_⟩
    unfold nmRun at er
    rw [if_pos hk] at er
    refine r_cut (fun σ'' H'' => ∃ (k' : Nat) (acc' : List Ln), σ'' = (((((L2.start N_L_names_right [V.ref b]).set 1 (some (.int ((28 + n : Nat) : Int)))).set 2 (some (.int (m : Int)))).set 3 (some (.ref pn))).set 5 (some (.ref pl))).set 4 (some (.int (k' : Int))) ∧
      SameBut pl H7 H'' ∧ H'' pl = some (.lst ((acc'.map lnText).map V.str)) ∧ nmRun (28 + n) f' (k' + 1) (nm2 k' acc') = nmLs (28 + n) m ∧ k ≤ k' ∧ k' < 28 + n ∧ acc'.length ≤ 30 + 2 * k + 1) ?_ ?_
    · refine r_ifB (decide (0 < k ∧ k % 3 = 2 ∧ k + 1 < 28 + n)) (fun B hB => ?_) (fun H9 s9 => ?_)
      · have hB' : ∀ b', b' = decide (0 < k ∧ k % 3 = 2 ∧ k + 1 < 28 + n) → B b' H8 := fun b' e => by rw [e]; exact hB _ (Same.refl _)
        walk_at "rd"
        refine r_iteD (fun h1 => ?_) (fun h1 => ?_)
        · walk_at "rd"
          refine r_I (by decide) ?_
          walk_at "rd"
          refine r_iteD (fun h2 => ?_) (fun h2 => ?_)
          · walk_at "rd"
            exact hB' _ (decide_eq_decide.mpr (by omega))
          · exact hB' _ (by rw [decide_eq_false]; omega)
        · exact hB' _ (by rw [decide_eq_false]; omega)
      · have e9 := s9 _ _ e8
        have f9 : SameBut pl H7 H9 := fun c o hc e => s9 _ _ (f8 c o hc e)
        refine r_iteD (fun c3 => ?_) (fun c3 => ?_)
        · rw [if_pos c3] at er
          walk_at "rd"
          refine r_tyL (SqL.of e9) ?_
          walk_at "rd"
          refine nat f9 hk ?_
          walk_at "rd"
          refine ⟨line_le (by rw [nameN_len]; decide), ?_⟩
          walk_at "rd"
          refine nat1 f9 c3.2.2 ?_
          walk_at "rd"
          refine ⟨line_le (by rw [lenApp, nameN_len, nameN_len]; decide), ?_⟩
          walk_at "rd"
          refine ⟨line_le (by rw [lenApp, lenApp, nameN_len, nameN_len]; decide), ?_⟩
          walk_at "rd"
          refine nat0 f9 ?_
          walk_at "rd"
          refine ⟨line_le (by rw [lenApp, lenApp, lenApp, nameN_len, nameN_len, nameN_len]; decide), ?_⟩
          walk_at "rd"
          refine ⟨line_le (by rw [lenApp, lenApp, lenApp, lenApp, nameN_len, nameN_len, nameN_len]; decide), ?_⟩
          walk_at "rd"
          refine app (l := .part (nameN k) (nameN (k + 1)) (nameN 0)) e9 (by omega) f9 rfl fun H10 f10 e10 => ?_
          walk_at "rd"
          exact ⟨k + 1, _, rfl, f10, e10, er, by omega, by omega, by rw [List.length_append]; show _ + 1 ≤ _; omega⟩
        · rw [if_neg c3] at er
          walk_at "rd"
          refine r_tyL (SqL.of e9) ?_
          walk_at "rd"
          refine nat f9 hk ?_
          walk_at "rd"
          refine ⟨line_le (by rw [nameN_len]; decide), ?_⟩
          walk_at "rd"
          refine app (l := .set (nameN k) 1) e9 (by omega) f9 lnT_set.1 fun H10 f10 e10 => ?_
          walk_at "rd"
          exact ⟨k, _, rfl, f10, e10, er, by omega, by omega, by rw [List.length_append]; show _ + 1 ≤ _; omega⟩
    · rintro σ'' H9 ⟨k', acc', rfl, f9, e9, er', hkk, hk', hl'⟩
      refine r_cut (fun σ'' H'' => ∃ (acc2 : List Ln), σ'' = (((((L2.start N_L_names_right [V.ref b]).set 1 (some (.int ((28 + n : Nat) : Int)))).set 2 (some (.int (m : Int)))).set 3 (some (.ref pn))).set 5 (some (.ref pl))).set 4 (some (.int (k' : Int))) ∧
        SameBut pl H7 H'' ∧ H'' pl = some (.lst ((acc2.map lnText).map V.str)) ∧ nmRun (28 + n) f' (k' + 1) acc2 = nmLs (28 + n) m ∧ acc2.length ≤ 30 + 2 * k + 2) ?_ ?_
      · walk_at "rd"
        refine r_I (by decide) ?_
        walk_at "rd"
        refine r_iteD (fun h4 => ?_) (fun h4 => ?_)
        · have e4 : nm2 k' acc' = acc' ++ [.set (nameN k') 2] := by unfold nm2; rw [if_pos (by omega)]
          rw [e4] at er'
          walk_at "rd"
          refine r_tyL (SqL.of e9) ?_
          walk_at "rd"
          refine nat f9 hk' ?_
          walk_at "rd"
          refine ⟨line_le (by rw [nameN_len]; decide), ?_⟩
          walk_at "rd"
          refine app (l := .set (nameN k') 2) e9 (by omega) f9 lnT_set.2.1 fun H10 f10 e10 => ?_
          walk_at "rd"
          exact ⟨_, rfl, f10, e10, er', by rw [List.length_append]; show _ + 1 ≤ _; omega⟩
        · have e4 : nm2 k' acc' = acc' := by unfold nm2; rw [if_neg (by omega)]
          rw [e4] at er'
          walk_at "rd"
          exact ⟨_, rfl, f9, e9, er', by omega⟩
      · rintro σ'' H10 ⟨acc2, rfl, f10, e10, er2, hl2⟩
        walk_at "rd"
        exact ⟨f', by omega, k' + 1, acc2, rfl, f10, e10, er2, by omega, by omega, by omega⟩
  · have hk : 28 + n ≤ k := by omega
    rw [nmRun_done f k acc hk] at er
    subst er
    have g8 : SameBut pl H2 H8 := fun c o hc e => f8 c o hc (s27 _ _ e)
    walk_at "rd"
    refine r_lenL (SqL.of e8) ?_
    walk_at "rd"
    refine r_cut (fun σ'' H'' => ∃ a : Int, σ'' = ((((((L2.start N_L_names_right [V.ref b]).set 1 (some (.int ((28 + n : Nat) : Int)))).set 2 (some (.int (m : Int)))).set 3 (some (.ref pn))).set 5 (some (.ref pl))).set 4 (some (.int (k : Int)))).set 7 (some (.int a)) ∧
      (28 + n > 30 → a = (((plcs (nameN 30) (nmLs (28 + n) m)).headD 0 : Nat) : Int)) ∧ Same H8 H'') ?_ ?_
    · walk_at "rd"
      refine r_iteD (fun h30 => ?_) (fun h30 => ?_)
      · walk_at "rd"
        refine r_lcE rfl (SqL.of e8) (fun E i H' => Same H8 H' ∧ H8 E = none ∧ H' E = some (.lst (((List.range i).filter fun i => inS (nameN 30) (lnText ((nmLs (28 + n) m).getD i .fin))).map fun i : Nat => V.int (i : Int)))) (fun q q' => rfl) (fun E hE => ⟨Same.new hE, hE, upd_same⟩) (fun E i H' q => SqL.of (q.1 _ _ e8)) (fun E i x Tt H' hx q hT => ?_) (fun E H' q => ?_)
        · obtain ⟨s9, eE, e9⟩ := q
          obtain ⟨hi, hx⟩ := List.getElem?_eq_some_iff.mp hx
          rw [List.length_map, List.length_map] at hi
          have hx : x = V.str (lnText ((nmLs (28 + n) m).getD i .fin)) := by
            rw [← hx, List.getD_eq_getElem?_getD, List.getElem?_eq_getElem hi]
            simp only [List.getElem_map, Option.getD_some]
          subst hx
          have s10 := s9.new' (o := .tup [V.int (i : Int), V.str (lnText ((nmLs (28 + n) m).getD i .fin))]) hT
          have e10 : upd H' Tt (.tup [V.int (i : Int), V.str (lnText ((nmLs (28 + n) m).getD i .fin))]) E = _ := (upd_ne (ne_of_none e9 hT)).trans e9
          have hlen' : ((((List.range i).filter fun i => inS (nameN 30) (lnText ((nmLs (28 + n) m).getD i .fin))).map fun i : Nat => V.int (i : Int))).length < sizeLine := by
            rw [List.length_map]
            refine line_lt (Nat.le_trans (List.length_filter_le _ _) ?_)
            rw [List.length_range]; omega
          generalize upd H' Tt (.tup [V.int (i : Int), V.str (lnText ((nmLs (28 + n) m).getD i .fin))]) = H10 at *
          walk_at "rd"
          refine nat (f8.same s10) (k := 30) (by omega) ?_
          walk_at "rd"
          refine r_iteB (fun hb => ?_) (fun hb => ?_)
          · walk_at "rd"
            refine ⟨_, e10, hlen', same_updN s10 eE, eE, ?_⟩
            rw [upd_same, List.range_succ, List.filter_append, List.map_append, List.filter_cons, if_pos (show inS _ _ = true from hb)]
            rfl
          · refine ⟨s10, eE, ?_⟩
            rw [e10, List.range_succ, List.filter_append, List.filter_cons, if_neg (by rw [show inS _ _ = false from hb]; decide)]
            simp only [List.filter_nil, List.append_nil]
        · obtain ⟨s9, eE, e9⟩ := q
          rw [List.length_map, List.length_map] at e9
          have hp : (List.range (nmLs (28 + n) m).length).filter (fun i => inS (nameN 30) (lnText ((nmLs (28 + n) m).getD i .fin))) = plcs (nameN 30) (nmLs (28 + n) m) := rfl
          rw [hp] at e9
          have hne' := hne (by omega)
          cases hpl' : plcs (nameN 30) (nmLs (28 + n) m) with
          | nil => exact absurd hpl' hne'
          | cons a r =>
            rw [hpl'] at e9
            walk_at "rd"
            refine r_ixL (SqL.of e9) at0 ?_
            walk_at "rd"
            exact ⟨(a : Int), rfl, fun _ => rfl, s9⟩
      · walk_at "rd"
        exact ⟨_, rfl, fun h => absurd h (by omega), Same.refl _⟩
    rintro σ'' H9 ⟨a, rfl, ha, s9⟩
    have e9 := s9 _ _ e8
    have f9 := f8.same s9
    have g9 := g8.same s9
    walk_at "rd"
    refine r_newL fun q10 h10 => ?_
    have s10 := Same.new (o := .tup [V.str "much", V.int a]) h10
    have e10 : upd H9 q10 (.tup [V.str "much", V.int a]) q10 = some (.tup [V.str "much", V.int a]) := upd_same
    generalize upd H9 q10 (.tup [V.str "much", V.int a]) = H10 at *
    walk_at "rd"
    refine r_newL fun q11 h11 => ?_
    have s11 := Same.new (o := .lst [V.non, V.ref q10]) h11
    have e11 : upd H10 q11 (.lst [V.non, V.ref q10]) q11 = some (.lst [V.non, V.ref q10]) := upd_same
    have e1011 := s11 _ _ e10
    generalize upd H10 q11 (.lst [V.non, V.ref q10]) = H11 at *
    walk_at "rd"
    refine r_intB ?_
    have ho1 : ∃ w, atI [V.non, V.ref q10] (if decide ((30 : Int) < ((28 + n : Nat) : Int)) = true then 1 else 0) = some w ∧ OutAt H11 w (due1N (28 + n) (((plcs (nameN 30) (nmLs (28 + n) m)).headD 0 : Nat) : Int)) := by
      by_cases hn : 28 + n > 30
      · refine ⟨.ref q10, by rw [decide_eq_true (by omega)]; exact at1, ?_⟩
        unfold due1N
        rw [if_pos hn, ← ha hn]
        exact ⟨q10, rfl, e1011⟩
      · refine ⟨.non, by rw [decide_eq_false (by omega)]; exact at0, ?_⟩
        unfold due1N
        rw [if_neg hn]
        rfl
    obtain ⟨w1, hw1, ow1⟩ := ho1
    refine r_ixL (SqL.of e11) hw1 ?_
    have s911 := s10.trans s11
    have e12 := s911 _ _ e9
    have f11 := f9.same s911
    have g11 := g9.same s911
    walk_at "rd"
    rw [show ((28 + n : Nat) : Int) - 1 = ((28 + n - 1 : Nat) : Int) by omega]
    refine nat f11 (by omega) ?_
    walk_at "rd"
    refine ⟨line_le (by rw [nameN_len]; decide), ?_⟩
    walk_at "rd"
    refine r_newL fun q12 h12 => ?_
    have s12 := Same.new (o := .lst [V.str (("out " : Str) ++ nameN (28 + n - 1))]) h12
    have e13 : upd H11 q12 (.lst [V.str (("out " : Str) ++ nameN (28 + n - 1))]) q12 = some (.lst [V.str (("out " : Str) ++ nameN (28 + n - 1))]) := upd_same
    have e14 := s12 _ _ e12
    generalize upd H11 q12 (.lst [V.str (("out " : Str) ++ nameN (28 + n - 1))]) = H12 at *
    walk_at "rd"
    refine r_cat e14 e13 (by rw [List.length_map, List.length_map]; show _ + 1 ≤ _; omega) fun q13 h13 => ?_
    have el1 : ((nmLs (28 + n) m).map lnText).map V.str ++ [V.str (("out " : Str) ++ nameN (28 + n - 1))] = (((nmLs (28 + n) m) ++ [Ln.out (nameN (28 + n - 1))]).map lnText).map V.str := by
      rw [List.map_append, List.map_append]; rfl
    rw [el1]
    have s13 := Same.new (o := .lst ((((nmLs (28 + n) m) ++ [Ln.out (nameN (28 + n - 1))]).map lnText).map V.str)) h13
    have e15 : upd H12 q13 (.lst ((((nmLs (28 + n) m) ++ [Ln.out (nameN (28 + n - 1))]).map lnText).map V.str)) q13 = some (.lst ((((nmLs (28 + n) m) ++ [Ln.out (nameN (28 + n - 1))]).map lnText).map V.str)) := upd_same
    generalize upd H12 q13 (.lst ((((nmLs (28 + n) m) ++ [Ln.out (nameN (28 + n - 1))]).map lnText).map V.str)) = H13 at *
    walk_at "rd"
    refine told_of G1 e15 fun u1 H14 s14 o14 => ?_
    have s1114 := s12.trans (s13.trans s14)
    walk_at "rd"
    refine r_neO o14 (ow1.on s1114) (sh1 _ _) (sh1 _ _) ?_
    rw [decide_eq_true rfl]
    walk_at "rd"
    have e16 := s1114 _ _ e12
    have f14 := f11.same s1114
    have g14 := g11.same s1114
    clear s10 s11 s12 s13 s14 e10 e11 e1011 e13 e14 e15 h10 h11 h12 h13 ow1 hw1 o14
    refine r_tyL (SqL.of e16) ?_
    walk_at "rd"
    refine nat0 f14 ?_
    walk_at "rd"
    refine ⟨line_le (by rw [nameN_len]; decide), ?_⟩
    walk_at "rd"
    refine ⟨pl, _, _, _, rfl, rfl, e16, line_lt (by rw [List.length_map, List.length_map]; omega), by omega, by omega, ?_⟩
    have el2 : (((nmLs (28 + n) m).map lnText).map V.str).take ((m : Int) + 1).toNat ++ [V.str (nameN 0 ++ (" = copy zz" : Str))] ++ (((nmLs (28 + n) m).map lnText).map V.str).drop ((m : Int) + 1).toNat = ((putL m (.copy (nameN 0) "zz") (nmLs (28 + n) m)).map lnText).map V.str := by
      unfold putL
      rw [show ((m : Int) + 1).toNat = m + 1 by omega, lnT_set.2.2]
      simp only [List.map_append, List.map_take, List.map_drop, List.map_cons, List.map_nil]
    rw [el2]
    have hl2 : (putL m (.copy (nameN 0) "zz") (nmLs (28 + n) m)).length ≤ 1000 := by
      unfold putL
      simp only [List.length_append, List.length_take, List.length_drop, List.length_cons, List.length_nil]
      omega
    have e17 : upd H14 pl (.lst (((putL m (.copy (nameN 0) "zz") (nmLs (28 + n) m)).map lnText).map V.str)) pl = some (.lst (((putL m (.copy (nameN 0) "zz") (nmLs (28 + n) m)).map lnText).map V.str)) := upd_same
    have f17 := f14.updL (o := .lst (((putL m (.copy (nameN 0) "zz") (nmLs (28 + n) m)).map lnText).map V.str))
    have g17 := g14.updL (o := .lst (((putL m (.copy (nameN 0) "zz") (nmLs (28 + n) m)).map lnText).map V.str))
    generalize upd H14 pl (.lst (((putL m (.copy (nameN 0) "zz") (nmLs (28 + n) m)).map lnText).map V.str)) = H17 at *
    walk_at "rd"
    refine r_newL fun q18 h18 => ?_
    have s18 := Same.new (o := .tup [V.str "unknown", V.int ((m : Int) + 1)]) h18
    have e18 : upd H17 q18 (.tup [V.str "unknown", V.int ((m : Int) + 1)]) q18 = some (.tup [V.str "unknown", V.int ((m : Int) + 1)]) := upd_same
    generalize upd H17 q18 (.tup [V.str "unknown", V.int ((m : Int) + 1)]) = H18 at *
    walk_at "rd"
    refine r_intB ?_
    walk_at "rd"
    refine r_newL fun q19 h19 => ?_
    generalize hz : (a + if decide ((m : Int) < a) = true then 1 else 0) = z at *
    have s19 := Same.new (o := .tup [V.str "much", V.int z]) h19
    have e19 : upd H18 q19 (.tup [V.str "much", V.int z]) q19 = some (.tup [V.str "much", V.int z]) := upd_same
    generalize upd H18 q19 (.tup [V.str "much", V.int z]) = H19 at *
    walk_at "rd"
    refine r_newL fun q20 h20 => ?_
    have s20 := Same.new (o := .lst [V.ref q18, V.ref q19]) h20
    have e20 : upd H19 q20 (.lst [V.ref q18, V.ref q19]) q20 = some (.lst [V.ref q18, V.ref q19]) := upd_same
    have e1820 := s20 _ _ (s19 _ _ e18)
    have e1920 := s20 _ _ e19
    generalize upd H19 q20 (.lst [V.ref q18, V.ref q19]) = H20 at *
    walk_at "rd"
    refine r_intB ?_
    have ho2 : ∃ w, atI [V.ref q18, V.ref q19] (if decide ((30 : Int) < ((28 + n : Nat) : Int)) = true then 1 else 0) = some w ∧ OutAt H20 w (due2N (28 + n) m (((plcs (nameN 30) (nmLs (28 + n) m)).headD 0 : Nat) : Int)) := by
      by_cases hn : 28 + n > 30
      · refine ⟨.ref q19, by rw [decide_eq_true (by omega)]; exact at1, ?_⟩
        unfold due2N insQ
        rw [if_pos hn, ← ha hn]
        refine ⟨q19, rfl, ?_⟩
        rw [e1920, ← hz]
        by_cases hc : (m : Int) < a
        · rw [decide_eq_true hc, if_pos hc, if_pos rfl]
        · rw [decide_eq_false hc, if_neg hc]; rfl
      · refine ⟨.ref q18, by rw [decide_eq_false (by omega)]; exact at0, ?_⟩
        unfold due2N
        rw [if_neg hn]
        exact ⟨q18, rfl, e1820⟩
    obtain ⟨w2, hw2, ow2⟩ := ho2
    refine r_ixL (SqL.of e20) hw2 ?_
    have s1720 := s18.trans (s19.trans s20)
    have e21 := s1720 _ _ e17
    have f20 := f17.same s1720
    have g20 := g17.same s1720
    walk_at "rd"
    rw [show ((28 + n : Nat) : Int) - 1 = ((28 + n - 1 : Nat) : Int) by omega]
    refine nat f20 (by omega) ?_
    walk_at "rd"
    refine ⟨line_le (by rw [nameN_len]; decide), ?_⟩
    walk_at "rd"
    refine r_newL fun q22 h22 => ?_
    have s22 := Same.new (o := .lst [V.str (("out " : Str) ++ nameN (28 + n - 1))]) h22
    have e22 : upd H20 q22 (.lst [V.str (("out " : Str) ++ nameN (28 + n - 1))]) q22 = some (.lst [V.str (("out " : Str) ++ nameN (28 + n - 1))]) := upd_same
    have e23 := s22 _ _ e21
    generalize upd H20 q22 (.lst [V.str (("out " : Str) ++ nameN (28 + n - 1))]) = H22 at *
    walk_at "rd"
    refine r_cat e23 e22 (by rw [List.length_map, List.length_map]; show _ + 1 ≤ _; omega) fun q23 h23 => ?_
    have el3 : ((putL m (.copy (nameN 0) "zz") (nmLs (28 + n) m)).map lnText).map V.str ++ [V.str (("out " : Str) ++ nameN (28 + n - 1))] = (((putL m (.copy (nameN 0) "zz") (nmLs (28 + n) m)) ++ [Ln.out (nameN (28 + n - 1))]).map lnText).map V.str := by
      rw [List.map_append, List.map_append]; rfl
    rw [el3]
    have s23 := Same.new (o := .lst ((((putL m (.copy (nameN 0) "zz") (nmLs (28 + n) m)) ++ [Ln.out (nameN (28 + n - 1))]).map lnText).map V.str)) h23
    have e24 : upd H22 q23 (.lst ((((putL m (.copy (nameN 0) "zz") (nmLs (28 + n) m)) ++ [Ln.out (nameN (28 + n - 1))]).map lnText).map V.str)) q23 = some (.lst ((((putL m (.copy (nameN 0) "zz") (nmLs (28 + n) m)) ++ [Ln.out (nameN (28 + n - 1))]).map lnText).map V.str)) := upd_same
    generalize upd H22 q23 (.lst ((((putL m (.copy (nameN 0) "zz") (nmLs (28 + n) m)) ++ [Ln.out (nameN (28 + n - 1))]).map lnText).map V.str)) = H23 at *
    walk_at "rd"
    refine told_of G2 e24 fun u2 H25 s25 o25 => ?_
    have s2025 := s22.trans (s23.trans s25)
    walk_at "rd"
    refine r_eqO o25 (ow2.on s2025) (sh2 _ _ _) (sh2 _ _ _) ?_
    rw [decide_eq_true rfl]
    have g25 := g20.same s2025
    have bp : b ≠ pl := fun z => by
      obtain ⟨x, y, z', eb⟩ := b2
      rw [z, hplF] at eb; cases eb
    refine kq _ ?_ fun c o hc e => ?_
    · obtain ⟨x, y, z', eb⟩ := b2
      exact ⟨x, y, z', g25 _ _ bp eb⟩
    · have e2 := f2 _ _ hc (f1 _ _ hc e)
      exact g25 _ _ (ne_of_none e2 hplF) e2
theorem cal_L_names_right (T : Tx K mg) : CalX P w K mg base 43 "_law_names_right" (sp_box K) [] := by
  obtain ⟨fd, F⟩ := fn_L_names_right T
  exact ⟨_, fd, _, [], ok_L_names_right T F, g__law_names_right T, F.kp, F.bindsN fun _ _ _ _ _ _ us hl => match us, hl with | [_], _ => rfl, .nil⟩

end
section
variable {P : Program} {w : World} {K : PySem.W.Frag} {mg : Str → Option Value} {base : Heap}
theorem turns_in : ∀ {ts : List Int}, (∀ t ∈ ts, 1 ≤ t ∧ t ≤ 3) → ts ∈ turnsL ts.length
  | [], _ => List.mem_singleton.mpr rfl
  | t :: ts, h => by
    have ih := turns_in (ts := ts) fun x hx => h x (List.mem_cons_of_mem _ hx)
    have ht := h t List.mem_cons_self
    refine List.mem_flatMap.mpr ⟨ts, ih, ?_⟩
    obtain rfl | rfl | rfl : t = 1 ∨ t = 2 ∨ t = 3 := by omega
    all_goals simp
def prodL (ts : List Int) : Int := ts.foldl (· * ·) 1
theorem loopsC : ((turnsL 1 ++ turnsL 2 ++ turnsL 3).all fun ts => match readM 0 DM0 (lsD ts) with | .ok M => decide (M.rows.count = prodL ts) | _ => false) = true := by decide +kernel
theorem lnT_fix : lnText (.width 9) = ("width 9" : Str) ∧ lnText (.set "b" 3) = ("b = set plain 3" : Str) ∧ lnText (.out "b") = ("out b" : Str) ∧ lnText (.inp "b") = ("in b plain" : Str) ∧ lnText (.copy "b" "b") = ("b = copy b" : Str) ∧ lnText (.copy "b" "v") = ("b = copy v" : Str) := by decide +kernel
theorem lsD_text (ts : List Int) : (lsD ts).map lnText = (["width 9"] : List Str) ++ ts.map (fun t => ("repeat " : Str) ++ num t) ++ (["b = set plain 3"] : List Str) ++ List.replicate ts.length ("end" : Str) ++ (["out b"] : List Str) := by
  unfold lsD
  obtain ⟨h1, h2, h3, _⟩ := lnT_fix
  simp only [List.map_append, List.map_cons, List.map_nil, List.map_map, List.map_replicate, h1, h2, h3]
  rfl
theorem loops_few {ts : List Int} (h : ∀ t ∈ ts, 1 ≤ t ∧ t ≤ 3) (h1 : 1 ≤ ts.length) (h3 : ts.length ≤ 3) : Good ((lsD ts).map lnText) (lsD ts) none ∧ ∀ M, readM 0 DM0 (lsD ts) = .ok M → M.rows.count = prodL ts := by
  have hi := turns_in h
  have hm : ts ∈ turnsL 1 ++ turnsL 2 ++ turnsL 3 := by
    obtain e | e | e : ts.length = 1 ∨ ts.length = 2 ∨ ts.length = 3 := by omega
    all_goals
      rw [e] at hi
      simp only [List.mem_append]
      simp [hi]
  have a := goodB_ok (List.all_eq_true.mp loops1 ts hm)
  have b := List.all_eq_true.mp loopsC ts hm
  have e : loopsO ts = none := by unfold loopsO; rw [if_neg (by omega)]
  rw [e] at a
  refine ⟨?_, fun M hM => ?_⟩
  · rw [lsD_text]
    exact a
  · rw [hM] at b
    exact of_decide_eq_true b
theorem prod_take {ts : List Int} {i : Nat} {t : Int} (h : ts[i]? = some t) : prodL (ts.take (i + 1)) = prodL (ts.take i) * t := by
  unfold prodL
  rw [List.take_add_one, h, List.foldl_append]
  rfl
/-- a program read that is let by, for what is asked of it -/
theorem ran_of {K : PySem.W.Frag} {H : Hp} {R : VK} {E : XK} {lines : List Str} {ls : List Ln} (G : Good lines ls none) (hR : ∀ a dx wd i rr o k ws M H', Same H H' → H' a = some (.ins (He.ga K "Program") dx (progFs wd i rr o k)) → H' rr = some (.lst ws) → RowsAt K H' M.rows ws → M.rows.depth < 9 → M.rows.small →
    M.rows.count ≤ 100000000 → readM 0 DM0 ls = .ok M → R (.ref a) H') : sp_read_program K [.str (Txt.join "\n" lines)] H R E := by
  refine ⟨_, ls, rfl, G.tx, G.so, ?_⟩
  have pr := G.pr
  unfold progOut at pr
  cases hr : readM 0 DM0 ls with
  | form ln => rw [hr] at pr; cases pr
  | much ln => rw [hr] at pr; cases pr
  | ok M =>
    rw [hr] at pr
    have F := G.fi M hr
    refine ⟨F, ?_⟩
    cases hl : lookM M.rows (M.ins.map Prod.snd) with
    | un ln nm => simp only [hl] at pr; cases pr
    | ok ks =>
      simp only [hl] at pr ⊢
      by_cases hc : M.rows.count > 600
      · rw [if_pos hc] at pr; cases pr
      · show if M.rows.count > 600 then _ else _
        rw [if_neg hc]
        intro a dx wd i rr o k ws H' s h1 h2 h3
        exact hR a dx wd i rr o k ws M H' s h1 h2 h3 F.dep F.sm F.cnt hr
theorem r_repN {H : Hp} {p : Addr} {x : V} {k : Nat} {Q : VK} (e : H p = some (.lst [x])) (h1 : k ≤ 1000) (h : ∀ q, H q = none → Q (.ref q) (upd H q (.lst (List.replicate k x)))) : rRep (.ref p) (.int (k : Int)) H Q := r_rep1 e (by omega) (by omega) (by rw [Int.toNat_natCast]; exact h)
abbrev N_L_loops_right : List Str := ["_law_box_here", "_law_deep", "_law_turns", "_law_k", "_law_lines", "_law_one", "_law_many"]
theorem sc_L_loops_right : FnScope ["_law_box_here", "_law_deep", "_law_turns", "_law_k", "_law_lines", "_law_one", "_law_many"] ["_law_box_here"] (defScope s_L_loops_right) := ⟨rfl, rfl, rfl, by decide +kernel, rfl, by decide +kernel, by decide +kernel⟩
theorem ok_L_loops_right {f : Addr} {fd : FuncData} (T : Tx K mg)  (F : FunP K "_law_loops_right" "_law_loops_right" s_L_loops_right f fd) : FnOk P w K mg base (L2.CX P w) 43 f fd ["_law_box_here"] (sp_box K) := by
  refine F.ok sc_L_loops_right (fun vs H Q E h => ?_) (fun cdv A outer s H vs Q E hr h => ?_)
  · repeat first | (obtain ⟨e, _⟩ := h; subst e; rfl; done) | (obtain ⟨_, h⟩ := h)
  refine ⟨_, (pss_cons (ps_set (i := 1) sc_L_loops_right.nd rfl (Or.inl rfl) (pe_op op_add pe_int (pe_cX (cal_L_take T) hr (by decide) rfl pU (pa_cons (pv 0) (pa_cons pe_int pa_nil)))))
  (pss_cons (ps_setLc (i := 2) (own := [("_law_k", 3)]) (g := gName 3) (tt := tYes) rfl sc_L_loops_right.nd rfl rfl (sw_true rfl rfl rfl (by decide +kernel)) (pi_range1 rfl (fr_range T) (pa_cons (pv 1) pa_nil)) (blkOk_by (N := N_L_loops_right) (sc := defScope s_L_loops_right) (by decide +kernel)) (fun _ _ _ _ _ => (pg_name (i := 3) sc_L_loops_right.nd rfl (Or.inl rfl))) (fun _ _ _ _ _ => pts_nil) (fun _ _ _ _ _ => (pe_op op_add pe_int (pe_cX (cal_L_take T) hr (by decide) rfl passL (pa_cons (pv 0) (pa_cons pe_int pa_nil))))))
  (pss_cons (ps_set (i := 4) sc_L_loops_right.nd rfl (Or.inl rfl) (pe_op op_cat (pe_op op_cat (pe_op op_cat (pe_op op_cat (pe_lst (pa_cons pe_str pa_nil)) (pe_lc (own := [("_law_one", 5)]) (g := gName 5) (tt := tYes) rfl sc_L_loops_right.nd (pi_list (pv 2)) (blkOk_by (N := N_L_loops_right) (sc := defScope s_L_loops_right) (by decide +kernel)) (fun _ _ _ _ _ => (pg_name (i := 5) sc_L_loops_right.nd rfl (Or.inl rfl))) (fun _ _ _ _ _ => pts_nil) (fun _ _ _ _ _ => (pe_op op_add_str pe_str (pe_callTy call_str_int (by rfl) (fr_str T) (by decide +kernel) (pa_cons (pv 5) pa_nil)))))) (pe_lst (pa_cons pe_str pa_nil))) (pe_op op_rep (pe_lst (pa_cons pe_str pa_nil)) (pv 1))) (pe_lst (pa_cons pe_str pa_nil))))
  (pss_cons (ps_if (pt_cmpR op_gt (pv 1) pe_int (nomark _)) (pss_one (ps_ret (pe_cmpR (op_eqD (hu64 hr)) (pe_cX (cal_L_told T) hr (by decide) rfl pU (pa_cons (pv 4) pa_nil)) (pe_tup (pa_cons pe_str (pa_cons pe_int pa_nil))) (nomark _)))) pss_nil)
  (pss_cons (ps_set (i := 6) sc_L_loops_right.nd rfl (Or.inl rfl) pe_int)
  (pss_cons (ps_for oU rfl (pi_list (pv 2)) (pg_name (i := 5) sc_L_loops_right.nd rfl (Or.inl rfl))
  (pss_one (ps_set (i := 6) sc_L_loops_right.nd rfl (Or.inl rfl) (pe_op op_mul (pv 6) (pv 5)))))
  (pss_one (ps_ret (pe_and (pe_cmp (pc_isN (pe_cX (cal_L_told T) hr (by decide) rfl pU (pa_cons (pv 4) pa_nil)))) (pe_one (pe_cmpR op_eq (pe_mX0 (met_Program_rows_run T) hr (by decide) pU (pe_cX (cal_read_program T) hr (by decide) rfl pU (pa_cons (pe_bm PySem.F.plainAttrs_str PySem.F.slot_str_join PySem.F.type_str_join mt_join pe_str (pa_cons (pv 4) pa_nil)) pa_nil))) (pv 6) (nomark _)))))))))))), ?_⟩
  try dsimp only [cxK]
  obtain ⟨b, rfl, hb, kq⟩ := h
  walk_at "rd"
  refine ⟨b, 6, rfl, hb, by decide, by decide, fun r H1 r0 r8 b1 f1 => ?_⟩
  obtain ⟨n, rfl⟩ : ∃ n : Nat, r = (n : Int) := ⟨r.toNat, by omega⟩
  have n6 : n < 6 := by omega
  walk_at "rd"
  rw [show (1 : Int) + (n : Int) = ((1 + n : Nat) : Int) by omega]
  refine r_lcR (m := 1 + n) rfl (by omega) (fun E i H' => BoxAt H' b ∧ SameBut b H1 H' ∧ H1 E = none ∧ ∃ ts : List Int, ts.length = i ∧ (∀ t ∈ ts, 1 ≤ t ∧ t ≤ 3) ∧ H' E = some (.lst (ts.map V.int))) (fun q => rfl) (fun E hE => ?_) (fun E i H' hi q => ?_) (fun pt H2 q => ?_)
  · have s := Same.new (o := .lst []) hE
    obtain ⟨x, y, z, e⟩ := b1
    exact ⟨⟨x, y, z, s _ _ e⟩, fun c o _ e => s _ _ e, hE, [], rfl, (fun t h => by cases h), upd_same⟩
  · obtain ⟨b2, f2, eE, ts, hl, ht, e2⟩ := q
    walk_at "rd"
    refine ⟨b, 3, rfl, b2, by decide, by decide, fun r H3 r0 r3 b3 f3 => ?_⟩
    walk_at "rd"
    have bE : E ≠ b := fun z => by
      obtain ⟨x, y, z', e⟩ := b1
      rw [z, e] at eE; cases eE
    refine ⟨_, f3 _ _ bE e2, line_lt (by rw [List.length_map]; omega), ?_, ?_, eE, ts ++ [1 + r], by rw [List.length_append, hl]; rfl, fun t h => ?_, by rw [upd_same, List.map_append]; rfl⟩
    · obtain ⟨x, y, z, e⟩ := b3
      exact ⟨x, y, z, by rw [upd_ne bE.symm]; exact e⟩
    · intro c o hc e
      have cE : c ≠ E := ne_of_none e eE
      rw [upd_ne cE]
      exact f3 _ _ hc (f2 _ _ hc e)
    · rcases List.mem_append.mp h with h | h
      · exact ht t h
      · rw [List.mem_singleton.mp h]; omega
  obtain ⟨b2, f2, ePt, ts, hl, ht, e2⟩ := q
  have hk : ∀ H', Same H2 H' → Q (.bl true) H' := fun H' s => by
    refine kq H' ?_ fun c o hc e => s _ _ (f2 _ _ hc (f1 _ _ hc e))
    obtain ⟨x, y, z, e⟩ := b2
    exact ⟨x, y, z, s _ _ e⟩
  walk_at "rd"
  refine r_newL fun q3 h3 => ?_
  have s3 := Same.new (o := .lst [V.str "width 9"]) h3
  have e3 : upd H2 q3 (.lst [V.str "width 9"]) q3 = some (.lst [V.str "width 9"]) := upd_same
  generalize upd H2 q3 (.lst [V.str "width 9"]) = H3 at *
  have e23 := s3 _ _ e2
  refine r_lcI ?_
  walk_at "rd"
  refine r_lcL (SqL.of e23) (fun E i H' => Same H3 H' ∧ H3 E = none ∧ H' E = some (.lst (((ts.take i).map fun t => ("repeat " : Str) ++ num t).map V.str))) (fun q => rfl) (fun E hE => ⟨Same.new hE, hE, upd_same⟩) (fun E i H' q => SqL.of (q.1 _ _ e23)) (fun E i x H' hx q => ?_) (fun p4 H4 q => ?_)
  · obtain ⟨s4, eE, e4⟩ := q
    rw [List.getElem?_map] at hx
    cases hx' : ts[i]? with
    | none => rw [hx'] at hx; cases hx
    | some t =>
      rw [hx'] at hx
      obtain rfl : V.int t = x := Option.some.inj hx
      have htt := ht t (List.mem_of_getElem? hx')
      have hi := (List.getElem?_eq_some_iff.mp hx').1
      walk_at "rd"
      refine r_strI (log_ok' (by omega) (by omega)) ?_
      walk_at "rd"
      have hnl : (num t).length ≤ 100 := (rep_fine (t := t) (by omega) (by omega)).2.1
      refine ⟨line_le (by show 7 + (num t).length ≤ 100000; omega), ?_⟩
      refine ⟨_, e4, line_lt (by rw [List.length_map, List.length_map, List.length_take]; omega), same_updN s4 eE, eE, ?_⟩
      rw [upd_same, List.take_add_one, hx', List.map_append, List.map_append]
      rfl
  obtain ⟨s4, ep4, e4⟩ := q
  rw [List.length_map, List.take_length] at e4
  have e34 := s4 _ _ e3
  refine r_cat e34 e4 (by rw [List.length_map, List.length_map]; show 1 + _ ≤ _; omega) fun q5 h5 => ?_
  have s5 := Same.new (o := .lst ([V.str "width 9"] ++ (ts.map fun t => ("repeat " : Str) ++ num t).map V.str)) h5
  have e5 : upd H4 q5 (.lst ([V.str "width 9"] ++ (ts.map fun t => ("repeat " : Str) ++ num t).map V.str)) q5 = some (.lst ([V.str "width 9"] ++ (ts.map fun t => ("repeat " : Str) ++ num t).map V.str)) := upd_same
  generalize upd H4 q5 (.lst ([V.str "width 9"] ++ (ts.map fun t => ("repeat " : Str) ++ num t).map V.str)) = H5 at *
  walk_at "rd"
  refine r_newL fun q6 h6 => ?_
  have s6 := Same.new (o := .lst [V.str "b = set plain 3"]) h6
  have e6 : upd H5 q6 (.lst [V.str "b = set plain 3"]) q6 = some (.lst [V.str "b = set plain 3"]) := upd_same
  generalize upd H5 q6 (.lst [V.str "b = set plain 3"]) = H6 at *
  refine r_cat (s6 _ _ e5) e6 (by rw [List.length_append, List.length_map, List.length_map]; show 1 + _ + 1 ≤ _; omega) fun q7 h7 => ?_
  have s7 := Same.new (o := .lst ([V.str "width 9"] ++ (ts.map fun t => ("repeat " : Str) ++ num t).map V.str ++ [V.str "b = set plain 3"])) h7
  have e7 : upd H6 q7 (.lst ([V.str "width 9"] ++ (ts.map fun t => ("repeat " : Str) ++ num t).map V.str ++ [V.str "b = set plain 3"])) q7 = some (.lst ([V.str "width 9"] ++ (ts.map fun t => ("repeat " : Str) ++ num t).map V.str ++ [V.str "b = set plain 3"])) := upd_same
  generalize upd H6 q7 (.lst ([V.str "width 9"] ++ (ts.map fun t => ("repeat " : Str) ++ num t).map V.str ++ [V.str "b = set plain 3"])) = H7 at *
  walk_at "rd"
  refine r_newL fun q8 h8 => ?_
  have s8 := Same.new (o := .lst [V.str "end"]) h8
  have e8 : upd H7 q8 (.lst [V.str "end"]) q8 = some (.lst [V.str "end"]) := upd_same
  generalize upd H7 q8 (.lst [V.str "end"]) = H8 at *
  walk_at "rd"
  refine r_repN e8 (by omega) fun q9 h9 => ?_
  have s9 := Same.new (o := .lst (List.replicate (1 + n) (V.str "end"))) h9
  have e9 : upd H8 q9 (.lst (List.replicate (1 + n) (V.str "end"))) q9 = some (.lst (List.replicate (1 + n) (V.str "end"))) := upd_same
  generalize upd H8 q9 (.lst (List.replicate (1 + n) (V.str "end"))) = H9 at *
  refine r_cat (s9 _ _ (s8 _ _ e7)) e9 (by rw [List.length_append, List.length_append, List.length_map, List.length_map, List.length_replicate]; show 1 + _ + 1 + _ ≤ _; omega) fun q10 h10 => ?_
  have s10 := Same.new (o := .lst ([V.str "width 9"] ++ (ts.map fun t => ("repeat " : Str) ++ num t).map V.str ++ [V.str "b = set plain 3"] ++ List.replicate (1 + n) (V.str "end"))) h10
  have e10 : upd H9 q10 (.lst ([V.str "width 9"] ++ (ts.map fun t => ("repeat " : Str) ++ num t).map V.str ++ [V.str "b = set plain 3"] ++ List.replicate (1 + n) (V.str "end"))) q10 = some (.lst ([V.str "width 9"] ++ (ts.map fun t => ("repeat " : Str) ++ num t).map V.str ++ [V.str "b = set plain 3"] ++ List.replicate (1 + n) (V.str "end"))) := upd_same
  generalize upd H9 q10 (.lst ([V.str "width 9"] ++ (ts.map fun t => ("repeat " : Str) ++ num t).map V.str ++ [V.str "b = set plain 3"] ++ List.replicate (1 + n) (V.str "end"))) = H10 at *
  walk_at "rd"
  refine r_newL fun q11 h11 => ?_
  have s11 := Same.new (o := .lst [V.str "out b"]) h11
  have e11 : upd H10 q11 (.lst [V.str "out b"]) q11 = some (.lst [V.str "out b"]) := upd_same
  generalize upd H10 q11 (.lst [V.str "out b"]) = H11 at *
  refine r_cat (s11 _ _ e10) e11 (by rw [List.length_append, List.length_append, List.length_append, List.length_map, List.length_map, List.length_replicate]; show 1 + _ + 1 + _ + 1 ≤ _; omega) fun pl hpl => ?_
  have el : [V.str "width 9"] ++ (ts.map fun t => ("repeat " : Str) ++ num t).map V.str ++ [V.str "b = set plain 3"] ++ List.replicate (1 + n) (V.str "end") ++ [V.str "out b"] = ((lsD ts).map lnText).map V.str := by
    rw [lsD_text, ← hl]
    simp only [List.map_append, List.map_cons, List.map_nil, List.map_replicate]
  rw [el]
  have s12 := Same.new (o := .lst (((lsD ts).map lnText).map V.str)) hpl
  have e12 : upd H11 pl (.lst (((lsD ts).map lnText).map V.str)) pl = some (.lst (((lsD ts).map lnText).map V.str)) := upd_same
  generalize upd H11 pl (.lst (((lsD ts).map lnText).map V.str)) = H12 at *
  have s212 : Same H2 H12 := s3.trans (s4.trans (s5.trans (s6.trans (s7.trans (s8.trans (s9.trans (s10.trans (s11.trans s12))))))))
  clear s3 s4 s5 s6 s7 s8 s9 s10 s11 s12 e3 e4 e5 e6 e7 e8 e9 e10 e11 e23 e34 h3 h5 h6 h7 h8 h9 h10 h11 hpl ep4 el
  walk_at "rd"
  refine r_iteD (fun h3 => ?_) (fun h3 => ?_)
  · have hG : Good ((lsD ts).map lnText) (lsD ts) (some ("much", 4)) := by
      match ts, hl, ht with
      | t1 :: t2 :: t3 :: t4 :: ts', hl, ht => exact loops_good ht (by simp only [List.length_cons] at hl; omega)
      | [], hl, _ => exfalso; simp only [List.length_nil] at hl; omega
      | [_], hl, _ => exfalso; simp only [List.length_cons, List.length_nil] at hl; omega
      | [_, _], hl, _ => exfalso; simp only [List.length_cons, List.length_nil] at hl; omega
      | [_, _, _], hl, _ => exfalso; simp only [List.length_cons, List.length_nil] at hl; omega
    walk_at "rd"
    refine told_of hG e12 fun u H13 s13 o13 => ?_
    walk_at "rd"
    refine r_newL fun q14 h14 => ?_
    have s14 := Same.new (o := .tup [V.str "much", V.int 4]) h14
    have e14 : upd H13 q14 (.tup [V.str "much", V.int 4]) q14 = some (.tup [V.str "much", V.int 4]) := upd_same
    generalize upd H13 q14 (.tup [V.str "much", V.int 4]) = H14 at *
    refine r_eqO (o := some ("much", 4)) (o' := some ("much", 4)) (o13.on s14) ⟨q14, rfl, e14⟩ (shM _) (shM _) ?_
    rw [decide_eq_true rfl]
    exact hk _ (s212.trans (s13.trans s14))
  · walk_at "rd"
    obtain ⟨G, hc⟩ := loops_few ht (by omega) (by omega)
    have e212 := s212 _ _ e2
    refine r_forLv rfl (SqL.of e212) ⟨fun i σ' H' => H' = H12 ∧ ∃ o : Option V, i ≤ 3 ∧ σ' = (((((L2.start N_L_loops_right [V.ref b]).set 1 (some (.int ((1 + n : Nat) : Int)))).set 2 (some (.ref pt))).set 4 (some (.ref pl))).set 5 o).set 6 (some (.int (prodL (ts.take i)))) ∧ 1 ≤ prodL (ts.take i) ∧ prodL (ts.take i) ≤ 3 ^ i, ?_, ?_, ?_, ?_⟩
    · exact ⟨rfl, none, by omega, rfl, by show (1 : Int) ≤ 1; decide, by show (1 : Int) ≤ 1; decide⟩
    · rintro i σ' H' ⟨rfl, _⟩
      exact SqL.of e212
    · rintro i x σ' H' hx ⟨rfl, o, i3, rfl, p1, p2⟩
      rw [List.getElem?_map] at hx
      cases hx' : ts[i]? with
      | none => rw [hx'] at hx; cases hx
      | some t =>
        rw [hx'] at hx
        obtain rfl : V.int t = x := Option.some.inj hx
        have htt := ht t (List.mem_of_getElem? hx')
        have hi := (List.getElem?_eq_some_iff.mp hx').1
        have hb3 : prodL (ts.take i) ≤ 27 := by
          have : (3 : Int) ^ i ≤ 27 := by
            obtain rfl | rfl | rfl | rfl : i = 0 ∨ i = 1 ∨ i = 2 ∨ i = 3 := by omega
            all_goals decide
          omega
        walk_at "rd"
        refine r_I (.inl ⟨by omega, by omega⟩) ?_
        walk_at "rd"
        rw [← prod_take hx']
        refine ⟨rfl, _, by omega, rfl, ?_, ?_⟩
        · rw [prod_take hx']
          obtain rfl | rfl | rfl : t = 1 ∨ t = 2 ∨ t = 3 := by omega
          all_goals omega
        · rw [prod_take hx', Int.pow_succ]
          obtain rfl | rfl | rfl : t = 1 ∨ t = 2 ∨ t = 3 := by omega
          all_goals omega
    · rintro σ' H' ⟨rfl, o, i3, rfl, p1, p2⟩
      rw [List.length_map, List.take_length]
      walk_at "rd"
      refine told_of G e12 fun u H13 s13 o13 => ?_
      obtain rfl : u = .non := o13
      walk_at "rd"
      rw [decide_eq_true rfl]
      walk_at "rd"
      refine ⟨rfl, ?_⟩
      walk_at "rd"
      refine ⟨"\n", pl, (lsD ts).map lnText, rfl, rfl, .inl (SqL.of (s13 _ _ e12)), G.sz, ?_⟩
      walk_at "rd"
      refine ran_of G fun a dx wd i rr o k ws M H14 s14 ha hrr hw hd hs hcn hM => ?_
      refine r_methO ha rfl (lkQ_none (by decide +kernel)) ?_
      walk_at "rd"
      refine ⟨a, dx, wd, i, rr, o, k, ws, M.rows, rfl, ha, hrr, hw, hd, hs, hcn, ?_⟩
      walk_at "rd"
      rw [hc M hM, decide_eq_true rfl]
      exact hk _ (s212.trans (s13.trans s14))
theorem cal_L_loops_right (T : Tx K mg) : CalX P w K mg base 43 "_law_loops_right" (sp_box K) [] := by
  obtain ⟨fd, F⟩ := fn_L_loops_right T
  exact ⟨_, fd, _, [], ok_L_loops_right T F, g__law_loops_right T, F.kp, F.bindsN fun _ _ _ _ _ _ us hl => match us, hl with | [_], _ => rfl, .nil⟩

end
section
variable {P : Program} {w : World} {K : PySem.W.Frag} {mg : Str → Option Value} {base : Heap}
theorem lsR_text {t0 t1 : Int} {n m : Nat} : (((([V.str "width 9", V.str "in b plain", V.str (("repeat " : Str) ++ num t0), V.str (("repeat " : Str) ++ num t1)] ++ List.replicate (1 + n) (V.str "b = copy b")) ++ [V.str "end", V.str "end"]) ++ List.replicate m (V.str "b = copy b")) ++ [V.str "out b"]) = (((lsR "b" t0 t1 n m).map lnText).map V.str) := by
  obtain ⟨h1, h2, h3, h4, h5, h6⟩ := lnT_fix
  unfold lsR
  rw [show (1 + n) = n + 1 by omega, List.replicate_succ]
  simp only [List.map_append, List.map_cons, List.map_nil, List.map_replicate, h1, h3, h4, h5]
  rfl
theorem lsR_set {t0 t1 : Int} {n m : Nat} : (((lsR "b" t0 t1 n m).map lnText).map V.str).set 4 (V.str "b = copy v") = (((lsR "v" t0 t1 n m).map lnText).map V.str) := by
  rw [← show lnText (.copy "b" "v") = ("b = copy v" : Str) from lnT_fix.2.2.2.2.2]
  rfl
abbrev N_L_rows_done_right : List Str := ["_law_box_here", "_law_turns", "_law_rows", "_law_behind", "_law_inner", "_law_lines", "_law_many"]
theorem sc_L_rows_done_right : FnScope ["_law_box_here", "_law_turns", "_law_rows", "_law_behind", "_law_inner", "_law_lines", "_law_many"] ["_law_box_here"] (defScope s_L_rows_done_right) := ⟨rfl, rfl, rfl, by decide +kernel, rfl, by decide +kernel, by decide +kernel⟩
theorem ok_L_rows_done_right {f : Addr} {fd : FuncData} (T : Tx K mg)  (F : FunP K "_law_rows_done_right" "_law_rows_done_right" s_L_rows_done_right f fd) : FnOk P w K mg base (L2.CX P w) 43 f fd ["_law_box_here"] (sp_box K) := by
  refine F.ok sc_L_rows_done_right (fun vs H Q E h => ?_) (fun cdv A outer s H vs Q E hr h => ?_)
  · repeat first | (obtain ⟨e, _⟩ := h; subst e; rfl; done) | (obtain ⟨_, h⟩ := h)
  refine ⟨_, (pss_cons (ps_set (i := 1) sc_L_rows_done_right.nd rfl (Or.inl rfl) (pe_lst (pa_cons (pe_op op_add pe_int (pe_cX (cal_L_take T) hr (by decide) rfl pU (pa_cons (pv 0) (pa_cons pe_int pa_nil)))) (pa_cons (pe_op op_add pe_int (pe_cX (cal_L_take T) hr (by decide) rfl pU (pa_cons (pv 0) (pa_cons pe_int pa_nil)))) pa_nil))))
  (pss_cons (ps_set (i := 2) sc_L_rows_done_right.nd rfl (Or.inl rfl) (pe_op op_add pe_int (pe_cX (cal_L_take T) hr (by decide) rfl pU (pa_cons (pv 0) (pa_cons pe_int pa_nil)))))
  (pss_cons (ps_set (i := 3) sc_L_rows_done_right.nd rfl (Or.inl rfl) (pe_cX (cal_L_take T) hr (by decide) rfl pU (pa_cons (pv 0) (pa_cons pe_int pa_nil))))
  (pss_cons (ps_set (i := 4) sc_L_rows_done_right.nd rfl (Or.inl rfl) (pe_op op_mul (pe_op op_mul (pe_ix ix_list (pv 1) pe_int (fun _ _ => rfl)) (pe_ix ix_list (pv 1) pe_int (fun _ _ => rfl))) (pv 2)))
  (C8.pss_cut (ps_if (PW.pt (pw_and (pt_cmpR op_eq (pe_cX (cal_L_take T) hr (by decide) rfl pU (pa_cons (pv 0) (pa_cons pe_int pa_nil))) pe_int (nomark _)) (pw_and1 (pt_cmpR op_le (pv 4) pe_int (nomark _))))) (pss_one (ps_set (i := 3) sc_L_rows_done_right.nd rfl (Or.inl rfl) (pe_callB (call_min2 rfl) (by rfl) (fr_min T) (by decide +kernel) (pa_cons pe_int (pa_cons (pe_op op_add (pe_op op_sub pe_int (pv 4)) (pe_cX (cal_L_take T) hr (by decide) rfl pU (pa_cons (pv 0) (pa_cons pe_int pa_nil)))) pa_nil))))) pss_nil)
  (pss_cons (ps_set (i := 5) sc_L_rows_done_right.nd rfl (Or.inl rfl) (pe_op op_cat (pe_lst (pa_cons pe_str (pa_cons pe_str (pa_cons (pe_op op_add_str pe_str (pe_callTy call_str_int (by rfl) (fr_str T) (by decide +kernel) (pa_cons (pe_ix ix_list (pv 1) pe_int (fun _ _ => rfl)) pa_nil))) (pa_cons (pe_op op_add_str pe_str (pe_callTy call_str_int (by rfl) (fr_str T) (by decide +kernel) (pa_cons (pe_ix ix_list (pv 1) pe_int (fun _ _ => rfl)) pa_nil))) pa_nil))))) (pe_op op_rep (pe_lst (pa_cons pe_str pa_nil)) (pv 2))))
  (pss_cons (ps_set (i := 5) sc_L_rows_done_right.nd rfl (Or.inl rfl) (pe_op op_cat (pe_op op_cat (pe_op op_cat (pv 5) (pe_lst (pa_cons pe_str (pa_cons pe_str pa_nil)))) (pe_op op_rep (pe_lst (pa_cons pe_str pa_nil)) (pv 3))) (pe_lst (pa_cons pe_str pa_nil))))
  (pss_cons (ps_set (i := 6) sc_L_rows_done_right.nd rfl (Or.inl rfl) (pe_op op_add (pv 4) (pv 3)))
  (pss_cons (ps_if (pt_cmpR op_gt (pv 6) pe_int (nomark _)) (pss_cons (ps_if (pt_cmpR (op_neD (hu64 hr)) (pe_cX (cal_L_told T) hr (by decide) rfl pU (pa_cons (pv 5) pa_nil)) (pe_tup (pa_cons pe_str (pa_cons (pe_un un_neg pe_int) pa_nil))) (nomark _)) (pss_one (ps_ret pe_bl)) pss_nil)
  (pss_cons (ps_asg pe_str (pg_sub (pv 5) pe_int set_list))
  (pss_one (ps_ret (pe_cmpR (op_eqD (hu64 hr)) (pe_cX (cal_L_told T) hr (by decide) rfl pU (pa_cons (pv 5) pa_nil)) (pe_tup (pa_cons pe_str (pa_cons pe_int pa_nil))) (nomark _)))))) pss_nil)
  (pss_one (ps_ret (pe_and (pe_cmp (pc_isN (pe_cX (cal_L_told T) hr (by decide) rfl pU (pa_cons (pv 5) pa_nil)))) (pe_one (pe_cmpR op_eq (pe_mX0 (met_Program_rows_run T) hr (by decide) pU (pe_cX (cal_read_program T) hr (by decide) rfl pU (pa_cons (pe_bm PySem.F.plainAttrs_str PySem.F.slot_str_join PySem.F.type_str_join mt_join pe_str (pa_cons (pv 5) pa_nil)) pa_nil))) (pv 6) (nomark _))))))))))))))), ?_⟩
  try dsimp only [cxK]
  obtain ⟨b, rfl, hb, kq⟩ := h
  walk_at "rd"
  refine ⟨b, 32, rfl, hb, by decide, by decide, fun r0 H1 r00 r01 b1 f1 => ?_⟩
  walk_at "rd"
  refine ⟨b, 32, rfl, b1, by decide, by decide, fun r1 H2 r10 r11 b2 f2 => ?_⟩
  walk_at "rd"
  generalize ht0 : (1 : Int) + r0 = t0 at *
  generalize ht1 : (1 : Int) + r1 = t1 at *
  have a0 : 1 ≤ t0 ∧ t0 ≤ 32 := by omega
  have a1 : 1 ≤ t1 ∧ t1 ≤ 32 := by omega
  refine r_newL fun pt hpt => ?_
  have s3 := Same.new (o := .lst [V.int t0, V.int t1]) hpt
  have e3 : upd H2 pt (.lst [V.int t0, V.int t1]) pt = some (.lst [V.int t0, V.int t1]) := upd_same
  generalize upd H2 pt (.lst [V.int t0, V.int t1]) = H3 at *

  have bp : b ≠ pt := fun z => by
    obtain ⟨x, y, z', eb⟩ := b2
    rw [← z, eb] at hpt; cases hpt
  have b3 : BoxAt H3 b := by
    obtain ⟨x, y, z', eb⟩ := b2
    exact ⟨x, y, z', s3 _ _ eb⟩
  have f3 : SameBut b H H3 := fun c o hc e => s3 _ _ (f2 _ _ hc (f1 _ _ hc e))
  walk_at "rd"
  refine ⟨b, 6, rfl, b3, by decide, by decide, fun r2 H4 r20 r21 b4 f4 => ?_⟩
  obtain ⟨n, rfl⟩ : ∃ n : Nat, r2 = (n : Int) := ⟨r2.toNat, by omega⟩
  have n5 : n ≤ 5 := by omega
  walk_at "rd"
  refine ⟨b, 30, rfl, b4, by decide, by decide, fun r3 H5 r30 r31 b5 f5 => ?_⟩
  rw [show (1 : Int) + (n : Int) = ((1 + n : Nat) : Int) by omega]
  have e5 : H5 pt = some (.lst [V.int t0, V.int t1]) := f5 _ _ bp.symm (f4 _ _ bp.symm e3)
  have f05 : SameBut b H H5 := fun c o hc e => f5 _ _ hc (f4 _ _ hc (f3 _ _ hc e))
  walk_at "rd"
  refine r_ixL (SqL.of e5) at0 ?_
  walk_at "rd"
  refine r_ixL (SqL.of e5) at1 ?_
  refine r_I (.inl ⟨by omega, by omega⟩) ?_
  walk_at "rd"
  have m1 : 1 ≤ t0 * t1 ∧ t0 * t1 ≤ 1024 := by
    have h1 := Int.mul_le_mul a0.2 a1.2 (by omega) (by decide)
    have h2 := Int.mul_le_mul a0.1 a1.1 (by decide) (by omega)
    omega
  refine r_I (.inl ⟨by omega, by omega⟩) ?_
  walk_at "rd"
  have m2 : 1 ≤ t0 * t1 * ((1 + n : Nat) : Int) ∧ t0 * t1 * ((1 + n : Nat) : Int) ≤ 6144 := by
    have h1 := Int.mul_le_mul m1.2 (show ((1 + n : Nat) : Int) ≤ 6 by omega) (by omega) (by decide)
    have h2 := Int.mul_le_mul m1.1 (show (1 : Int) ≤ ((1 + n : Nat) : Int) by omega) (by decide) (by omega)
    omega
  have cnt : ∀ m : Nat, t0 * (t1 * (1 + (n : Int))) + (m : Int) = t0 * t1 * ((1 + n : Nat) : Int) + (m : Int) := fun m => by
    rw [Int.mul_assoc, show ((1 + n : Nat) : Int) = 1 + (n : Int) by omega]
  refine r_cut (fun σ'' H'' => ∃ m : Nat, m ≤ 45 ∧ σ'' = ((((L2.start N_L_rows_done_right [V.ref b]).set 1 (some (.ref pt))).set 2 (some (.int ((1 + n : Nat) : Int)))).set 4 (some (.int (t0 * t1 * ((1 + n : Nat) : Int))))).set 3 (some (.int (m : Int))) ∧ BoxAt H'' b ∧ SameBut b H H'' ∧ H'' pt = some (.lst [V.int t0, V.int t1])) ?_ ?_
  · walk_at "rd"
    refine ⟨b, 2, rfl, b5, by decide, by decide, fun r4 H6 r40 r41 b6 f6 => ?_⟩
    have e6 := f6 _ _ bp.symm e5
    have f06 : SameBut b H H6 := fun c o hc e => f6 _ _ hc (f05 _ _ hc e)
    walk_at "rd"
    refine r_iteD (fun h1 => ?_) (fun h1 => ?_)
    · walk_at "rd"
      refine r_iteD (fun h2 => ?_) (fun h2 => ?_)
      · walk_at "rd"
        refine ⟨b, 2, rfl, b6, by decide, by decide, fun r5 H7 r50 r51 b7 f7 => ?_⟩
        walk_at "rd"
        refine ⟨_, _, rfl, ?_⟩
        walk_at "rd"
        refine ⟨(if 600 - t0 * t1 * ((1 + n : Nat) : Int) + r5 < 45 then 600 - t0 * t1 * ((1 + n : Nat) : Int) + r5 else 45).toNat, by split <;> omega, ?_, b7, fun c o hc e => f7 _ _ hc (f06 _ _ hc e), f7 _ _ bp.symm e6⟩
        rw [Int.toNat_of_nonneg (by split <;> omega)]
        rfl
      · walk_at "rd"
        refine ⟨r3.toNat, by omega, ?_, b6, f06, e6⟩
        rw [Int.toNat_of_nonneg r30]
        rfl
    · walk_at "rd"
      refine ⟨r3.toNat, by omega, ?_, b6, f06, e6⟩
      rw [Int.toNat_of_nonneg r30]
      rfl
  rintro σ'' H8 ⟨m, hm, rfl, b8, f8, e8⟩
  have hk : ∀ H' p, H8 p = none → SameBut p H8 H' → Q (.bl true) H' := fun H' p hp s => by
    have pb : b ≠ p := fun z => by
      obtain ⟨x, y, z', eb⟩ := b8
      rw [z, hp] at eb; cases eb
    refine kq H' ?_ fun c o hc e => s _ _ (ne_of_none (f8 _ _ hc e) hp) (f8 _ _ hc e)
    obtain ⟨x, y, z, e⟩ := b8
    exact ⟨x, y, z, s _ _ pb e⟩
  have hl0 : (num t0).length ≤ 100 := (rep_fine a0.1 a0.2).2.1
  have hl1 : (num t1).length ≤ 100 := (rep_fine a1.1 a1.2).2.1
  clear b1 f1 b2 f2 b3 f3 b4 f4 b5 f5 e5 f05 e3 s3 hb hpt kq
  walk_at "rd"
  refine r_ixL (SqL.of e8) at0 ?_
  walk_at "rd"
  refine r_strI (log_ok' (by omega) (by omega)) ?_
  walk_at "rd"
  refine ⟨line_le (by show 7 + (num t0).length ≤ 100000; omega), ?_⟩
  walk_at "rd"
  refine r_ixL (SqL.of e8) at1 ?_
  walk_at "rd"
  refine r_strI (log_ok' (by omega) (by omega)) ?_
  walk_at "rd"
  refine ⟨line_le (by show 7 + (num t1).length ≤ 100000; omega), ?_⟩
  walk_at "rd"
  rw [show Str.ofString (toString t0) = num t0 from rfl, show Str.ofString (toString t1) = num t1 from rfl]
  refine r_newL fun q9 hq9 => ?_
  have s9 := Same.new (o := .lst [V.str "width 9", V.str "in b plain", V.str (("repeat " : Str) ++ num t0), V.str (("repeat " : Str) ++ num t1)]) hq9
  have e9 : upd H8 q9 (.lst [V.str "width 9", V.str "in b plain", V.str (("repeat " : Str) ++ num t0), V.str (("repeat " : Str) ++ num t1)]) q9 = some (.lst [V.str "width 9", V.str "in b plain", V.str (("repeat " : Str) ++ num t0), V.str (("repeat " : Str) ++ num t1)]) := upd_same
  generalize upd H8 q9 (.lst [V.str "width 9", V.str "in b plain", V.str (("repeat " : Str) ++ num t0), V.str (("repeat " : Str) ++ num t1)]) = H9 at *
  walk_at "rd"
  refine r_newL fun q10 hq10 => ?_
  have s10 := Same.new (o := .lst [V.str "b = copy b"]) hq10
  have e10 : upd H9 q10 (.lst [V.str "b = copy b"]) q10 = some (.lst [V.str "b = copy b"]) := upd_same
  generalize upd H9 q10 (.lst [V.str "b = copy b"]) = H10 at *
  walk_at "rd"
  refine r_repN e10 (by omega) fun q11 hq11 => ?_
  have s11 := Same.new (o := .lst (List.replicate (1 + n) (V.str "b = copy b"))) hq11
  have e11 : upd H10 q11 (.lst (List.replicate (1 + n) (V.str "b = copy b"))) q11 = some (.lst (List.replicate (1 + n) (V.str "b = copy b"))) := upd_same
  generalize upd H10 q11 (.lst (List.replicate (1 + n) (V.str "b = copy b"))) = H11 at *

  refine r_cat (s11 _ _ (s10 _ _ e9)) e11 (by rw [List.length_replicate]; show 4 + _ ≤ _; omega) fun q12 hq12 => ?_
  have s12 := Same.new (o := .lst ([V.str "width 9", V.str "in b plain", V.str (("repeat " : Str) ++ num t0), V.str (("repeat " : Str) ++ num t1)] ++ List.replicate (1 + n) (V.str "b = copy b"))) hq12
  have e12 : upd H11 q12 (.lst ([V.str "width 9", V.str "in b plain", V.str (("repeat " : Str) ++ num t0), V.str (("repeat " : Str) ++ num t1)] ++ List.replicate (1 + n) (V.str "b = copy b"))) q12 = some (.lst ([V.str "width 9", V.str "in b plain", V.str (("repeat " : Str) ++ num t0), V.str (("repeat " : Str) ++ num t1)] ++ List.replicate (1 + n) (V.str "b = copy b"))) := upd_same
  generalize upd H11 q12 (.lst ([V.str "width 9", V.str "in b plain", V.str (("repeat " : Str) ++ num t0), V.str (("repeat " : Str) ++ num t1)] ++ List.replicate (1 + n) (V.str "b = copy b"))) = H12 at *
  walk_at "rd"
  refine r_newL fun q13 hq13 => ?_
  have s13 := Same.new (o := .lst [V.str "end", V.str "end"]) hq13
  have e13 : upd H12 q13 (.lst [V.str "end", V.str "end"]) q13 = some (.lst [V.str "end", V.str "end"]) := upd_same
  generalize upd H12 q13 (.lst [V.str "end", V.str "end"]) = H13 at *

  refine r_cat (s13 _ _ e12) e13 (by rw [List.length_append, List.length_replicate]; show 4 + _ + 2 ≤ _; omega) fun q14 hq14 => ?_
  have s14 := Same.new (o := .lst (([V.str "width 9", V.str "in b plain", V.str (("repeat " : Str) ++ num t0), V.str (("repeat " : Str) ++ num t1)] ++ List.replicate (1 + n) (V.str "b = copy b")) ++ [V.str "end", V.str "end"])) hq14
  have e14 : upd H13 q14 (.lst (([V.str "width 9", V.str "in b plain", V.str (("repeat " : Str) ++ num t0), V.str (("repeat " : Str) ++ num t1)] ++ List.replicate (1 + n) (V.str "b = copy b")) ++ [V.str "end", V.str "end"])) q14 = some (.lst (([V.str "width 9", V.str "in b plain", V.str (("repeat " : Str) ++ num t0), V.str (("repeat " : Str) ++ num t1)] ++ List.replicate (1 + n) (V.str "b = copy b")) ++ [V.str "end", V.str "end"])) := upd_same
  generalize upd H13 q14 (.lst (([V.str "width 9", V.str "in b plain", V.str (("repeat " : Str) ++ num t0), V.str (("repeat " : Str) ++ num t1)] ++ List.replicate (1 + n) (V.str "b = copy b")) ++ [V.str "end", V.str "end"])) = H14 at *
  walk_at "rd"
  refine r_newL fun q15 hq15 => ?_
  have s15 := Same.new (o := .lst [V.str "b = copy b"]) hq15
  have e15 : upd H14 q15 (.lst [V.str "b = copy b"]) q15 = some (.lst [V.str "b = copy b"]) := upd_same
  generalize upd H14 q15 (.lst [V.str "b = copy b"]) = H15 at *
  walk_at "rd"
  refine r_repN e15 (by omega) fun q16 hq16 => ?_
  have s16 := Same.new (o := .lst (List.replicate m (V.str "b = copy b"))) hq16
  have e16 : upd H15 q16 (.lst (List.replicate m (V.str "b = copy b"))) q16 = some (.lst (List.replicate m (V.str "b = copy b"))) := upd_same
  generalize upd H15 q16 (.lst (List.replicate m (V.str "b = copy b"))) = H16 at *

  refine r_cat (s16 _ _ (s15 _ _ e14)) e16 (by rw [List.length_append, List.length_append, List.length_replicate, List.length_replicate]; show 4 + _ + 2 + _ ≤ _; omega) fun q17 hq17 => ?_
  have s17 := Same.new (o := .lst ((([V.str "width 9", V.str "in b plain", V.str (("repeat " : Str) ++ num t0), V.str (("repeat " : Str) ++ num t1)] ++ List.replicate (1 + n) (V.str "b = copy b")) ++ [V.str "end", V.str "end"]) ++ List.replicate m (V.str "b = copy b"))) hq17
  have e17 : upd H16 q17 (.lst ((([V.str "width 9", V.str "in b plain", V.str (("repeat " : Str) ++ num t0), V.str (("repeat " : Str) ++ num t1)] ++ List.replicate (1 + n) (V.str "b = copy b")) ++ [V.str "end", V.str "end"]) ++ List.replicate m (V.str "b = copy b"))) q17 = some (.lst ((([V.str "width 9", V.str "in b plain", V.str (("repeat " : Str) ++ num t0), V.str (("repeat " : Str) ++ num t1)] ++ List.replicate (1 + n) (V.str "b = copy b")) ++ [V.str "end", V.str "end"]) ++ List.replicate m (V.str "b = copy b"))) := upd_same
  generalize upd H16 q17 (.lst ((([V.str "width 9", V.str "in b plain", V.str (("repeat " : Str) ++ num t0), V.str (("repeat " : Str) ++ num t1)] ++ List.replicate (1 + n) (V.str "b = copy b")) ++ [V.str "end", V.str "end"]) ++ List.replicate m (V.str "b = copy b"))) = H17 at *
  walk_at "rd"
  refine r_newL fun q18 hq18 => ?_
  have s18 := Same.new (o := .lst [V.str "out b"]) hq18
  have e18 : upd H17 q18 (.lst [V.str "out b"]) q18 = some (.lst [V.str "out b"]) := upd_same
  generalize upd H17 q18 (.lst [V.str "out b"]) = H18 at *

  refine r_cat (s18 _ _ e17) e18 (by rw [List.length_append, List.length_append, List.length_append, List.length_replicate, List.length_replicate]; show 4 + _ + 2 + _ + 1 ≤ _; omega) fun pl hpl => ?_
  rw [lsR_text]
  have s19 := Same.new (o := .lst (((lsR "b" t0 t1 n m).map lnText).map V.str)) hpl
  have e19 : upd H18 pl (.lst (((lsR "b" t0 t1 n m).map lnText).map V.str)) pl = some (.lst (((lsR "b" t0 t1 n m).map lnText).map V.str)) := upd_same
  generalize upd H18 pl (.lst (((lsR "b" t0 t1 n m).map lnText).map V.str)) = H19 at *
  have s89 : Same H8 H18 := s9.trans (s10.trans (s11.trans (s12.trans (s13.trans (s14.trans (s15.trans (s16.trans (s17.trans s18))))))))
  have hpl8 : H8 pl = none := s89.free hpl
  have s819 : Same H8 H19 := s89.trans s19
  clear s9 s10 s11 s12 s13 s14 s15 s16 s17 s18 s19 e9 e10 e11 e12 e13 e14 e15 e16 e17 e18 hq9 hq10 hq11 hq12 hq13 hq14 hq15 hq16 hq17 hq18 hpl s89
  walk_at "rd"
  refine r_iteD (fun hc => ?_) (fun hc => ?_)
  · obtain ⟨G1, _⟩ := rows_good (x := "b") (.inl rfl) a0.1 a0.2 a1.1 a1.2 n5 hm
    obtain ⟨G2, _⟩ := rows_good (x := "v") (.inr rfl) a0.1 a0.2 a1.1 a1.2 n5 hm
    rw [cnt] at G1 G2
    have o1 : outR "b" (t0 * t1 * ((1 + n : Nat) : Int) + (m : Int)) = some (("much" : Str), (-1 : Int)) := by
      unfold outR
      rw [if_pos rfl, if_pos (by omega)]
    have o2 : outR "v" (t0 * t1 * ((1 + n : Nat) : Int) + (m : Int)) = some (("unknown" : Str), (4 : Int)) := by
      unfold outR
      rw [if_neg (by decide +kernel)]
    rw [o1] at G1
    rw [o2] at G2
    walk_at "rd"
    refine told_of G1 e19 fun u H20 s20 o20 => ?_
    walk_at "rd"
    refine r_newL fun q21 h21 => ?_
    have s21 := Same.new (o := .tup [V.str "much", V.int (-1)]) h21
    have e21 : upd H20 q21 (.tup [V.str "much", V.int (-1)]) q21 = some (.tup [V.str "much", V.int (-1)]) := upd_same
    generalize upd H20 q21 (.tup [V.str "much", V.int (-1)]) = H21 at *
    refine r_neO (o := some ("much", -1)) (o' := some ("much", -1)) (o20.on s21) ⟨q21, rfl, e21⟩ (shM _) (shM _) ?_
    rw [decide_eq_true rfl]
    walk_at "rd"
    refine ⟨_, rfl, ?_⟩
    have e22 := s21 _ _ (s20 _ _ e19)
    refine r_setL (j := 4) e22 (by rw [← lsR_text]; simp only [List.length_append, List.length_cons, List.length_nil]; omega) ?_
    rw [lsR_set]
    have e23 : upd H21 pl (.lst (((lsR "v" t0 t1 n m).map lnText).map V.str)) pl = some (.lst (((lsR "v" t0 t1 n m).map lnText).map V.str)) := upd_same
    have g23 : SameBut pl H8 (upd H21 pl (.lst (((lsR "v" t0 t1 n m).map lnText).map V.str))) := fun c o hc e => by
      rw [upd_ne hc]
      exact s21 _ _ (s20 _ _ (s819 _ _ e))
    generalize upd H21 pl (.lst (((lsR "v" t0 t1 n m).map lnText).map V.str)) = H23 at *
    walk_at "rd"
    refine told_of G2 e23 fun u2 H24 s24 o24 => ?_
    walk_at "rd"
    refine r_newL fun q25 h25 => ?_
    have s25 := Same.new (o := .tup [V.str "unknown", V.int 4]) h25
    have e25 : upd H24 q25 (.tup [V.str "unknown", V.int 4]) q25 = some (.tup [V.str "unknown", V.int 4]) := upd_same
    generalize upd H24 q25 (.tup [V.str "unknown", V.int 4]) = H25 at *
    refine r_eqO (o := some ("unknown", 4)) (o' := some ("unknown", 4)) (o24.on s25) ⟨q25, rfl, e25⟩ (shU _) (shU _) ?_
    rw [decide_eq_true rfl]
    exact hk _ pl hpl8 (g23.same (s24.trans s25))
  · obtain ⟨G, hcn⟩ := rows_good (x := "b") (.inl rfl) a0.1 a0.2 a1.1 a1.2 n5 hm
    rw [cnt] at G hcn
    have o1 : outR "b" (t0 * t1 * ((1 + n : Nat) : Int) + (m : Int)) = none := by
      unfold outR
      rw [if_pos rfl, if_neg (by omega)]
    rw [o1] at G
    walk_at "rd"
    refine told_of G e19 fun u H20 s20 o20 => ?_
    obtain rfl : u = .non := o20
    walk_at "rd"
    rw [decide_eq_true rfl]
    walk_at "rd"
    refine ⟨rfl, ?_⟩
    walk_at "rd"
    refine ⟨"\n", pl, (lsR "b" t0 t1 n m).map lnText, rfl, rfl, .inl (SqL.of (s20 _ _ e19)), G.sz, ?_⟩
    walk_at "rd"
    refine ran_of G fun a dx wd i rr o k ws M H21 s21 ha hrr hw hd hs hcm hM => ?_
    refine r_methO ha rfl (lkQ_none (by decide +kernel)) ?_
    walk_at "rd"
    refine ⟨a, dx, wd, i, rr, o, k, ws, M.rows, rfl, ha, hrr, hw, hd, hs, hcm, ?_⟩
    walk_at "rd"
    rw [hcn M hM, decide_eq_true rfl]
    exact hk _ pl hpl8 fun c o _ e => s21 _ _ (s20 _ _ (s819 _ _ e))
theorem cal_L_rows_done_right (T : Tx K mg) : CalX P w K mg base 43 "_law_rows_done_right" (sp_box K) [] := by
  obtain ⟨fd, F⟩ := fn_L_rows_done_right T
  exact ⟨_, fd, _, [], ok_L_rows_done_right T F, g__law_rows_done_right T, F.kp, F.bindsN fun _ _ _ _ _ _ us hl => match us, hl with | [_], _ => rfl, .nil⟩

end
section
variable {P : Program} {w : World} {K : PySem.W.Frag} {mg : Str → Option Value} {base : Heap}
def sp_law (K : PySem.W.Frag) : Sp := fun vs H Q _ => ∃ (a : Addr) (ns : List Int), vs = [.ref a] ∧ SqL K H a (ns.map V.int) ∧ ns.length ≤ 63 ∧ ∀ H', Q (.bl true) H'
theorem BoxAt.same {H H' : Hp} {b : Addr} (h : BoxAt H b) (s : Same H H') : BoxAt H' b := by
  obtain ⟨x, y, z, e⟩ := h
  exact ⟨x, y, z, s _ _ e⟩
theorem _root_.L2.Same.seqL {K : PySem.W.Frag} {H H' : Hp} {a : Addr} {xs : List V} (e : Same H H') (h : SqL K H a xs) : SqL K H' a xs := by
  rcases h with h | h
  · rcases h with h | ⟨o, h⟩
    · exact Or.inl (Or.inl (e a _ h))
    · exact Or.inl (Or.inr ⟨o, e a _ h⟩)
  · exact Or.inr h
abbrev N_law : List Str := ["_law_script", "_law_k", "_law_box_here", "_law_j", "_law_most"]
theorem sc_law : FnScope ["_law_script", "_law_k", "_law_box_here", "_law_j", "_law_most"] ["_law_script"] (defScope s_law) := ⟨rfl, rfl, rfl, by decide +kernel, rfl, by decide +kernel, by decide +kernel⟩
theorem ok_law {f : Addr} {fd : FuncData} (T : Tx K mg)  (F : FunP K "law" "law" s_law f fd) : FnOk P w K mg base CX0 44 f fd ["_law_script"] (sp_law K) := by
  refine F.ok sc_law (fun vs H Q E h => ?_) (fun cdv A outer s H vs Q E hr h => ?_)
  · repeat first | (obtain ⟨e, _⟩ := h; subst e; rfl; done) | (obtain ⟨_, h⟩ := h)
  refine ⟨_, (PSs.nox (pss_cons (ps_for PassesOwn.never rfl (pi_range1 rfl (fr_range T) (pa_cons (pe_callB (call_max2 rfl) (by rfl) (fr_max T) (by decide +kernel) (pa_cons pe_int (pa_cons (pe_callB (call_min2 rfl) (by rfl) (fr_min T) (by decide +kernel) (pa_cons (pe_callB call_len_seq (by rfl) (fr_len T) (by decide +kernel) (pa_cons (pv 0) pa_nil)) (pa_cons pe_int pa_nil))) pa_nil))) pa_nil)) (pg_name (i := 1) sc_law.nd rfl (Or.inl rfl))
  (pss_cons (ps_set (i := 2) sc_law.nd rfl (Or.inl rfl) (pe_cX (cal_L_box T) hr (by decide) rfl passL (pa_cons (pe_cX (cal_L_cell T) hr (by decide) rfl passL (pa_cons (pv 0) (pa_cons (pv 1) pa_nil))) pa_nil)))
  (pss_cons (ps_if (PW.pt (pw_or (pt_not (pt_val (pe_cX (cal_L_lines_right T) hr (by decide) rfl passL (pa_cons (pv 2) pa_nil)))) (pw_or1 (pt_not (pt_val (pe_cX (cal_L_names_right T) hr (by decide) rfl passL (pa_cons (pv 2) pa_nil))))))) (pss_one (ps_ret pe_bl)) pss_nil)
  (pss_one (ps_for PassesOwn.never rfl (pi_range1 rfl (fr_range T) (pa_cons pe_int pa_nil)) (pg_name (i := 3) sc_law.nd rfl (Or.inl rfl))
  (pss_one (ps_if (PW.pt (pw_or (pt_not (pt_val (pe_cX (cal_L_loops_right T) hr (by decide) rfl passL (pa_cons (pv 2) pa_nil)))) (pw_or1 (pt_not (pt_val (pe_cX (cal_L_rows_done_right T) hr (by decide) rfl passL (pa_cons (pv 2) pa_nil))))))) (pss_one (ps_ret pe_bl)) pss_nil)))))))
  (pss_cons (ps_set (i := 4) sc_law.nd rfl (Or.inl rfl) (pe_lst (pa_cons pe_str (pa_cons pe_str (pa_cons pe_str (pa_cons pe_str (pa_cons pe_str (pa_cons pe_str (pa_cons pe_str (pa_cons pe_str pa_nil))))))))))
  (pss_one (ps_ret (pe_and (pe_cmp (pc_isN (pe_cX (cal_L_told T) hr (by decide) rfl passL (pa_cons (pv 4) pa_nil)))) (pe_one (pe_cmpR (op_eqD (hu64 hr)) (pe_cX (cal_L_told T) hr (by decide) rfl passL (pa_cons (pe_op op_cat (pe_slice sl_list (pv 4) po_none (po_some pe_int)) (pe_lst (pa_cons pe_str (pa_cons pe_str pa_nil)))) pa_nil)) (pe_tup (pa_cons pe_str (pa_cons (pe_un un_neg pe_int) pa_nil))) (nomark _))))))))), ?_⟩
  try dsimp only [cxK]
  obtain ⟨a, ns, rfl, ha, hlen, kq⟩ := h
  walk_at "rd"
  refine r_forI ?_
  walk_at "rd"
  refine r_lenL ha ?_
  walk_at "rd"
  refine ⟨_, _, rfl, ?_⟩
  walk_at "rd"
  refine ⟨_, _, rfl, ?_⟩
  walk_at "rd"
  generalize hcount : (if (if (12 : Int) < ((ns.map V.int).length : Int) then 12 else ((ns.map V.int).length : Int)) > 2 then (if (12 : Int) < ((ns.map V.int).length : Int) then 12 else ((ns.map V.int).length : Int)) else 2) = cc at *
  have c0 : 0 ≤ cc ∧ cc ≤ 12 := by
    rw [← hcount]
    constructor <;> split <;> (try split) <;> omega
  refine ⟨cc, rfl, by omega, by omega, ?_⟩
  refine r_frGo (fun i σ' H' => Same H H' ∧ ∃ o1 o2 o3 : Option V, σ' = (((L2.start N_law [V.ref a]).set 1 o1).set 2 o2).set 3 o3) ⟨Same.refl _, none, none, none, rfl⟩ ?_ ?_
  · rintro i σ' H1 hi ⟨s1, o1, o2, o3, rfl⟩
    walk_at "rd"
    refine ⟨a, ns, i, rfl, s1.seqL ha, fun z => ?_⟩
    walk_at "rd"
    refine ⟨z, rfl, fun b H2 hb s2 b2 => ?_⟩
    have keep : ∀ {A B : Hp}, Same H1 A → SameBut b A B → Same H1 B := fun f g c o e => g c o (ne_of_none e hb) (f c o e)
    walk_at "rd"
    refine ⟨b, rfl, b2, fun H3 b3 f3 => ?_⟩
    have s3 := keep s2 f3
    walk_at "rd"
    refine ⟨b, rfl, b3, fun H4 b4 f4 => ?_⟩
    have s4 := keep s3 f4
    walk_at "rd"
    dsimp only
    refine r_forI ?_
    walk_at "rd"
    refine ⟨3, rfl, by decide, by decide, ?_⟩
    refine r_frGo (m := 3) (fun j σ' H' => BoxAt H' b ∧ Same H1 H' ∧ ∃ o3 : Option V, σ' = (((L2.start N_law [V.ref a]).set 1 (some (.int (i : Nat)))).set 2 (some (.ref b))).set 3 o3) ⟨b4, s4, o3, rfl⟩ ?_ ?_
    · rintro j σ' H5 hj ⟨b5, s5, o, rfl⟩
      walk_at "rd"
      refine ⟨b, rfl, b5, fun H6 b6 f6 => ?_⟩
      have s6 := keep s5 f6
      walk_at "rd"
      refine ⟨b, rfl, b6, fun H7 b7 f7 => ?_⟩
      have s7 := keep s6 f7
      walk_at "rd"
      exact ⟨b7, s7, _, rfl⟩
    · rintro σ' H5 ⟨b5, s5, o, rfl⟩
      exact ⟨s1.trans s5, _, _, _, rfl⟩
  · rintro σ' H1 ⟨s1, o1, o2, o3, rfl⟩
    have G1 := goodB_ok most1
    have G2 := goodB_ok most2
    walk_at "rd"
    refine r_newL fun pl hpl => ?_
    have e2 : upd H1 pl (.lst [V.str "width 9", V.str "in b plain", V.str "repeat 24", V.str "repeat 25", V.str "b = copy b", V.str "end", V.str "end", V.str "out b"]) pl = some (.lst [V.str "width 9", V.str "in b plain", V.str "repeat 24", V.str "repeat 25", V.str "b = copy b", V.str "end", V.str "end", V.str "out b"]) := upd_same
    generalize upd H1 pl (.lst [V.str "width 9", V.str "in b plain", V.str "repeat 24", V.str "repeat 25", V.str "b = copy b", V.str "end", V.str "end", V.str "out b"]) = H2 at *
    walk_at "rd"
    refine told_of G1 e2 fun u H3 s3 o3 => ?_
    obtain rfl : u = .non := o3
    walk_at "rd"
    rw [decide_eq_true rfl]
    walk_at "rd"
    have e3 := s3 _ _ e2
    refine r_slL (SqL.of e3) fun q4 h4 => ?_
    rw [show cutV [V.str "width 9", V.str "in b plain", V.str "repeat 24", V.str "repeat 25", V.str "b = copy b", V.str "end", V.str "end", V.str "out b"] none (some (7 : Int)) = [V.str "width 9", V.str "in b plain", V.str "repeat 24", V.str "repeat 25", V.str "b = copy b", V.str "end", V.str "end"] from cutTake _ (k := 7) (by show 7 ≤ 8; decide)]
    have e4 : upd H3 q4 (.lst [V.str "width 9", V.str "in b plain", V.str "repeat 24", V.str "repeat 25", V.str "b = copy b", V.str "end", V.str "end"]) q4 = some (.lst [V.str "width 9", V.str "in b plain", V.str "repeat 24", V.str "repeat 25", V.str "b = copy b", V.str "end", V.str "end"]) := upd_same
    generalize upd H3 q4 (.lst [V.str "width 9", V.str "in b plain", V.str "repeat 24", V.str "repeat 25", V.str "b = copy b", V.str "end", V.str "end"]) = H4 at *
    walk_at "rd"
    refine r_newL fun q5 h5 => ?_
    have s5 := Same.new (o := .lst [V.str "b = copy b", V.str "out b"]) h5
    have e5 : upd H4 q5 (.lst [V.str "b = copy b", V.str "out b"]) q5 = some (.lst [V.str "b = copy b", V.str "out b"]) := upd_same
    have e45 := s5 _ _ e4
    generalize upd H4 q5 (.lst [V.str "b = copy b", V.str "out b"]) = H5 at *
    refine r_cat e45 e5 (by show 7 + 2 ≤ _; decide) fun q6 h6 => ?_
    have e6 : upd H5 q6 (.lst ([V.str "width 9", V.str "in b plain", V.str "repeat 24", V.str "repeat 25", V.str "b = copy b", V.str "end", V.str "end"] ++ [V.str "b = copy b", V.str "out b"])) q6 = some (.lst ([V.str "width 9", V.str "in b plain", V.str "repeat 24", V.str "repeat 25", V.str "b = copy b", V.str "end", V.str "end"] ++ [V.str "b = copy b", V.str "out b"])) := upd_same
    generalize upd H5 q6 (.lst ([V.str "width 9", V.str "in b plain", V.str "repeat 24", V.str "repeat 25", V.str "b = copy b", V.str "end", V.str "end"] ++ [V.str "b = copy b", V.str "out b"])) = H6 at *
    walk_at "rd"
    refine told_of G2 e6 fun u2 H7 s7 o7 => ?_
    walk_at "rd"
    refine r_newL fun q8 h8 => ?_
    have s8 := Same.new (o := .tup [V.str "much", V.int (-1)]) h8
    have e8 : upd H7 q8 (.tup [V.str "much", V.int (-1)]) q8 = some (.tup [V.str "much", V.int (-1)]) := upd_same
    generalize upd H7 q8 (.tup [V.str "much", V.int (-1)]) = H8 at *
    refine r_eqO (o := some ("much", -1)) (o' := some ("much", -1)) (o7.on s8) ⟨q8, rfl, e8⟩ (shM _) (shM _) ?_
    rw [decide_eq_true rfl]
    exact kq _
theorem facts {P : Program} {w : World} {K : PySem.W.Frag} {h : Heap} {mg : Str → Option Value} {f : Addr} (X : K.In h) (G : h.Ns mainGlobals mg) (hfa : mg ("law" : Str) = some (.ref f)) (c : He2.SaysM faL fnL exB K) :
    ∃ fd : FuncData, (∀ (s : Shared) (v : Value), BindsTo s fd ⟨[v], []⟩ [("_law_script", v)]) ∧ ∀ base : Heap, K.In base → base.Ns mainGlobals mg → FnOk P w K mg base CX0 44 f fd ["_law_script"] (sp_law K) := by
  have T : Tx K mg := ⟨c, h, X, G⟩
  obtain ⟨fd, F⟩ := fn_law T
  have e := hfa.symm.trans (g_law T)
  cases e
  have b := FunD.bindsA (ps := ["_law_script"]) F fun _ _ _ _ _ _ us hl => match us, hl with | [_], _ => rfl
  exact ⟨fd, fun s v => b s [v] rfl, fun base _ _ => ok_law T F⟩
end
end OW
open PySem PySem.W PySem.Calls PyProof.Rows
set_option maxHeartbeats 0 in
theorem PySem.Challenge.cw_overwise_k68_too_much_holds : PySem.Challenge.rw_overwise_k68_too_much.Holds := by
  w_on; o_law
  refine HandSHeadRun.head_any (r := OpenLaw.row PySem.Challenge.rw_overwise_k68_too_much) (q := view (OpenLaw.row PySem.Challenge.rw_overwise_k68_too_much).prog [61]) (H := OW.hk) (ob := OW.ob) (M := 20000) (loose := OW.looseL) (d := HandSHeadRun.topDef (OpenLaw.row PySem.Challenge.rw_overwise_k68_too_much).prog 61) (kwd := []) OW.ob_eq
    (by kernel_rfl) (fun s => by kernel_rfl) OW.run (by kernel_rfl) (by kernel_rfl) (by kernel_rfl) (by rfl) (by first | assumption | decide +kernel) (by decide +kernel) ⟨rfl, rfl, rfl, rfl, rfl, by decide +kernel⟩ ?hw ?hc
  case hw => w_witness2
  case hc =>
    refine L2.walk_ofE (l := PySem.Challenge.rw_overwise_k68_too_much) (n := 63) (k := 44) (x := "_law_script") (CX := L2.CX0) rfl (by decide) (by kernel_rfl) ⟨rfl, by decide, by decide⟩ ?F (fun _ _ _ _ z => z)
    intro w mg fa h Y G hmg0
    obtain ⟨K, KX, c⟩ := Y
    have hmg : mg ("law" : PySem.Str) = some (.ref fa) := by
      have e : (HandSHeadRun.topDef (OpenLaw.row PySem.Challenge.rw_overwise_k68_too_much).prog 61).name = ("law" : PySem.Str) := by kernel_rfl
      rw [← e]
      exact hmg0
    obtain ⟨fd, hb, hF⟩ := OW.facts (P := (PySem.Challenge.rw_overwise_k68_too_much).prog) (w := w) KX G hmg c
    exact ⟨K, fd, OW.sp_law K, KX, hb, fun H a ns hl _ hS => ⟨a, ns, rfl, hS, hl, fun _ => rfl⟩, hF⟩
