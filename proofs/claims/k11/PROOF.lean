import PyProof.Rows.All
import Wide.All
import OpenK.AllK
import Wide.FinOn
import PyProof.ReprRoads
import HandS.ForMost
import HandS.ForExc
import HandS.ExcInit
import HandS.ExcField
import HandS.ExcIs
import HandS.TryMany
import HandS.IsInst
import HandS.Defaults
import HandS.Property
import HandS.Wide
import HandS.FStr
import HandS.StrMore
import HandS.Steps
import HandS.CallSlots
import HandS.Head0
import HandS.Head1
import HandS.Head2
import HandS.HeadEnd
import HandS.HeadHook1
import HandS.HeadHook2
import HandS.ClsMeth
import HandS.Walk
import KE.KOpsOwn
import HandS.OwnEq
import PyProof.NeKinds
import KE.GoesMore
import HandS.Zip
import HandS.Evl
import HandS.DictComp
import KE.IntTextLaws
import HandS.Style
import PySem.Challenge.RW_anytempo_k11_maps_refused
set_option Elab.async false
set_option linter.all false
set_option maxRecDepth 100000
set_option maxHeartbeats 4000000
namespace AT
open PySem PySem.Spec PyProof.Rows L2
/-! ### the hook: facts of what the top leaves -/
def asA (g : Addr → Option Obj) : Nat → List Addr
  | 0 => [mainGlobals, cStatics]
  | n + 1 => He.growD g (asA g n)
/-- one def: where it stands, its name, qualified name, parameters, body, scope, defaults, keyword-only defaults -/
structure FD where
  loc : PySem.W.Frag → Addr
  name : Str
  qual : Str
  params : Arguments
  body : List Stmt
  scope : Scope
  dfl : List He.Dv := []
  kwd : List (Str × He.Dv) := []
def fdOf (loc : PySem.W.Frag → Addr) (name qual : Str) (st : Stmt) (dfl : List He.Dv := []) (kwd : List (Str × He.Dv) := []) : FD := ⟨loc, name, qual, defArgs st, defBody st, defScope st, dfl, kwd⟩
def fobs (K : PySem.W.Frag) (a : Addr) : He.FnW := match K.lookup a with
  | some ⟨_, _, .func u, _⟩ => some (u.name, u.qualname, u.params, u.body, u.scope, u.globals, u.closure, u.builtins)
  | _ => none
def FD.val (d : FD) : He.FnW := some (d.name, d.qual, d.params, .stmts d.body, d.scope, mainGlobals, [], builtinsNs)
def FD.dvs (K : PySem.W.Frag) (d : FD) : List V := d.dfl.map (He.Dv.v K)
def FD.kws (K : PySem.W.Frag) (d : FD) : List (Str × V) := d.kwd.map fun z => (z.1, z.2.v K)
def FD.ok (K : PySem.W.Frag) (d : FD) : Bool := PySem.W.keepIn K (.ref (d.loc K)) && (match K.lookup (d.loc K) with
  | some ⟨_, _, .func u, _⟩ => PySem.W.codeIn K u.code d.qual && (He.dflB K u.defaults (d.dvs K) && He.kwdB K u.kwdefaults (d.kws K))
  | _ => false)
theorem FD.funD {K : PySem.W.Frag} {d : FD} (e : fobs K (d.loc K) = d.val) (c : d.ok K = true) : ∃ fd, FunD K d.name d.qual d.params d.body d.scope (d.dvs K) (d.kws K) (d.loc K) fd := by
  obtain ⟨kp, c2⟩ := He.ba c
  unfold fobs at e
  cases hl : K.lookup (d.loc K) with
  | none =>
    rw [hl] at c2
    cases c2
  | some o =>
    obtain ⟨oc, od, dt, osl⟩ := o
    rw [hl] at c2 e
    cases dt with
    | func u =>
      obtain ⟨u1, u2, u3, u4, u5, u6, u7, u8, u9, u10, u11, u12, u13, u14, u15⟩ := u
      have e2 : (some (u1, u2, u3, u4, u5, u6, u7, u15) : He.FnW) = some (d.name, d.qual, d.params, .stmts d.body, d.scope, mainGlobals, [], builtinsNs) := e
      simp only [Option.some.injEq, Prod.mk.injEq] at e2
      obtain ⟨rfl, rfl, rfl, rfl, rfl, rfl, rfl, rfl⟩ := e2
      obtain ⟨k1, k2⟩ := He.ba (show (PySem.W.codeIn K u13 d.qual && (He.dflB K u8 (d.dvs K) && He.kwdB K u9 (d.kws K))) = true from c2)
      obtain ⟨k3, k4⟩ := He.ba k2
      exact ⟨_, ⟨oc, od, u8, u9, u10, u11, u12, u13, u14, osl, rfl, hl, k1, He.dflB_ok k3, He.kwdB_ok k4⟩, kp⟩
    | _ => cases c2
/-- the getter of a property of the class x -/
def propAt (x f : Str) (K : PySem.W.Frag) : Addr := match PySem.W.findIn K (.ref (He.ga K x)) f with
  | some (some (.ref p)) => (match PySem.W.recIn K p "property" with
    | some (.ref g :: _) => g
    | _ => 0)
  | _ => 0
abbrev AlA : Type := Bool × List He.FnW
abbrev Ex := List (PySem.W.Frag → Bool)
def obsA (fn : List FD) (ex : Ex) (K : PySem.W.Frag) : AlA :=
  (ex.all (fun e => e K) && fn.all (fun d => d.ok K), fn.map fun d => fobs K (d.loc K))
def valA (fn : List FD) : AlA := (true, fn.map FD.val)
def SaysA (fn : List FD) (ex : Ex) (K : PySem.W.Frag) : Prop := obsA fn ex K = valA fn
def obsAG (n : Nat) (fn : List FD) (ex : Ex) (g : Addr → Option Obj) : AlA := obsA fn ex (He.frG g (sysModules :: asA g n))
def hookA (n : Nat) (fn : List FD) (ex : Ex) : PySem.W.Hook where
  α := AlA
  obs := fun s => obsAG n fn ex s.heap.get?
  val := fun _ => valA fn
  says := fun _ h => ∃ K : PySem.W.Frag, K.In h ∧ SaysA fn ex K
  of := fun _ _ e => ⟨_, He.frG_in, e⟩
  keeps := fun _ _ _ ⟨K, hK, c⟩ k => ⟨K, PySem.W.Frag.In.keeps hK k, c⟩
theorem obsAG_eq {n : Nat} {fn : List FD} {ex : Ex} {g : Addr → Option Obj} {s : Shared} (h : ∀ a, g a = s.heap.get? a) : obsAG n fn ex g = (hookA n fn ex).obs s := by
  have q : g = s.heap.get? := funext h
  subst q
  rfl
section
variable {fn : List FD} {ex : Ex} {K : PySem.W.Frag}
theorem SaysA.more (c : SaysA fn ex K) (i : Nat) {e : PySem.W.Frag → Bool} (h : ex[i]? = some e := by rfl) : e K = true :=
  List.all_eq_true.mp (He.ba (congrArg (fun z : AlA => z.1) c)).1 e (List.mem_of_getElem? h)
theorem SaysA.fun_ (c : SaysA fn ex K) (i : Nat) {d : FD} (h : fn[i]? = some d := by rfl) : ∃ fd, FunD K d.name d.qual d.params d.body d.scope (d.dvs K) (d.kws K) (d.loc K) fd := by
  have c2 := (He.ba (show (ex.all (fun e => e K) && fn.all (fun d => d.ok K)) = true from congrArg (fun z : AlA => z.1) c)).2
  have e2 : (fn.map fun d => fobs K (d.loc K))[i]? = (fn.map FD.val)[i]? := congrArg (fun z : AlA => z.2[i]?) c
  rw [List.getElem?_map, List.getElem?_map, h] at e2
  exact FD.funD (Option.some.inj e2) (List.all_eq_true.mp c2 d (List.mem_of_getElem? h))
end
/-! ### facts of the module's names -/
def gloB (x : Str) (K : PySem.W.Frag) : Bool := He.eqO (PySem.W.nsIn K mainGlobals x) (some (some (.ref (He.ga K x))))
def freeB (x : Str) (K : PySem.W.Frag) : Bool := He.eqO (PySem.W.nsIn K mainGlobals x) (some none)
def conB (x : Str) (v : V) (K : PySem.W.Frag) : Bool := match PySem.W.nsIn K mainGlobals x with
  | some (some u) => He.relB v u
  | _ => false
theorem conB_ok {K : PySem.W.Frag} {h : Heap} {mg : Str → Option Value} {x : Str} {v : V} (X : K.In h) (G : h.Ns mainGlobals mg) (c : conB x v K = true) : ∃ u, mg x = some u ∧ RelV v u := by
  unfold conB at c
  split at c
  · rename_i u hu
    exact ⟨u, PySem.W.mg_of X G hu, He.relB_ok c⟩
  · cases c
def clsB (x : Str) (K : PySem.W.Frag) : Bool := (He.Fa.cls x).ok K
def noatB (x f : Str) (K : PySem.W.Frag) : Bool := (He.Fa.noat x f).ok K
def methB (x f : Str) (K : PySem.W.Frag) : Bool := (He.Fa.meth x f).ok K
def mkrB (x : Str) (K : PySem.W.Frag) : Bool := (He.Fa.mkr x).ok K
def exmB (x y : Str) (b : Bool) (K : PySem.W.Frag) : Bool := (He.Fa.exm x y b).ok K
def lstB (x : Str) (vs : List He.Dv) (K : PySem.W.Frag) : Bool := He.lstB K x vs
/-- a property of the class x: PropOf -/
def propB (x f : Str) (K : PySem.W.Frag) : Bool := match PySem.W.findIn K (.ref (He.ga K x)) f with
  | some (some (.ref p)) => He.eqO (PySem.W.specialIn K (.ref p) "__get__") (some (some (.builtin "property.__get__"))) && (decide (PySem.W.takesIn K (.ref p) = some true) && (match PySem.W.recIn K p "property" with
    | some (.ref _ :: _) => true
    | _ => false))
  | _ => false
theorem propB_ok {K : PySem.W.Frag} {x f : Str} (h : propB x f K = true) : ∃ p, PropOf K (He.ga K x) f p (propAt x f K) := by
  unfold propB at h
  split at h
  · rename_i p hp
    obtain ⟨h1, h⟩ := He.ba h
    obtain ⟨h2, h3⟩ := He.ba h
    split at h3
    · rename_i g rest hr
      have e : propAt x f K = g := by
        unfold propAt
        rw [hp]
        simp only [hr]
      exact ⟨p, hp, He.eqO_ok h1, of_decide_eq_true h2, rest, by rw [e]; exact hr⟩
    · cases h3
  · cases h
/-- isinstance of instances of the own class x -/
def insB (x : Str) (K : PySem.W.Frag) : Bool := He.eqO (PySem.W.findIn K (.ref (He.ga K x)) "__class__") (some (some (.builtin "object.__class__"))) &&
  (He.eqO (PySem.W.specialIn K (.builtin "object.__class__") "__get__") (some (some (.builtin "getset_descriptor.__get__"))) &&
  (decide (PySem.W.takesIn K (.builtin "object.__class__") = some true) && decide (PySem.W.mroIn K (He.ga K x) (.type "object") = some true)))
theorem insB_ok {K : PySem.W.Frag} {x : Str} (h : insB x K = true) (c : Cls K (He.ga K x)) {H : Hp} {a dx : Addr} {fs : List (Str × V)} (e : H a = some (.ins (He.ga K x) dx fs)) : TyX K H (.ref a) (.ref (He.ga K x)) := by
  obtain ⟨h1, h⟩ := He.ba h
  obtain ⟨h2, h⟩ := He.ba h
  obtain ⟨h3, h4⟩ := He.ba h
  exact .base (.ins e c (He.eqO_ok h1) (He.eqO_ok h2) (of_decide_eq_true h3) (of_decide_eq_true h4))
/-- isinstance of a value of the type t (built-in, by name; "" : the own class x) with the class c -/
def kitB (t : PySem.W.Frag → Value) (c : PySem.W.Frag → Value) (b : Bool) (K : PySem.W.Frag) : Bool := decide (PySem.W.kitOne K (t K) (c K) = some b)
theorem kitB_ok {K : PySem.W.Frag} {t c : PySem.W.Frag → Value} {b : Bool} (h : kitB t c b K = true) : PySem.W.kitOne K (t K) (c K) = some b := of_decide_eq_true h
/-- sys.modules stands in the part that is looked at -/
def sysB (K : PySem.W.Frag) : Bool := match K.lookup sysModules with
  | some ⟨.type c, _, _, _⟩ => decide (c = "dict")
  | _ => false
theorem sysB_ok {K : PySem.W.Frag} (h : sysB K = true) : ∃ o, K.lookup sysModules = some o ∧ o.cls = .type "dict" := by
  unfold sysB at h
  split at h
  · rename_i c dd dt sl ho
    exact ⟨_, ho, congrArg Value.type (of_decide_eq_true h)⟩
  · cases h
/-! ### exception classes: what is looked at -/
/-- an own class over ValueError with its own __init__, with the base class at B of the package -/
def excB (K : PySem.W.Frag) (C : Addr) : Bool := match K.lookup C with
  | some ⟨.type t, _, .cls cd, sl⟩ => (match cd.mro, sl.toList with
    | .ref D :: bm, [_, _, _, _, some (.builtin n), _] => decide (t = "type") && (decide (D = C) && (decide (n = "ValueError.__new__") && (!cd.hasDel && (cd.hasDict && HandSPX.refsVE bm))))
    | _, _ => false)
  | _ => false
theorem excB_ok {K : PySem.W.Frag} {C : Addr} (h : excB K C = true) :
    ∃ nm q N bs bm sn sub ab col dd k0 k1 k2 k3 k5, K.lookup C = some (excClassObj nm q C N bs bm true sn sub ab col dd k0 k1 k2 k3 k5 "ValueError.__new__") ∧ PySem.HandSPX.refsVE bm = true := by
  unfold excB at h
  split at h
  · rename_i t dd cd sl ho
    split at h
    · rename_i D bm k0 k1 k2 k3 n k5 hm hs
      simp only [Bool.and_eq_true, decide_eq_true_eq, Bool.not_eq_true'] at h
      obtain ⟨rfl, rfl, rfl, hdel, hdic, ht⟩ := h
      obtain ⟨nm, bs, mro, ns, qn, hd, sn, sub, ab, col, del⟩ := cd
      dsimp only at hm hdel hdic
      subst hm hdel hdic
      have hsl : sl = #[k0, k1, k2, k3, some (.builtin "ValueError.__new__"), k5] := by
        obtain ⟨l⟩ := sl
        simp only at hs
        rw [hs]
      subst hsl
      exact ⟨nm, qn, ns, bs, bm, sn, sub, ab, col, dd, k0, k1, k2, k3, k5, ho, ht⟩
    · cases h
  · cases h
/-- all that is asked of an exception class x with the field f -/
def xcB (K : PySem.W.Frag) (x f : Str) : Bool :=
  excB K (He.ga K x) && (He.eqO (PySem.W.findIn K (.ref (He.ga K x)) "__setattr__") (some (some (.builtin "object.__setattr__"))) &&
  (decide (PySem.W.subIn K (.ref (He.ga K x)) (.type "BaseException") = some true) && (decide (PySem.W.typeIn K (.ref (He.ga K x)) = some (.type "type")) &&
  (PySem.W.keepIn K (.ref (He.ga K x)) && (He.eqO (PySem.W.findIn K (.ref (He.ga K x)) f) (some none) && (xfB K (He.ga K x) &&
  (He.eqO (PySem.W.findIn K (.ref (He.ga K x)) "__init__") (some (some (.ref (He.ma K (He.ga K x) "__init__")))) &&
  (decide (PySem.W.typeIn K (.ref (He.ma K (He.ga K x) "__init__")) = some (.type "function")) &&
  He.eqO (PySem.W.nsIn K mainGlobals x) (some (some (.ref (He.ga K x)))))))))))) 
structure Xc (K : PySem.W.Frag) (x f : Str) : Prop where
  oex : OexC K (He.ga K x)
  xf : XfC K (He.ga K x)
  no : PySem.W.findIn K (.ref (He.ga K x)) f = some none
  ini : PySem.W.findIn K (.ref (He.ga K x)) "__init__" = some (some (.ref (He.ma K (He.ga K x) "__init__")))
  tyi : PySem.W.typeIn K (.ref (He.ma K (He.ga K x) "__init__")) = some (.type "function")
  glo : PySem.W.nsIn K mainGlobals x = some (some (.ref (He.ga K x)))
theorem xcB_ok {K : PySem.W.Frag} {x f : Str} (h : xcB K x f = true) : Xc K x f := by
  obtain ⟨h1, h⟩ := He.ba h
  obtain ⟨h2, h⟩ := He.ba h
  obtain ⟨h3, h⟩ := He.ba h
  obtain ⟨h4, h⟩ := He.ba h
  obtain ⟨h5, h⟩ := He.ba h
  obtain ⟨h6, h⟩ := He.ba h
  obtain ⟨h7, h⟩ := He.ba h
  obtain ⟨h8, h⟩ := He.ba h
  obtain ⟨h9, h10⟩ := He.ba h
  exact ⟨⟨excB_ok h1, He.eqO_ok h2, of_decide_eq_true h3, of_decide_eq_true h4, h5⟩, xfB_ok h7, He.eqO_ok h6, He.eqO_ok h8, of_decide_eq_true h9, He.eqO_ok h10⟩
def valB (c : Option PySem.W.CFound) (u : Value) : Bool := match c with
  | some (.val v) => decide (v = u)
  | _ => false
theorem valB_ok {c : Option PySem.W.CFound} {u : Value} (h : valB c u = true) : c = some (.val u) := by
  unfold valB at h
  split at h
  · rw [of_decide_eq_true h]
  · cases h
/-- the base class of the package: B.__init__ is ValueError's -/
def baB (K : PySem.W.Frag) (B : Str) : Bool :=
  PySem.W.readsIn K (He.ga K B) (.type "type") && (He.eqO (PySem.W.specialIn K (.ref (He.ga K B)) "__getattribute__") (some (some (.builtin "type.__getattribute__"))) &&
  (valB (PySem.W.findCls K (.ref (He.ga K B)) (.type "type") "__init__") (.builtin "ValueError.__init__") &&
  He.eqO (PySem.W.nsIn K mainGlobals B) (some (some (.ref (He.ga K B))))))
structure Ba (K : PySem.W.Frag) (B : Str) : Prop where
  rd : PySem.W.readsIn K (He.ga K B) (.type "type") = true
  ga : PySem.W.specialIn K (.ref (He.ga K B)) "__getattribute__" = some (some (.builtin "type.__getattribute__"))
  ini : PySem.W.findCls K (.ref (He.ga K B)) (.type "type") "__init__" = some (.val (.builtin "ValueError.__init__"))
  glo : PySem.W.nsIn K mainGlobals B = some (some (.ref (He.ga K B)))
theorem baB_ok {K : PySem.W.Frag} {B : Str} (h : baB K B = true) : Ba K B := by
  obtain ⟨h1, h⟩ := He.ba h
  obtain ⟨h2, h⟩ := He.ba h
  obtain ⟨h3, h4⟩ := He.ba h
  exact ⟨h1, He.eqO_ok h2, valB_ok h3, He.eqO_ok h4⟩
end AT

set_option maxHeartbeats 4000000
namespace AT
open PySem PySem.Spec PyProof.Rows L2
section
variable {X : Cx} {e : Expr} {es : List Expr} {ta : TA} {B : Str} {p1 p2 pos : Pos}
/-- B.__init__(self, ..), B an own class over ValueError -/
theorem pe_cinit {look : Sem Bool} (T : Ba X.K B) (hB : Gl X B) (hmB : X.mg B = some (.ref (He.ga X.K B))) (hA : PA X (e :: es) ta)
    (hev : eval (.Call (.Attribute (.Name B p1) "__init__" p2) (e :: es) [] pos) X.env = (do
      let cv ← eval (.Name B p1) X.env
      standAt p2.atName
      let (fv, frst) ← holding [cv] (getMethod cv "__init__" look)
      callWith pos fv frst (backTo pos (starEach (e :: es) X.env)) (backToKw pos (keywordEach [] X.env))) := by rfl)
    (hdb : (B == ("__debug__" : Str)) = false := by decide)
    (hst : starEach (e :: es) X.env = (false, eval e X.env) :: starEach es X.env := by rfl) (hns : (backTo pos (starEach es X.env)).any (·.1) = false := by rfl) :
    PE X (.Call (.Attribute (.Name B p1) "__init__" p2) (e :: es) [] pos) (tVeI X.K ta) := by
  constructor
  intro pins s σ H Q I h
  refine PySem.W.methodCall_KW (ld_glob I hB hmB ?_ hdb) hev
  refine PySem.W.method_cls I.kIn T.ga (PySem.W.cls_value I.kIn T.rd T.ini (by decide +kernel) ?_)
  show wpAny _ _ (callWith pos (Value.builtin "ValueError.__init__") [] (backTo pos (starEach (e :: es) X.env)) []) _ _ _
  refine PyProof.Rows.callWith_method1 (thn (hA.run pos pins _ σ H _ (I.tok _) h) fun vals s1 ⟨vs, H1, I1, r1, a, C, ws, ev, hl, To, ea, q⟩ => ?_) hst hns
  subst ev
  cases r1 with
  | @cons _ v0 _ vr ra rr =>
    obtain rfl : v0 = Value.ref a := ra
    refine oinit_ok To I1 ea ?_ fun s' J => ⟨.non, H1, J, rfl, q⟩
    rw [← Paired.length rr, sizeLine_eq]
    omega
end
/-- what an exception's own __init__(self, f) promises -/
def spXi (K : PySem.W.Frag) (C : Addr) (f : Str) : Sp := fun vs H Q _ => ∃ (a : Addr) (v : V), vs = [.ref a, v] ∧ OexC K C ∧ PySem.W.findIn K (.ref C) f = some none ∧ H a = some (exo a C none) ∧
  ∀ d, H d = none → d ≠ a → Q .non (upd (upd H d (exd d [(f, v)])) a (exo a C (some d)))
/-- its body's reading -/
theorem xi_reading {K : PySem.W.Frag} {C : Addr} {f : Str} {t : Str} {N : List Str} (hN : N = [("self" : Str), f]) (vs : List V) (H : Hp) (Q : VK) (E : XK) (h : spXi K C f vs H Q E) :
    tSeq (tDrop (tVeI K (tCons (tVar 0) (tCons (tC (.str t)) tNil)))) (tOst K f (tVar 0) (tVar 1)) { nx := fun _ H' => Q .non H', rt := Q } (start N vs) H := by
  obtain ⟨a, v, rfl, T, no, ha, k⟩ := h
  subst hN
  refine ⟨_, rfl, a, C, [.str t], rfl, (by show 1 ≤ 1000; decide), T, ha, _, rfl, _, rfl, a, C, rfl, T, no, .inl ⟨ha, k⟩⟩
/-- X(e) -/
abbrev tMk1 (K : PySem.W.Frag) (C : Addr) (f : Str) (te : TE) : L2.St → Hp → XK → Prop := tMkO C (spXi K C f) [] (tCons te tNil)
/-- an exception class x with the field f may be made in X -/
structure MkX (X : Cx) (x f : Str) : Prop where
  run : ∀ {e : Expr} {te : TE} {p pos : Pos}, Gl X x → PE X e te → starEach [e] X.env = (false, eval e X.env) :: starEach [] X.env → PMk X (.Call (.Name x p) [e] [] pos) (tMk1 X.K (He.ga X.K x) f te)
theorem heap_back {H1 : Hp} {a d C : Addr} {fs : List (Str × V)} {o : HO} (ha : H1 a = none) (hd : d ≠ a) :
    upd (del (upd (upd (upd H1 a (exo a C none)) d o) a (exo a C (some d))) a) d (.xd fs) = upd H1 d (.xd fs) := by
  funext b
  by_cases h1 : b = d
  · subst h1
    rw [upd_same, upd_same]
  · rw [upd_ne h1, upd_ne h1]
    by_cases h2 : b = a
    · subst h2
      rw [del_same, ha]
    · rw [del_ne h2, upd_ne h2, upd_ne h1, upd_ne h2]
/-- behind e's value: what the raise asks -/
theorem mk_at {K : PySem.W.Frag} {C : Addr} {f : Str} {v : V} {H1 : Hp} {Q : XK} (T : OexC K C) (no : PySem.W.findIn K (.ref C) f = some none) (k : ∀ d, H1 d = none → Q (.ref C) (some d) (upd H1 d (.xd [(f, v)]))) :
    [v].length ≤ 1000 ∧ ∀ a, H1 a = none → spXi K C f (.ref a :: ([v] ++ [])) (upd H1 a (exo a C none))
      (fun r H2 => r = .non ∧ ∃ (d : Addr) (fs : List (Str × V)), H2 a = some (exo a C (some d)) ∧ H2 d = some (exd d fs) ∧ H1 d = none ∧ Q (.ref C) (some d) (upd (del H2 a) d (.xd fs))) (fun _ _ _ => False) := by
  refine ⟨(by show 1 ≤ 1000; decide), fun a ha => ⟨a, v, rfl, T, no, upd_same, fun d hd hda => ?_⟩⟩
  have hd1 : H1 d = none := by rw [upd_ne hda] at hd; exact hd
  refine ⟨rfl, d, [(f, v)], upd_same, ?_, hd1, ?_⟩
  · rw [upd_ne hda, upd_same]
  · rw [heap_back ha hda]
    exact k d hd1
theorem mkX_of {X : Cx} {x f : Str} {k : Nat} {fd : FuncData} (T : Xc X.K x f) (hm : X.mg x = some (.ref (He.ga X.K x))) (F : FnOk X.prog X.w X.K X.mg X.base (L2.CX X.prog X.w) k (He.ma X.K (He.ga X.K x) "__init__") fd [("self" : Str), f] (spXi X.K (He.ga X.K x) f))
    (hb : Binds X.K fd [("self" : Str), f] []) (hr : Room (k + 1) X.A) (hdb : (x == ("__debug__" : Str)) = false := by decide) : MkX X x f := by
  refine ⟨fun {e te p pos} hg he hst => ?_⟩
  exact pmk_oex T.oex T.ini T.tyi F hr hb .nil passL hg hm (pa_cons he pa_nil hst) hdb hst rfl
/-- raise X(e) -/
theorem ps_rs {X : Cx} {x f : Str} {W : WX} {e : Expr} {te : TE} {p pos pos2 : Pos} (hc : X.calm = true) (M : MkX X x f) (tk : Takes X W) (hg : Gl X x) (he : PE X e te) (hst : starEach [e] X.env = (false, eval e X.env) :: starEach [] X.env := by rfl) :
    PS X (.Raise (some (.Call (.Name x p) [e] [] pos)) none pos2) (fun _ σ H => tMk1 X.K (He.ga X.K x) f te σ H fun cls d H' => W cls d σ H') := ps_raise hc tk (M.run hg he hst)
end AT

set_option maxHeartbeats 4000000
namespace AT
open PySem PySem.Spec PyProof.Rows L2
/-- a clause: the class, the name's slot, the suite's reading -/
abbrev Cla := Value × Nat × (Addr → Value → Option Addr → TS)
def wMas (K : PySem.W.Frag) (Wo : WX) (D : Ends) : List Cla → WX
  | [] => Wo
  | (c, i, ts) :: r => fun cls d σ H => ∃ b, PySem.W.exmOne K cls c = some b ∧
      (b = true → ∀ a, H a = none → ts a cls d { nx := fun σ' H' => D.nx (σ'.set i none) H', rt := D.rt, bk := fun σ' H' => D.bk (σ'.set i none) H', ct := fun σ' H' => D.ct (σ'.set i none) H' } (σ.set i (some (.ref a))) H) ∧
      (b = false → wMas K Wo D r cls d σ H)
inductive HdsAs (X : Cx) : List ExceptHandler → List Cla → Prop
  | nil : HdsAs X [] []
  | cons {x n : Str} {c : Value} {i : Nat} {ts : Addr → Value → Option Addr → TS} {s1 : Stmt} {ss : List Stmt} {q1 q2 : Pos} {hds : List ExceptHandler} {l : List Cla} (hN : X.N.Nodup) (hi : X.N[i]? = some n) (hl : X.env.kindOf n = some .local) (hc : Names X x c)
      (hsu : ∀ (a : Addr) (oe : Obj) (cls : Value) (d : Option Addr) (pn : List (Addr × Obj)), Zc cls d oe → (∃ vs, oe.data = .fields vs) → PSs (X.suite a ((a, oe) :: pn)) (s1 :: ss) (ts a cls d)) (r : HdsAs X hds l) :
      HdsAs X (.ExceptHandler (some (.Name x q1)) (some n) (s1 :: ss) q2 :: hds) ((c, i, ts) :: l)
section
variable {X : Cx} {bd : List Stmt} {hd0 : ExceptHandler} {hds : List ExceptHandler} {l : List Cla} {pos : Pos} {tb : WX → TS} {Wo : WX}
theorem ps_try_mas (stk : X.stack = X.env :: X.outer) (frm : X.env.frame = some X.env.locals) (tkn : Takes X Wo)
    (hbd : ∀ (W : WX) (pn : List (Addr × Obj)) (xe : Value → Shared → Prop), Takes (X.tr pn xe) W → PassesOwn (model X.prog X.w) X.A X.env xe → PSs (X.tr pn xe) bd (tb W))
    (hhs : HdsAs X (hd0 :: hds) l) : PS X (.Try bd (hd0 :: hds) [] [] pos) (fun D σ H => tb (wMas X.K Wo D l) D σ H) := by
  constructor
  intro pins s σ H D I h
  have oki := I.ok
  have frs2 : X.A.frames = some (X.env :: X.outer) := by rw [oki.frames, stk]
  refine wpAny_Try_except ?_
  refine wpAny_mono ((hbd (wMas X.K Wo D l) (X.pn ++ pins) (fun ev t1 => wpAny (model X.prog X.w) X.A (noteFrame ev X.env) (fun _ t2 => wpAny (model X.prog X.w) X.A (setFlight ev none) (fun _ t3 =>
    wpAny (model X.prog X.w) X.A (handleBy ev X.env (hd0 :: hds)) (SP X pins D) X.xe t3) X.xe t2) X.xe t1) (fun u t xx => ?_) PassesOwn.looking).run [] s σ H D (I.toTry _) h) (fun fl t1 hfl => ?_) (fun _ _ z => z)
  · obtain ⟨a, G, tI, pp, σ1, H1, cls, d, rfl, Jt, nbh, upI, sk, na, eos, abr, wsh⟩ := xx
    have J1 : Inv X pins σ1 H1 tI := Jt.ofTry oki
    have sk2 : Sky G (X.env :: X.outer) a (Zc cls d) X.env.locals t.heap := by rw [← stk]; exact sk
    show wpAny (model X.prog X.w) X.A (noteFrame (.ref a) X.env) _ _ _
    refine Sky.land Zc.steady frs2 frm sk2 fun g3 fy3 ut3 => ?_
    have J3 : Inv X pins σ1 H1 { t with heap := g3 } := J1.landed nbh fy3.1 (upI.trans ut3) eos abr
    obtain ⟨ox3, vx3, gx3, zx3, dx3⟩ := fy3.there
    have nofr : a ∉ frs (X.env :: X.outer) := fun hm => by
      obtain ⟨_, o', e', hnf⟩ := fy3.2.2.1.mem hm
      rw [gx3] at e'
      cases e'
      exact hnf _ dx3
    have neL : a ≠ X.env.locals := fun z => nofr (List.mem_filterMap.mpr ⟨X.env, List.mem_cons_self, by rw [frm, z]⟩)
    have neF : a ∉ X.fs := fun hm => by
      obtain ⟨ev, hev, q⟩ := List.mem_filterMap.mp hm
      exact nofr (List.mem_filterMap.mpr ⟨ev, List.mem_cons_of_mem _ hev, q⟩)
    have Sx := J3.suite gx3 dx3 na neL neF
    have run : ∀ {hs' : List ExceptHandler} {l' : List Cla}, HdsAs X hs' l' → wMas X.K Wo D l' cls d σ1 H1 →
        wpAny (model X.prog X.w) X.A (handleBy (.ref a) X.env hs') (SP X pins D) X.xe { t with heap := g3 } := by
      intro hs' l' hk
      induction hk with
      | nil =>
        intro ww
        refine wpAny_handleBy_nil ?_
        obtain ⟨_, _, _, ob, vb, Tb, oTb, tsb, gb, zb, db, b1, _⟩ := id fy3
        unfold PySem.passOn
        refine wpAny_bind (wpAny_field gb db b1 ?_)
        rw [if_neg (by simp)]
        have fin : wpAny (model X.prog X.w) X.A (setFlight (.ref a) X.env.frame) (fun _ t4 => wpAny (model X.prog X.w) X.A (throw (.ref a) : Sem Flow) (SP X pins D) X.xe t4) X.xe { t with heap := g3 } := by
          rw [frm]
          refine HandSPX.setFlight_upZ fy3 fun g4 hg4 ut4 => wpAny_throw (tkn _ _ ?_)
          exact ⟨a, G, tI, pins, σ1, H1, cls, d, rfl, J1, nbh, (upI.trans ut3).trans ut4, .inr (.inr (by rw [stk]; exact hg4)), na, eos, abr, ww⟩
        first
          | exact wpAny_bind (wpAny_pure (wpAny_bind fin))
          | exact wpAny_bind fin
      | @cons x n c i ts s1 ss q1 q2 hds2 l2 hN hi hl hc hsu r ih =>
        intro ww
        obtain ⟨b, hb1, yes, nay⟩ := ww
        refine wpAny_handleBy_cons (codeAny_handlers_test ?_) (by intro q; cases q)
        have LT : PySem.W.Looks (model X.prog X.w) g3 (typeOf (.ref a)) cls := fun _ _ _ _ k q => wpAny_typeOf_ref (k _ _ gx3) (by rw [zx3.1]; exact q)
        have LM := PySem.W.exm_one (M := model X.prog X.w) (J3.kIn) LT hb1
        have tst : ∀ {Q : Value → Shared → Prop} {E : Value → Shared → Prop}, Q c { t with heap := g3 } → wpAny (model X.prog X.w) (X.A.mark (some (.ref a))) (eval (.Name x q1) X.env) Q E { t with heap := g3 } := fun {Q E} q => by
          obtain ⟨hg, hdbg, hm | ⟨hm, hv, hnn⟩⟩ := hc
          · exact ld_glob (X := X.suite a ((a, ox3) :: (X.pn ++ pins))) Sx hg hm q hdbg
          · exact ld_blt (X := X.suite a ((a, ox3) :: (X.pn ++ pins))) Sx hg hm hv q hnn hdbg
        refine tst (LM.here ?_)
        cases b with
        | true =>
          refine codeAny_handlers_suite_as ?_
          refine HandSPX.lands_againZ fy3 fun g4 fy4 ut4 => ?_
          have J4 : Inv X pins σ1 H1 { t with heap := g4 } := J1.landed nbh fy4.1 ((upI.trans ut3).trans ut4) eos abr
          obtain ⟨ox4, vx4, gx4, zx4, dx4⟩ := fy4.there
          have Sy := J4.suite gx4 dx4 na neL neF
          refine store_ok (X := X.suite a ((a, ox4) :: (X.pn ++ pins))) (v := .ref a) Sy hN hi (.inl hl) rfl (fun t5 S5 => ?_) (.inr hl)
          refine wpAny_mono ((hsu a ox4 cls d (X.pn ++ pins) zx4 ⟨_, dx4⟩).run [] t5 _ H1 _ S5 (yes rfl a na)) (fun fl t6 hfl => ?_) (fun _ _ z => False.elim z)
          have gone : ∀ {σ6 : L2.St} {H6 : Hp} {Q : Shared → Prop}, Inv (X.suite a ((a, ox4) :: (X.pn ++ pins))) [] σ6 H6 t6 → (∀ t7, Inv X pins (σ6.set i none) H6 t7 → Q t7) →
              wpAny (model X.prog X.w) X.A (do bindName X.env n .none; unbindBehindTheSuite X.env n q2) (fun _ t7 => Q t7) X.xe t6 := fun {_ _ _} S6 hq => gone_ok (S6.unsuite oki) hN hi hl hq
          cases fl with
          | ret u =>
            obtain ⟨_, _, _, S6, rr, qq⟩ := hfl
            exact gone S6 fun _ J7 => ⟨_, _, _, J7, rr, qq⟩
          | _ =>
            obtain ⟨_, _, S6, qq⟩ := hfl
            exact gone S6 fun _ J7 => ⟨_, _, J7, qq⟩
        | false =>
          show wpAny _ X.A (handleBy (.ref a) X.env hds2) _ _ _
          exact ih (nay rfl)
    exact run hhs wsh
  · cases fl with
    | next =>
      obtain ⟨_, _, Jn, q⟩ := hfl
      exact wpAny_execs_nil ⟨_, _, Jn.ofTry oki, q⟩
    | ret u =>
      obtain ⟨_, _, _, Jn, rr, q⟩ := hfl
      exact ⟨_, _, _, Jn.ofTry oki, rr, q⟩
    | _ =>
      obtain ⟨_, _, Jn, q⟩ := hfl
      exact ⟨_, _, Jn.ofTry oki, q⟩
end
end AT

set_option maxHeartbeats 4000000
namespace AT
open PySem PySem.Spec PyProof.Rows L2
/-! ### defs that are called where no repr is under way -/
structure FnG (P : Program) (w : World) (K : PySem.W.Frag) (mg : Str → Option Value) (base : Heap) (CX : CXT) (k : Nat) (f : Addr) (fd : FuncData) (ps : List Str) (sp : Sp) : Prop where
  len : ∀ vs H Q E, sp vs H Q E → vs.length = ps.length
  run : ∀ (A : Around) (outer : List Env) (s : Shared) (H : Hp) (args : Args) (us : List Value) (vs : List V) (Q : VK) (E : XK), A.guards = some [] → Room k A → Env0 P w K mg base A outer s H → BindsTo s fd args (ps.zip us) → Vals vs us → sp vs H Q E →
    codeAny (model P w) A (.call (.ref f) args) (CR CX outer P w H s Q E) s
theorem okG {P : Program} {w : World} {K : PySem.W.Frag} {mg : Str → Option Value} {base : Heap} {x qual : Str} {params : Arguments} {body : List Stmt} {scope : Scope} {dvs : List V} {kws : List (Str × V)} {f : Addr} {fd : FuncData}
    {CX : CXT} {N ps : List Str} {k : Nat} {sp : Sp} (F : FunD K x qual params body scope dvs kws f fd) (S : FnScope N ps scope) (len : ∀ vs H Q E, sp vs H Q E → vs.length = ps.length)
    (hbody : ∀ (cdv : Value) (A : Around) (outer : List Env) (s : Shared) (H : Hp) (vs : List V) (Q : VK) (E : XK), A.guards = some [] → Room k (A.deeper (envOfC qual scope s.heap.objs.size f cdv)) → sp vs H Q E →
      ∃ t, PSs (cxOf CX P w K mg base N qual scope f cdv A outer s H E) body t ∧ t { nx := fun _ H' => Q .non H', rt := Q } (start N vs) H) : FnG P w K mg base CX (k + 1) f fd ps sp := by
  obtain ⟨oc, od, dV, kV, doc, pm, an, cdv, ct, osl, rfl, lk, hcd, _, _⟩ := F.ex
  refine ⟨len, fun A outer s H args us vs Q E hgd hr e0 hbd rv hsp => ?_⟩
  have KI : K.In s.heap := e0.mod.kin.keeps fun b o z => (e0.bs b o z).1
  have nl : s.heap.NoLimit := e0.mod.nolimit.keeps fun b o z => (e0.bs b o z).1
  have kinds : ∀ y ∈ ps.zip us, scope.names.lookup y.1 = some .local ∨ (scope.names.lookup y.1 = some .cell ∧ ((cellsFrom (s.heap.objs.size + 1) scope.names []).lookup y.1).isSome = true) := by
    rintro ⟨n, v⟩ hy
    exact (S.par n (List.of_mem_zip hy).1).imp id fun q => ⟨q, PySem.W.cellsFrom_some _ _ _ (.inl q)⟩
  refine codeAny_call_function hr.depth (KI _ _ lk) rfl S.co S.gen rfl (PySem.W.codeRec_of KI hcd) (hbd _ _ _ _ ?_)
  refine wpAny_newFunctionEnv_cells S.kind kinds fun env he s1 ic => ?_
  subst he
  refine ⟨nl.keeps ic.toInCall.keep, codeAny_func ?_⟩
  obtain ⟨t, ht, hq⟩ := hbody cdv A outer s H vs Q E hgd (hr.deeper _) hsp
  have I1 := inv_start (CX := CX) (E := E) S hr.hd e0 (len _ _ _ _ hsp) rv ic
  refine wpAny_mono (ht.run [] s1 (start N vs) H _ I1 hq) (fun fl s' hfl => ?_) fun _ _ z => z
  cases fl with
  | ret u =>
    obtain ⟨v, _, H', J, r2, q⟩ := hfl
    exact ⟨v, H', J.os, J.bare, J.base, J.hok, r2, q⟩
  | next =>
    obtain ⟨_, H', J, q⟩ := hfl
    exact ⟨V.non, H', J.os, J.bare, J.base, J.hok, rfl, q⟩
  | _ =>
    obtain ⟨_, _, _, q⟩ := hfl
    exact q.elim
section
variable {X : Cx} {CX : CXT} {k : Nat} {f : Addr} {fd : FuncData} {ps : List Str} {sp : Sp} {dvs : List V} {ds : List Value} {E : XK} {x : Str} {p pos : Pos} {e : Expr} {es : List Expr} {t : TA}
theorem run_g {pins : List (Addr × Obj)} {σ : L2.St} {H : Hp} {s : Shared} {Q : VK} {us : List Value} {vs : List V} (F : FnG X.prog X.w X.K X.mg X.base CX k f fd ps sp) (hgd : X.A.guards = some []) (hr : Room k X.A) (hb : Binds X.K fd ps ds) (hd : Vals dvs ds) (hx : Passes CX X E)
    (I : Inv X pins σ H s) (r : Vals vs us) (h : sp (vs ++ dvs) H Q E) : wpAny (model X.prog X.w) X.A (call (.ref f) us) (EP X pins σ Q) X.xe s := by
  have r2 : Vals (vs ++ dvs) (us ++ ds) := r.append hd
  have hlen : (us ++ ds).length = ps.length := r2.length.symm.trans (F.len _ _ _ _ h)
  refine wpAny_call (codeAny_mono (F.run X.A X.stack s H ⟨us, []⟩ (us ++ ds) (vs ++ dvs) Q E hgd hr I.env0 (hb s us I.kIn hlen) r2 h) fun res s' hq => ?_)
  cases res with
  | error er => exact hx pins σ H s er s' I hq
  | ok fl =>
    cases fl with
    | ret u => exact I.after hq
    | _ => exact False.elim hq
theorem pe_callG (F : FnG X.prog X.w X.K X.mg X.base CX k f fd ps sp) (hgd : X.A.guards = some []) (hr : Room k X.A) (hg : Gl X x) (hm : X.mg x = some (.ref f)) (hk : PySem.W.keepIn X.K (.ref f) = true) (hb : Binds X.K fd ps ds) (hd : Vals dvs ds) (hx : Passes CX X E)
    (ha : PA X (e :: es) t) (hdb : (x == ("__debug__" : Str)) = false := by decide) (hst : starEach (e :: es) X.env = (false, eval e X.env) :: starEach es X.env := by rfl) (hns : (backTo pos (starEach es X.env)).any (·.1) = false := by rfl) :
    PE X (.Call (.Name x p) (e :: es) [] pos) (tCall sp dvs E t) := by
  constructor
  intro pins s σ H Q I h
  refine wpAny_Call_Name_kw (ld_glob I hg hm ?_ hdb)
  refine PySem.W.callWith_K (h₀ := X.base) I.ok.mod.kin hk (thn (ha.run pos pins s σ H _ I h) fun us s1 hh => ?_) hst hns
  obtain ⟨vs, H1, I1, r, q⟩ := hh
  exact ⟨I1.kIn, run_g F hgd hr hb hd hx I1 r q⟩
theorem pe_callG0 (F : FnG X.prog X.w X.K X.mg X.base CX k f fd ps sp) (hgd : X.A.guards = some []) (hr : Room k X.A) (hg : Gl X x) (hm : X.mg x = some (.ref f)) (hk : PySem.W.keepIn X.K (.ref f) = true) (hb : Binds X.K fd ps ds) (hd : Vals dvs ds) (hx : Passes CX X E)
    (hdb : (x == ("__debug__" : Str)) = false := by decide) : PE X (.Call (.Name x p) [] [] pos) (tCall sp dvs E tNil) := by
  constructor
  intro pins s σ H Q I h
  exact wpAny_Call_Name_kw (ld_glob I hg hm (PySem.W.callWith_K0 I.kIn hk (run_g (us := []) F hgd hr hb hd hx I .nil h)) hdb)
end
/-! ### data: what stands under a value; repr -/
mutual
inductive Dd (K : PySem.W.Frag) (H : Hp) : V → PyData → Prop
  | non : Dd K H .non .none
  | bl (b : Bool) : Dd K H (.bl b) (.bool b)
  | int (i : Int) : Dd K H (.int i) (.int i)
  | str (x : Str) : Dd K H (.str x) (.str x)
  | lst {a : Addr} {xs : List V} {ds : List PyData} : SqL K H a xs → DdAll K H xs ds → Dd K H (.ref a) (.list ds)
  | tup {a : Addr} {xs : List V} {ds : List PyData} : SqT K H a xs → DdAll K H xs ds → Dd K H (.ref a) (.tuple ds)
  | emp {a : Addr} : H a = some (.dK []) → Dd K H (.ref a) (.dict [])
inductive DdAll (K : PySem.W.Frag) (H : Hp) : List V → List PyData → Prop
  | nil : DdAll K H [] []
  | cons {v : V} {vs : List V} {d : PyData} {ds : List PyData} : Dd K H v d → DdAll K H vs ds → DdAll K H (v :: vs) (d :: ds)
end
section
variable {X : Cx} {pins : List (Addr × Obj)} {σ : L2.St} {H : Hp} {s : Shared}
theorem sys_free (hK : ∃ o, X.K.lookup sysModules = some o ∧ o.cls = .type "dict") (I : Inv X pins σ H s) : H sysModules = none := by
  obtain ⟨o, ho, _⟩ := hK
  exact (I.bs sysModules o (I.ok.mod.kin _ _ ho)).2
theorem sql_nosys (hK : ∃ o, X.K.lookup sysModules = some o ∧ o.cls = .type "dict") (I : Inv X pins σ H s) {a : Addr} {xs : List V} (h : SqL X.K H a xs) : a ≠ sysModules := by
  intro e
  subst e
  rcases h with (h | ⟨o, h⟩) | ⟨o, its, n, h, hc, _⟩
  · rw [sys_free hK I] at h; cases h
  · rw [sys_free hK I] at h; cases h
  · obtain ⟨o2, h2, hc2⟩ := hK
    rw [h] at h2
    cases h2
    rw [hc] at hc2
    exact absurd (Value.type.inj hc2) (by decide)
theorem plainL_at {h : Heap} {a : Addr} {its : Array Value} (p : PlainL h a its) : ∃ o n, h.get? a = some o ∧ o.cls = .type "list" ∧ o.data = .seq its n :=
  let ⟨o, n, e, c, _, q⟩ := p
  ⟨o, n, e, c, q⟩
mutual
theorem Dd.reads (hK : ∃ o, X.K.lookup sysModules = some o ∧ o.cls = .type "dict") (I : Inv X pins σ H s) : ∀ (d : PyData) (v : V) (u : Value), Dd X.K H v d → RelV v u → ∃ as, Reads s.heap u d as ∧ sysModules ∉ as
  | _, _, _, .non, r => by cases r; exact ⟨[], .none, by simp⟩
  | _, _, _, .bl b, r => by cases r; exact ⟨[], .bool b, by simp⟩
  | _, _, _, .int i, r => by obtain ⟨t, rfl⟩ := r; exact ⟨[], .int i t, by simp⟩
  | _, _, _, .str x, r => by obtain ⟨t, rfl⟩ := r; exact ⟨[], .str x t, by simp⟩
  | _, _, _, .lst hl hd, r => by
    cases r
    have hn := sql_nosys hK I hl
    obtain ⟨its, rv, hpl, _⟩ := I.list hl
    obtain ⟨o, n, ho, hc, hda⟩ := plainL_at hpl
    obtain ⟨as, ra, na⟩ := Dd.readsAll hK I _ _ _ hd rv
    exact ⟨_, .list ho hc hda (by simpa using ra), fun hm => by
      rcases List.mem_cons.mp hm with q | q
      · exact hn q.symm
      · exact na q⟩
  | _, _, _, .tup hl hd, r => by
    cases r
    obtain ⟨its, rv, ⟨o, ho, hc, n, hda⟩, _⟩ := I.tuple hl
    obtain ⟨as, ra, na⟩ := Dd.readsAll hK I _ _ _ hd rv
    exact ⟨_, .tuple ho hc hda (by simpa using ra), na⟩
  | _, _, _, .emp (a := a) he, r => by
    cases r
    obtain ⟨_, hs, vs, kv, o, es, ep, ho, hx, hda, _, hp, _⟩ := I.hok _ _ he
    cases kv
    have he : es.toList = [] := by
      generalize es.toList = l at hp
      cases hp
      rfl
    refine ⟨_, .dict (kvs := []) (as := []) (bs := []) ho hx.1 hda (by rw [he]; exact .nil) (by rw [he]; exact .nil), fun hm => ?_⟩
    rcases List.mem_cons.mp hm with q | q
    · rw [q] at hs
      simp at hs
    · simp at q
theorem Dd.readsAll (hK : ∃ o, X.K.lookup sysModules = some o ∧ o.cls = .type "dict") (I : Inv X pins σ H s) : ∀ (ds : List PyData) (vs : List V) (us : List Value), DdAll X.K H vs ds → Vals vs us → ∃ as, ReadsAll s.heap us ds as ∧ sysModules ∉ as
  | _, _, _, .nil, r => by cases r; exact ⟨[], .nil, by simp⟩
  | _, _, _, .cons hd hr, r => by
    cases r with
    | cons r1 r2 =>
      obtain ⟨as, ra, na⟩ := Dd.reads hK I _ _ _ hd r1
      obtain ⟨bs, rb, nb⟩ := Dd.readsAll hK I _ _ _ hr r2
      exact ⟨_, .cons ra rb, fun hm => (List.mem_append.mp hm).elim na nb⟩
end
/-- repr(x) of data -/
def rRepr (K : PySem.W.Frag) : List V → Hp → VK → Prop := fun xs H Q => ∃ (x : V) (d : PyData), xs = [x] ∧ Dd K H x d ∧ d.showable = true ∧ d.depth ≤ 50 ∧ d.shown.length ≤ sizeLine ∧ Q (.str d.shown) H
theorem call_repr {k : Nat} (hgd : X.A.guards = some []) (hr : Room k X.A) (hK : ∃ o, X.K.lookup sysModules = some o ∧ o.cls = .type "dict") : CallR X (.builtin "repr") (rRepr X.K) := by
  intro pins s σ H xs us Q I r h
  obtain ⟨x, d, rfl, hd, hsh, hdp, hsz, q⟩ := h
  obtain ⟨u, rfl, ru⟩ := vals1 r
  obtain ⟨as, hR, hns⟩ := hd.reads hK I _ _ u ru
  have hun := hr.units
  cases hR with
  | none => exact PySem.P.repr_of_none ⟨.str _, H, I.tok _, ⟨_, rfl⟩, q⟩
  | bool b => exact PySem.P.repr_of_bool ⟨.str _, H, I.tok _, ⟨_, rfl⟩, q⟩
  | int i t => exact PySem.P.repr_of_int (of_decide_eq_true hsh) ⟨.str _, H, I.tok _, ⟨_, rfl⟩, q⟩
  | str y t => exact PySem.P.repr_of_str ⟨.str _, H, I.tok _, ⟨_, rfl⟩, q⟩ hsz
  | list h1 h2 h3 h4 =>
    exact repr_of_reads' (.list h1 h2 h3 h4) hsh (fun _ => hns) hgd (by omega) (fun _ _ z => z) (fun h' u' tk kp => ⟨.str _, H, I.kept kp, ⟨_, rfl⟩, q⟩) hsz
  | tuple h1 h2 h3 h4 =>
    exact repr_of_reads' (.tuple h1 h2 h3 h4) hsh (fun _ => hns) hgd (by omega) (fun _ _ z => z) (fun h' u' tk kp => ⟨.str _, H, I.kept kp, ⟨_, rfl⟩, q⟩) hsz
  | dict h1 h2 h3 h4 h5 =>
    exact repr_of_reads' (.dict h1 h2 h3 h4 h5) hsh (fun _ => hns) hgd (by omega) (fun _ _ z => z) (fun h' u' tk kp => ⟨.str _, H, I.kept kp, ⟨_, rfl⟩, q⟩) hsz
end
end AT

set_option maxHeartbeats 4000000
namespace AT
open PySem PySem.Spec PyProof.Rows L2
/-- the law's call, from its def's promise -/
theorem lawG {P : Program} {w : World} {K : PySem.W.Frag} {mg mb : Str → Option Value} {CX : CXT} {k : Nat} {fa a : Addr} {fd : FuncData} {x : Str} {sp : Sp} {st : Shared} {vs : List Value} {ns : List Int}
    (KI : K.In st.heap) (hG : st.heap.Ns mainGlobals mg) (hB : st.heap.Ns builtinsNs mb) (hBb : ∀ x : Str, x ≠ "__name__" → mb x = bootBuiltins x) (hNl : st.heap.NoLimit) (hgs : st.gens = #[])
    (hob : st.heap.get? a = some { cls := .type "list", data := .seq vs.toArray }) (hin : IntsAre vs ns) (hsz : ns.length ≤ sizeLine) (hr : Room k callerA)
    (F : ∀ base : Heap, K.In base → base.Ns mainGlobals mg → FnG P w K mg base CX k fa fd [x] sp) (hbd : ∀ (s : Shared) (u : Value), BindsTo s fd ⟨[u], []⟩ [(x, u)])
    (hsp : ∀ H : Hp, Only H → SqL K H a (ns.map V.int) → sp [.ref a] H (fun v _ => v = .bl true) fun _ _ _ => False)
    (hno : ∀ H e s', CX [] H st (fun _ _ _ => False) e s' → False) :
    codeAny (model P w) callerA (.call (.ref fa) ⟨[.ref a], []⟩) (fun r s' => r = .ok (.ret (.bool true)) ∧ OldK st.heap s'.heap ∧ s'.os = st.os ∧ AllBare s'.gens) st := by
  have rv := vals_ints hin
  have main : ∀ H : Hp, Only H → SqL K H a (ns.map V.int) → HOk P w H st.heap → (∀ b, H b ≠ none → b = a) → (H a ≠ none → K.lookup a = none) →
      codeAny (model P w) callerA (.call (.ref fa) ⟨[.ref a], []⟩) (fun r s' => r = .ok (.ret (.bool true)) ∧ OldK st.heap s'.heap ∧ s'.os = st.os ∧ AllBare s'.gens) st := by
    intro H hO hS hok hA hKa
    have free : ∀ {b : Addr} {o : Obj} {es : Array DictEntry} {ep : Nat}, st.heap.get? b = some o → o.data = .dict es ep → H b = none := by
      intro b o es ep e d
      cases q : H b with
      | none => rfl
      | some u =>
        obtain rfl : b = a := hA b (by rw [q]; exact Option.some_ne_none u)
        rw [hob] at e
        cases e
        cases d
    have nsH : ∀ {b : Addr} {m : Str → Option Value}, st.heap.Ns b m → (hidT st.heap H).Ns b m := by
      rintro b m ⟨o, es, ep, e, d, rr⟩
      exact ⟨o, es, ep, hidT_get e (free e d), d, rr⟩
    have KH : K.In (hidT st.heap H) := by
      intro b o e
      refine hidT_get (KI b o e) ?_
      cases q : H b with
      | none => rfl
      | some u =>
        obtain rfl : b = a := hA b (by rw [q]; exact Option.some_ne_none u)
        rw [hKa (by rw [q]; exact Option.some_ne_none u)] at e
        cases e
    have hM : Mod K mg (hidT st.heap H) := by
      obtain ⟨mc, h1, h2⟩ := hNl
      exact ⟨KH, nsH hG, ⟨mb, nsH hB, hBb⟩, ⟨mc, nsH h1, h2⟩⟩
    have e0 : Env0 P w K mg (hidT st.heap H) callerA [] st H :=
      { frames := rfl, mod := hM, bs := fun b o e => of_hidT e, bsz := Nat.le_of_eq (hidT_size _ _), funs := trivial, frf := (by intro b hb; exact absurd hb (by simp [frs])), hok := hok, bare := .of_eq hgs }
    refine codeAny_mono ((F _ KH (nsH hG)).run callerA [] st H ⟨[.ref a], []⟩ [.ref a] [.ref a] _ _ rfl hr e0 (hbd st (.ref a)) (.cons rfl .nil) (hsp H hO hS)) fun r s' h => ?_
    cases r with
    | error e => exact (hno H e s' h).elim
    | ok fl =>
      cases fl with
      | ret u =>
        obtain ⟨v, H', eos, br, un, hok', r', q⟩ := h
        obtain rfl : v = .bl true := q
        obtain rfl : u = Value.bool true := r'
        refine ⟨rfl, OldK.of_keep fun b o e => ?_, eos, br⟩
        cases q : H b with
        | none => exact un.keep b o e q (by simp [frs]) (by simp)
        | some u =>
          rcases hO b with z | ⟨ob, xs, z⟩
          · rw [q] at z
            cases z
          · have y2 := (hok' b _ (un.frzs b ob _ z)).1
            have y1 := (hok b _ z).1
            rw [e] at y1
            cases y1
            exact y2
      | _ => exact False.elim h
  cases hk : K.lookup a with
  | some o =>
    have e := KI a o hk
    rw [hob] at e
    cases e
    refine main (fun _ => none) (fun _ => .inl rfl) (.inr ⟨_, vs.toArray, _, hk, rfl, rfl, rfl, ?_, by simpa using rv⟩) ?_ (fun b z => absurd rfl z) fun z => absurd rfl z
    · rw [List.size_toArray, hin.length]
      exact hsz
    · intro b u z
      exact nomatch (show (none : Option HO) = some u from z)
  | none =>
    let o1 : Obj := { cls := .type "list", data := .seq vs.toArray }
    refine main (fun b => if b = a then some (.frz o1 (.lst (ns.map V.int))) else none) (fun b => ?_) (.inl (.inr ⟨o1, if_pos rfl⟩)) (fun b u z => ?_) (fun b z => ?_) fun _ => hk
    · by_cases hb : b = a
      · exact .inr ⟨_, _, if_pos hb⟩
      · exact .inl (if_neg hb)
    · by_cases hb : b = a
      · have y := (if_pos hb).symm.trans z
        cases y
        subst hb
        exact ⟨hob, by rw [List.length_map]; exact hsz, vs, _, rv, hob⟩
      · have y := (if_neg hb).symm.trans z
        cases y
    · by_cases hb : b = a
      · exact hb
      · exact absurd (if_neg hb) z
theorem walkG {l : PySem.W.OpenLaw} {n k : Nat} {q : Program} {loose : List Str} {XP : (Str → Option Value) → Heap → Prop} {YP : World → Heap → Prop} {d : DefRec} {CX : World → CXT} {x : Str}
    (hn : l.most = some n) (hn2 : n ≤ sizeLine) (hdf : d.params.defaults = []) (hr : Room k callerA)
    (F : ∀ (w : World) (mg : Str → Option Value) (fa : Addr) (h : Heap), YP w h → h.Ns mainGlobals mg → mg d.name = some (.ref fa) →
      ∃ (K : PySem.W.Frag) (fd : FuncData) (sp : Sp), K.In h ∧ (∀ (s : Shared) (u : Value), BindsTo s fd ⟨[u], []⟩ [(x, u)]) ∧
        (∀ (H : Hp) (a : Addr) (ns : List Int), ns.length ≤ n → Only H → SqL K H a (ns.map V.int) → sp [.ref a] H (fun v _ => v = .bl true) fun _ _ _ => False) ∧
        ∀ base : Heap, K.In base → base.Ns mainGlobals mg → FnG l.prog w K mg base (CX w) k fa fd [x] sp)
    (hno : ∀ (w : World) (H : Hp) (s : Shared) (e : Value) (s' : Shared), CX w [] H s (fun _ _ _ => False) e s' → False) :
    PySem.W.WalkO q loose XP YP l.row.toRowW d [] (fun f vs => PySem.call f vs) := by
  refine Att.attach_call hn hdf fun w _ st mg mb fa o pm cd doc a vs ns G Y _ _ _ hmg hob hin hlen hgs => ?_
  obtain ⟨K, fd, sp, KI, hbd, hsp, hF⟩ := F w mg fa _ Y G.T.g hmg
  exact lawG KI G.T.g G.T.b G.T.builtins G.T.nolimit hgs hob hin (Nat.le_trans hlen hn2) hr hF hbd (fun H hO hS => hsp H a ns hlen hO hS) fun H e s' => hno w H st e s'
theorem cx_false {P : Program} {w : World} {outer : List Env} {H : Hp} {s : Shared} {e : Value} {s' : Shared} (h : L2.CX P w outer H s (fun _ _ _ => False) e s') : False := by
  obtain ⟨_, _, _, _, _, _, _, _, _, _, _, _, z⟩ := h
  exact z
end AT

set_option maxHeartbeats 4000000
namespace AT
open PySem PySem.Spec PyProof.Rows L2
/-- a def that keeps a promise, and how it is called with all its parameters -/
def Ok (P : Program) (w : World) (K : PySem.W.Frag) (mg : Str → Option Value) (base : Heap) (k : Nat) (f : Addr) (ps : List Str) (sp : Sp) : Prop :=
  ∃ fd, FnOk P w K mg base (L2.CX P w) k f fd ps sp ∧ Binds K fd ps [] ∧ PySem.W.keepIn K (.ref f) = true
/-- .. with its last parameters left to their defaults dvs -/
def OkD (P : Program) (w : World) (K : PySem.W.Frag) (mg : Str → Option Value) (base : Heap) (k : Nat) (f : Addr) (ps : List Str) (dvs : List V) (sp : Sp) : Prop :=
  ∃ fd ds, FnOk P w K mg base (L2.CX P w) k f fd ps sp ∧ Vals dvs ds ∧ Binds K fd ps ds ∧ PySem.W.keepIn K (.ref f) = true
/-- .. where no repr is under way -/
def OkG (P : Program) (w : World) (K : PySem.W.Frag) (mg : Str → Option Value) (base : Heap) (k : Nat) (f : Addr) (ps : List Str) (sp : Sp) : Prop :=
  ∃ fd, FnG P w K mg base (L2.CX P w) k f fd ps sp ∧ Binds K fd ps [] ∧ PySem.W.keepIn K (.ref f) = true
section
variable {X : Cx} {k : Nat} {f C : Addr} {ps : List Str} {sp : Sp} {dvs : List V} {E : XK} {x m : Str} {p pos apos : Pos} {e o : Expr} {es : List Expr} {ta : TE} {t : TA}
theorem ok_call (F : Ok X.prog X.w X.K X.mg X.base k f ps sp) (hr : Room k X.A) (hg : Gl X x) (hm : X.mg x = some (.ref f)) (hx : Passes (L2.CX X.prog X.w) X E) (ha : PA X (e :: es) t)
    (hdb : (x == ("__debug__" : Str)) = false := by decide) (hst : starEach (e :: es) X.env = (false, eval e X.env) :: starEach es X.env := by rfl) (hns : (backTo pos (starEach es X.env)).any (·.1) = false := by rfl) :
    PE X (.Call (.Name x p) (e :: es) [] pos) (tCall sp [] E t) := by
  obtain ⟨fd, F1, b, kp⟩ := F
  exact pe_call F1 hr hg hm kp b .nil hx ha hdb hst hns
theorem ok_call0 (F : Ok X.prog X.w X.K X.mg X.base k f [] sp) (hr : Room k X.A) (hg : Gl X x) (hm : X.mg x = some (.ref f)) (hx : Passes (L2.CX X.prog X.w) X E)
    (hdb : (x == ("__debug__" : Str)) = false := by decide) : PE X (.Call (.Name x p) [] [] pos) (tCall sp [] E tNil) := by
  obtain ⟨fd, F1, b, kp⟩ := F
  exact pe_call0 F1 hr hg hm kp b .nil hx hdb
theorem ok_callG (F : OkG X.prog X.w X.K X.mg X.base k f ps sp) (hgd : X.A.guards = some []) (hr : Room k X.A) (hg : Gl X x) (hm : X.mg x = some (.ref f)) (hx : Passes (L2.CX X.prog X.w) X E) (ha : PA X (e :: es) t)
    (hdb : (x == ("__debug__" : Str)) = false := by decide) (hst : starEach (e :: es) X.env = (false, eval e X.env) :: starEach es X.env := by rfl) (hns : (backTo pos (starEach es X.env)).any (·.1) = false := by rfl) :
    PE X (.Call (.Name x p) (e :: es) [] pos) (tCall sp [] E t) := by
  obtain ⟨fd, F1, b, kp⟩ := F
  exact pe_callG F1 hgd hr hg hm kp b .nil hx ha hdb hst hns
theorem ok_callG0 (F : OkG X.prog X.w X.K X.mg X.base k f [] sp) (hgd : X.A.guards = some []) (hr : Room k X.A) (hg : Gl X x) (hm : X.mg x = some (.ref f)) (hx : Passes (L2.CX X.prog X.w) X E)
    (hdb : (x == ("__debug__" : Str)) = false := by decide) : PE X (.Call (.Name x p) [] [] pos) (tCall sp [] E tNil) := by
  obtain ⟨fd, F1, b, kp⟩ := F
  exact pe_callG0 F1 hgd hr hg hm kp b .nil hx hdb
/-- in a try's body -/
theorem ok_callS {W : WX} (F : Ok X.prog X.w X.K X.mg X.base k f ps sp) (hr : Room k X.A) (hg : Gl X x) (hm : X.mg x = some (.ref f)) (tk : Takes X W) (ha : PA X (e :: es) t)
    (hdb : (x == ("__debug__" : Str)) = false := by decide) (hst : starEach (e :: es) X.env = (false, eval e X.env) :: starEach es X.env := by rfl) (hns : (backTo pos (starEach es X.env)).any (·.1) = false := by rfl) :
    PE X (.Call (.Name x p) (e :: es) [] pos) (tCallSD sp [] (fun σ cls d H => W cls d σ H) t) := by
  obtain ⟨fd, F1, b, kp⟩ := F
  exact pe_callSD F1 hr hg hm kp b .nil (fun σ => passAt tk σ) ha hdb hst hns
/-- C(e, ..) -/
theorem ok_make (M : Mk X.K C f) (F : Ok X.prog X.w X.K X.mg X.base k f ps sp) (hr : Room (k + 1) X.A) (hg : Gl X x) (hm : X.mg x = some (.ref C)) (hx : Passes (L2.CX X.prog X.w) X E) (ha : PA X (e :: es) t)
    (hdb : (x == ("__debug__" : Str)) = false := by decide) (hst : starEach (e :: es) X.env = (false, eval e X.env) :: starEach es X.env := by rfl) (hns : (backTo pos (starEach es X.env)).any (·.1) = false := by rfl) :
    PE X (.Call (.Name x p) (e :: es) [] pos) (tMake C sp [] E t) := by
  obtain ⟨fd, F1, b, kp⟩ := F
  exact pe_make M F1 hr hg hm b .nil hx ha hdb hst hns
theorem ok_makeD (M : Mk X.K C f) (F : OkD X.prog X.w X.K X.mg X.base k f ps dvs sp) (hr : Room (k + 1) X.A) (hg : Gl X x) (hm : X.mg x = some (.ref C)) (hx : Passes (L2.CX X.prog X.w) X E) (ha : PA X (e :: es) t)
    (hdb : (x == ("__debug__" : Str)) = false := by decide) (hst : starEach (e :: es) X.env = (false, eval e X.env) :: starEach es X.env := by rfl) (hns : (backTo pos (starEach es X.env)).any (·.1) = false := by rfl) :
    PE X (.Call (.Name x p) (e :: es) [] pos) (tMake C sp dvs E t) := by
  obtain ⟨fd, ds, F1, vd, b, kp⟩ := F
  exact pe_make M F1 hr hg hm b vd hx ha hdb hst hns
/-- o.f, a property -/
theorem ok_prop {g : Addr} (c : Cls X.K C) (hp : ∃ q, PropOf X.K C m q g) (F : Ok X.prog X.w X.K X.mg X.base k g [("self" : Str)] sp) (hr : Room (k + 1) X.A) (he : PE X e ta)
    (hab : attributeBase e m X.env (eval e X.env) = eval e X.env := by rfl) : PE X (.Attribute e m pos) (tProp C sp [] E0 ta) := by
  obtain ⟨q, hq⟩ := hp
  obtain ⟨fd, F1, b, kp⟩ := F
  exact pe_prop he c hq F1 hr b .nil passL hab
end
/-- all that the body's proof gives: a def's promise -/
theorem mk_ok {P : Program} {w : World} {K : PySem.W.Frag} {mg : Str → Option Value} {base : Heap} {x qual : Str} {st : Stmt} {kws : List (Str × V)} {f : Addr} {N ps : List Str} {k : Nat} {sp : Sp}
    (F : ∃ fd, FunD K x qual (defArgs st) (defBody st) (defScope st) [] kws f fd) (S : FnScope N ps (defScope st))
    (hb : ∀ (kV doc pm : Value) (an : Option Addr) (cdv ct : Value) (us : List Value), us.length = ps.length → bindArgs (PySem.W.fnOf x qual (defArgs st) (defBody st) (defScope st) .none kV doc pm an cdv ct) ⟨us, []⟩ = pure (ps.zip us))
    (len : ∀ vs H Q E, sp vs H Q E → vs.length = ps.length)
    (body : ∀ (cdv : Value) (A : Around) (outer : List Env) (s : Shared) (H : Hp) (vs : List V) (Q : VK) (E : XK), Room k (A.deeper (envOfC qual (defScope st) s.heap.objs.size f cdv)) → sp vs H Q E →
      ∃ t, PSs (cxOf (L2.CX P w) P w K mg base N qual (defScope st) f cdv A outer s H E) (defBody st) t ∧ t { nx := fun _ H' => Q .non H', rt := Q } (start N vs) H) : Ok P w K mg base (k + 1) f ps sp := by
  obtain ⟨fd, F⟩ := F
  exact ⟨fd, F.ok S len body, F.bindsN hb, F.kp⟩
theorem mk_okG {P : Program} {w : World} {K : PySem.W.Frag} {mg : Str → Option Value} {base : Heap} {x qual : Str} {st : Stmt} {kws : List (Str × V)} {f : Addr} {N ps : List Str} {k : Nat} {sp : Sp}
    (F : ∃ fd, FunD K x qual (defArgs st) (defBody st) (defScope st) [] kws f fd) (S : FnScope N ps (defScope st))
    (hb : ∀ (kV doc pm : Value) (an : Option Addr) (cdv ct : Value) (us : List Value), us.length = ps.length → bindArgs (PySem.W.fnOf x qual (defArgs st) (defBody st) (defScope st) .none kV doc pm an cdv ct) ⟨us, []⟩ = pure (ps.zip us))
    (len : ∀ vs H Q E, sp vs H Q E → vs.length = ps.length)
    (body : ∀ (cdv : Value) (A : Around) (outer : List Env) (s : Shared) (H : Hp) (vs : List V) (Q : VK) (E : XK), (A.deeper (envOfC qual (defScope st) s.heap.objs.size f cdv)).guards = some [] → Room k (A.deeper (envOfC qual (defScope st) s.heap.objs.size f cdv)) → sp vs H Q E →
      ∃ t, PSs (cxOf (L2.CX P w) P w K mg base N qual (defScope st) f cdv A outer s H E) (defBody st) t ∧ t { nx := fun _ H' => Q .non H', rt := Q } (start N vs) H) : OkG P w K mg base (k + 1) f ps sp := by
  obtain ⟨fd, F⟩ := F
  exact ⟨fd, okG F S len (fun cdv A outer s H vs Q E hg => body cdv A outer s H vs Q E hg), F.bindsN hb, F.kp⟩
theorem Ok.mono {P : Program} {w : World} {K : PySem.W.Frag} {mg : Str → Option Value} {base : Heap} {j k : Nat} {f : Addr} {ps : List Str} {sp : Sp} (F : Ok P w K mg base j f ps sp) (h : j ≤ k) : Ok P w K mg base k f ps sp := by
  obtain ⟨fd, F1, b, kp⟩ := F
  exact ⟨fd, F1.mono h, b, kp⟩
theorem Ok.imp {P : Program} {w : World} {K : PySem.W.Frag} {mg : Str → Option Value} {base : Heap} {k : Nat} {f : Addr} {ps : List Str} {sp sp' : Sp} (F : Ok P w K mg base k f ps sp) (h : ∀ vs H Q E, sp' vs H Q E → sp vs H Q E) : Ok P w K mg base k f ps sp' := by
  obtain ⟨fd, F1, b, kp⟩ := F
  exact ⟨fd, F1.imp h, b, kp⟩
/-- an exception's class, made anywhere -/
theorem mk_X {X : Cx} {x f : Str} {k : Nat} (T : Xc X.K x f) (hm : X.mg x = some (.ref (He.ga X.K x))) (F : Ok X.prog X.w X.K X.mg X.base k (He.ma X.K (He.ga X.K x) "__init__") [("self" : Str), f] (spXi X.K (He.ga X.K x) f)) (hr : Room (k + 1) X.A) (hdb : (x == ("__debug__" : Str)) = false := by decide) : MkX X x f := by
  obtain ⟨fd, F1, b, kp⟩ := F
  exact mkX_of T hm F1 b hr hdb
/-- what a callee lets out leaves the def -/
theorem passE {X : Cx} {E : XK} {E1 : Value → Shared → Prop} (hs : X.stack = X.env :: X.outer) (hf : X.env.frame = some X.env.locals) (hex : X.ex = []) (hx : X.xe = fun e s' => wpAny (model X.prog X.w) X.A (leaving X.env e) (fun _ s'' => L2.CX X.prog X.w X.outer X.H_0 X.s_0 E e s'') E1 s') : Passes (L2.CX X.prog X.w) X E :=
  passes_call (takes_of hs hf hex hx) (fun _ _ _ _ z => z)
end AT
namespace AT
open PySem PySem.Spec PyProof.Rows L2
theorem pe_k {X : Cx} {x : Str} {v : V} {pos : Pos} (h : ∃ u, X.mg x = some u ∧ RelV v u) (hg : Gl X x := by rfl) (hd : (x == ("__debug__" : Str)) = false := by decide) : PE X (.Name x pos) (tC v) := by
  obtain ⟨u, hu, r⟩ := h
  exact pe_glob hg hu r hd
/-- // by a divisor of any sign, not 0, below 2 ^ 9000 -/
def CDivZ (_ j : Int) : Prop := j ≠ 0 ∧ j.natAbs.log2 < 9000
theorem op_fdivZ {X : Cx} : OpR X (binaryOp .FloorDiv) (rI CDivZ fun i j => .int (i.fdiv j)) := opI fun _ _ _ _ _ _ _ hc q => floordiv_int hc.1 q (.inl (PyProof.noPylong_of_log2 hc.2))
end AT
namespace AT
open PySem PySem.Spec PyProof.Rows L2
theorem pe_gr {X : Cx} {x : Str} {a : Addr} {pos : Pos} (h : X.mg x = some (.ref a)) (hg : Gl X x := by rfl) (hd : (x == ("__debug__" : Str)) = false := by decide) : PE X (.Name x pos) (tC (.ref a)) := pe_glob hg h rfl hd
end AT
namespace AT
open PySem PySem.Spec PyProof.Rows L2
/-- a def with one default v: called with it left out, and with all given -/
theorem mk_okD1 {P : Program} {w : World} {K : PySem.W.Frag} {mg : Str → Option Value} {base : Heap} {x qual : Str} {st : Stmt} {kws : List (Str × V)} {v : V} {f : Addr} {N ps : List Str} {k n : Nat} {sp : Sp}
    (F : ∃ fd, FunD K x qual (defArgs st) (defBody st) (defScope st) [v] kws f fd) (S : FnScope N ps (defScope st)) (hn : n + 1 = ps.length)
    (hb : ∀ (T : Addr) (kV doc pm : Value) (an : Option Addr) (cdv ct : Value) (us : List Value) (u : Value), us.length = n → ∃ k, bindArgs (PySem.W.fnOf x qual (defArgs st) (defBody st) (defScope st) (.ref T) kV doc pm an cdv ct) ⟨us, []⟩ = seqItems? (.ref T) >>= k ∧ k (some #[u]) = pure (ps.zip (us ++ [u])))
    (hb2 : ∀ (T : Addr) (kV doc pm : Value) (an : Option Addr) (cdv ct : Value) (us : List Value) (u : Value), us.length = n + 1 → ∃ k, bindArgs (PySem.W.fnOf x qual (defArgs st) (defBody st) (defScope st) (.ref T) kV doc pm an cdv ct) ⟨us, []⟩ = seqItems? (.ref T) >>= k ∧ k (some #[u]) = pure (ps.zip us))
    (len : ∀ vs H Q E, sp vs H Q E → vs.length = ps.length)
    (body : ∀ (cdv : Value) (A : Around) (outer : List Env) (s : Shared) (H : Hp) (vs : List V) (Q : VK) (E : XK), Room k (A.deeper (envOfC qual (defScope st) s.heap.objs.size f cdv)) → sp vs H Q E →
      ∃ t, PSs (cxOf (L2.CX P w) P w K mg base N qual (defScope st) f cdv A outer s H E) (defBody st) t ∧ t { nx := fun _ H' => Q .non H', rt := Q } (start N vs) H) :
    Ok P w K mg base (k + 1) f ps sp ∧ OkD P w K mg base (k + 1) f ps [v] sp := by
  obtain ⟨fd, F⟩ := F
  have one : ∀ its : List Value, its.length = 1 → ∃ u, its = [u] := fun its h => List.length_eq_one_iff.mp h
  constructor
  · obtain ⟨ds, vd, b⟩ := F.binds1 (ps := ps) (n + 1) 1 (by simp) (by simpa using hn) (fun T kV doc pm an cdv ct us its h1 h2 => by
      obtain ⟨u, rfl⟩ := one its h2
      obtain ⟨k, e1, e2⟩ := hb2 T kV doc pm an cdv ct us u h1
      exact ⟨k, e1, by simpa using e2⟩)
    cases vd
    exact ⟨fd, F.ok S len body, b, F.kp⟩
  · obtain ⟨ds, vd, b⟩ := F.binds1 (ps := ps) n 0 (by simp) (by simpa using hn) (fun T kV doc pm an cdv ct us its h1 h2 => by
      obtain ⟨u, rfl⟩ := one its h2
      obtain ⟨k, e1, e2⟩ := hb T kV doc pm an cdv ct us u h1
      exact ⟨k, e1, by simpa using e2⟩)
    exact ⟨fd, ds, F.ok S len body, vd, b, F.kp⟩
end AT

set_option maxHeartbeats 4000000
namespace AT
open PySem PySem.Spec PyProof.Rows L2
theorem Same.new {H H' : Hp} {p : Addr} {o : HO} (s : Same H H') (hp : H p = none) : Same H (upd H' p o) := fun b u e => by
  rw [upd_ne (ne_of_none e hp)]
  exact s b u e
theorem Same.up {H : Hp} {p : Addr} {o : HO} (hp : H p = none) : Same H (upd H p o) := Same.new (Same.refl H) hp
theorem Same.tup {K : PySem.W.Frag} {H H' : Hp} {a : Addr} {xs : List V} (e : Same H H') (h : SqT K H a xs) : SqT K H' a xs := by
  rcases h with (h | ⟨o, h⟩) | h
  · exact .inl (.inl (e _ _ h))
  · exact .inl (.inr ⟨o, e _ _ h⟩)
  · exact .inr h
/-- the part of a list that is through, filtered and mapped -/
theorem take_step {α β : Type} {l : List α} {i : Nat} {x : α} (p : α → Bool) (f : α → β) (h : l[i]? = some x) :
    ((l.take (i + 1)).filter p).map f = ((l.take i).filter p).map f ++ (if p x then [f x] else []) := by
  rw [List.take_add_one, h, Option.toList_some, List.filter_append, List.map_append]
  congr 1
  cases hp : p x <;> simp [List.filter, hp]
/-- a comprehension over a text whose element and test only make new objects; the target a name in slot j -/
theorem lc_text {z : Str} {tt : TT} {te : TE} {j : Nat} {vs : List Nat} {σ : L2.St} {H1 : Hp} {D : Addr} {Qd : Hp → Prop} (p : Nat → Bool) (f : Nat → V) (hz : z.cps.size < sizeLine) (hD : H1 D = none)
    (hw : ∀ x, wipe ((wipe σ vs).set j (some x)) vs = wipe σ vs)
    (ht : ∀ (c : Nat) (H : Hp) (R : Bool → Hp → Prop), c ∈ z.cps.toList → Same H1 H → (∀ H', Same H H' → R (p c) H') → tt ((wipe σ vs).set j (some (.str ⟨#[c]⟩))) H R)
    (he : ∀ (c : Nat) (H : Hp) (R : VK), c ∈ z.cps.toList → Same H1 H → (∀ H', Same H H' → R (f c) H') → te ((wipe σ vs).set j (some (.str ⟨#[c]⟩))) H R)
    (hd : ∀ H, Same H1 H → H D = some (.lst ((z.cps.toList.filter p).map f)) → Qd H) :
    ∃ W : Nat → Nat → Hp → Prop, (∃ m, W 0 m (upd H1 D (.lst []))) ∧ ∀ i m H, W i m H →
      ((Its z).stop i H ∧ Qd H) ∨ ((Its z).go i H ∧ ∃ Nx : Hp → Prop, (∀ H', Nx H' → ∃ m', m' < m ∧ W (i + 1) m' H') ∧ ∀ x H', (Its z).yld i H x H' → gName j x (wipe σ vs) H' fun σ2 H2 => wipe σ2 vs = wipe σ vs ∧ tt σ2 H2 fun b H3 =>
        if b = true then te σ2 H3 fun y H4 => ∃ acc, H4 D = some (.lst acc) ∧ acc.length < sizeLine ∧ Nx (upd H4 D (.lst (acc ++ [y]))) else Nx H3) := by
  refine lc_it walk_str (fun i H => Same H1 H ∧ H D = some (.lst (((z.cps.toList.take i).filter p).map f))) ⟨Same.up hD, by rw [upd_same]; rfl⟩ (fun _ _ _ _ => trivial) (fun i x H H' hi hP hY => ?_) (fun H hP => ?_)
  · obtain ⟨sm, hl⟩ := hP
    obtain ⟨rfl, c, hc, rfl⟩ := hY
    have hc' : z.cps.toList[i]? = some c := by rw [Array.getElem?_toList]; exact hc
    have hm : c ∈ z.cps.toList := List.mem_of_getElem? hc'
    have hst := take_step p f hc'
    refine ⟨hw _, ht c H' _ hm sm fun H2 s2 => ?_⟩
    cases hp : p c with
    | false =>
      refine iteF ⟨sm.trans s2, ?_⟩
      rw [hst, hp]
      simpa using s2 _ _ hl
    | true =>
      refine iteT (he c H2 _ hm (sm.trans s2) fun H3 s3 => ⟨_, s3 _ _ (s2 _ _ hl), ?_, ?_, ?_⟩)
      · have h1 : (((z.cps.toList.take i).filter p).map f).length ≤ z.cps.toList.length := by
          rw [List.length_map]
          exact Nat.le_trans (List.length_filter_le _ _) (by rw [List.length_take]; exact Nat.min_le_right _ _)
        have h2 : z.cps.toList.length = z.cps.size := Array.length_toList
        omega
      · exact AT.Same.new ((sm.trans s2).trans s3) hD
      · rw [upd_same, hst, hp]
        rfl
  · obtain ⟨sm, hl⟩ := hP
    have e : z.cps.toList.take z.cps.size = z.cps.toList := by
      rw [← Array.length_toList, List.take_length]
    rw [e] at hl
    exact hd H sm hl
end AT

set_option maxHeartbeats 4000000
namespace AT
open PySem PySem.Spec PyProof.Rows L2
open AutoSeq1 (wpAny_loadPart')
theorem str_declines (z : Str) (u : Tok) (l : Addr) (o : Obj) (es : Array DictEntry) (n : Nat) :
    Meets (Builtin.«str.__eq__» ⟨[.str z u, .ref l], []⟩) (fun _ R s => s.heap.get? l = some o ∧ o.data = .dict es n ∧ R (.ok (.ret .notImplemented)) s) :=
  .of_wp fun prog w A R s h => by
    obtain ⟨hp, g, d, tk, os⟩ := s
    obtain ⟨hl, hc, h⟩ := h
    wp_walk using wpAny_loadPart' hl, wpAny_load hl
    rw [hc]
    wp_walk
    exact ⟨_, rfl, h⟩
section
variable {prog : Program} {w : World} {A : Around} {E : Value → Shared → Prop} {s : Shared}
theorem dict_declines {a : Addr} {z : Str} {u : Tok} {Q : Value → Shared → Prop} (ha : s.TypeIs (.ref a) "dict") (q : Q .notImplemented s) : wpAny (model prog w) A (call (.builtin "dict.__eq__") [.ref a, .str z u]) Q E s := by
  refine wpAny_call_entry PySem.F.slot_dict_eq ha PySem.F.entry_dict_eq ?_ (PySem.F.args_dict_eq_2 _ _)
  show wpAny _ _ (Builtin.Dict.dictSlotArgs "__eq__" ⟨[.ref a, .str z u], []⟩ >>= _) _ _ s
  refine wpAny_bind ?_
  unfold Builtin.Dict.dictSlotArgs
  refine wpAny_bind (wpAny_notOrdered_dict ha ?_)
  show wpAny _ _ (pure (Value.ref a, Value.str z u)) _ _ s
  refine wpAny_pure ?_
  refine wpAny_bind (wpAny_isInstance (T := "str") (typeIs_str s z u) PySem.F.sub_str_dict ?_)
  simp only [Bool.not_false, if_true]
  refine wpAny_bind (wpAny_rule ?_)
  exact wpAny_pure ⟨_, rfl, q⟩
end
/-- an empty dict is unlike a text -/
theorem eq_emp {X : Cx} {pins : List (Addr × Obj)} {σ : L2.St} {H : Hp} {s : Shared} {a : Addr} {z : Str} {u : Tok} {Q : Value → Shared → Prop} {E : Value → Shared → Prop} (I : Inv X pins σ H s) (hu : X.A.units < cLine) (he : H a = some (.dK [])) (q : Q (.bool false) s) :
    wpAny (model X.prog X.w) X.A (compareOp .Eq (.ref a) (.str z u)) Q E s := by
  obtain ⟨_, hs, vs, kv, o, es, ep, ho, hx, hda, _, hp, _⟩ := I.hok _ _ he
  show wpAny _ _ (richCompare .Eq _ _) _ _ _
  have ty : s.TypeIs (.ref a) "dict" := ⟨o, ho, hx.1⟩
  exact SeqAt.rc_eq_decline_or (k := false) ty (typeIs_str s z u) (by decide) PySem.F.sub_str_dict PySem.F.slot_dict_eq PySem.F.slot_str_eq_refl
    (fun _ hq => dict_declines ty hq)
    (fun _ hq => call_meets PySem.F.slot_str_eq_refl (typeIs_str s z u) PySem.F.entry_str_eq (PySem.F.args_str_eq_2 _ _) (str_declines z u a o es ep) ⟨ho, hda, hq⟩)
    (fun _ hq => wpAny_of_eq (rfl : isSame (.ref a) (.str z u) = pure false) hq) (.inr hu) q
/-- x == z of data x, and of an empty dict, and a text z -/
def rEqZ (K : PySem.W.Frag) : R2 := fun x y H Q => ∃ z, y = .str z ∧ ((∃ d, Dp K H x d ∧ SeqAt.shaped d = true ∧ PyData.strOk z = true ∧ Q (.bl (PyData.eqv d (.str z))) H) ∨ ∃ a, x = .ref a ∧ H a = some (.dK []) ∧ Q (.bl false) H)
theorem op_eqZ {X : Cx} (hu : X.A.units + 64 < cLine) : OpR X (compareOp .Eq) (rEqZ X.K) := by
  intro pins s σ H x y v u Q I rx ry h
  obtain ⟨z, rfl, ⟨d, hd, sd, so, q⟩ | ⟨a, rfl, he, q⟩⟩ := h
  · refine op_eqD hu pins s σ H x (.str z) v u Q I rx ry ⟨d, _, hd, .str z, sd, ?_, q⟩
    show (PyData.strOk z && decide (0 ≤ 64)) = true
    rw [so]
    rfl
  · cases rx
    obtain ⟨t, rfl⟩ := ry
    exact eq_emp I (by omega) he ⟨.bl false, H, I, rfl, q⟩
end AT

set_option maxHeartbeats 4000000
namespace AT
open PySem PySem.Spec PyProof.Rows L2
/-- the law's call, from its def's promise -/
theorem lawO {P : Program} {w : World} {K : PySem.W.Frag} {mg mb : Str → Option Value} {CX : CXT} {k : Nat} {fa a : Addr} {x : Str} {sp : Sp} {st : Shared} {vs : List Value} {ns : List Int}
    (KI : K.In st.heap) (hG : st.heap.Ns mainGlobals mg) (hB : st.heap.Ns builtinsNs mb) (hBb : ∀ x : Str, x ≠ "__name__" → mb x = bootBuiltins x) (hNl : st.heap.NoLimit) (hgs : st.gens = #[])
    (hob : st.heap.get? a = some { cls := .type "list", data := .seq vs.toArray }) (hin : IntsAre vs ns) (hsz : ns.length ≤ sizeLine) (hr : Room k callerA)
    (F : ∀ base : Heap, K.In base → base.Ns mainGlobals mg → ∃ fd, FnG P w K mg base CX k fa fd [x] sp ∧ Binds K fd [x] [])
    (hsp : ∀ H : Hp, Only H → SqL K H a (ns.map V.int) → sp [.ref a] H (fun v _ => v = .bl true) fun _ _ _ => False)
    (hno : ∀ H e s', CX [] H st (fun _ _ _ => False) e s' → False) :
    codeAny (model P w) callerA (.call (.ref fa) ⟨[.ref a], []⟩) (fun r s' => r = .ok (.ret (.bool true)) ∧ OldK st.heap s'.heap ∧ s'.os = st.os ∧ AllBare s'.gens) st := by
  have rv := vals_ints hin
  have main : ∀ H : Hp, Only H → SqL K H a (ns.map V.int) → HOk P w H st.heap → (∀ b, H b ≠ none → b = a) → (H a ≠ none → K.lookup a = none) →
      codeAny (model P w) callerA (.call (.ref fa) ⟨[.ref a], []⟩) (fun r s' => r = .ok (.ret (.bool true)) ∧ OldK st.heap s'.heap ∧ s'.os = st.os ∧ AllBare s'.gens) st := by
    intro H hO hS hok hA hKa
    have free : ∀ {b : Addr} {o : Obj} {es : Array DictEntry} {ep : Nat}, st.heap.get? b = some o → o.data = .dict es ep → H b = none := by
      intro b o es ep e d
      cases q : H b with
      | none => rfl
      | some u =>
        obtain rfl : b = a := hA b (by rw [q]; exact Option.some_ne_none u)
        rw [hob] at e
        cases e
        cases d
    have nsH : ∀ {b : Addr} {m : Str → Option Value}, st.heap.Ns b m → (hidT st.heap H).Ns b m := by
      rintro b m ⟨o, es, ep, e, d, rr⟩
      exact ⟨o, es, ep, hidT_get e (free e d), d, rr⟩
    have KH : K.In (hidT st.heap H) := by
      intro b o e
      refine hidT_get (KI b o e) ?_
      cases q : H b with
      | none => rfl
      | some u =>
        obtain rfl : b = a := hA b (by rw [q]; exact Option.some_ne_none u)
        rw [hKa (by rw [q]; exact Option.some_ne_none u)] at e
        cases e
    have hM : Mod K mg (hidT st.heap H) := by
      obtain ⟨mc, h1, h2⟩ := hNl
      exact ⟨KH, nsH hG, ⟨mb, nsH hB, hBb⟩, ⟨mc, nsH h1, h2⟩⟩
    have e0 : Env0 P w K mg (hidT st.heap H) callerA [] st H :=
      { frames := rfl, mod := hM, bs := fun b o e => of_hidT e, bsz := Nat.le_of_eq (hidT_size _ _), funs := trivial, frf := (by intro b hb; exact absurd hb (by simp [frs])), hok := hok, bare := .of_eq hgs }
    obtain ⟨fd, hF, hbd⟩ := F _ KH (nsH hG)
    refine codeAny_mono (hF.run callerA [] st H ⟨[.ref a], []⟩ [.ref a] [.ref a] _ _ rfl hr e0 (hbd st [.ref a] KI rfl) (.cons rfl .nil) (hsp H hO hS)) fun r s' h => ?_
    cases r with
    | error e => exact (hno H e s' h).elim
    | ok fl =>
      cases fl with
      | ret u =>
        obtain ⟨v, H', eos, br, un, hok', r', q⟩ := h
        obtain rfl : v = .bl true := q
        obtain rfl : u = Value.bool true := r'
        refine ⟨rfl, OldK.of_keep fun b o e => ?_, eos, br⟩
        cases q : H b with
        | none => exact un.keep b o e q (by simp [frs]) (by simp)
        | some u =>
          rcases hO b with z | ⟨ob, xs, z⟩
          · rw [q] at z
            cases z
          · have y2 := (hok' b _ (un.frzs b ob _ z)).1
            have y1 := (hok b _ z).1
            rw [e] at y1
            cases y1
            exact y2
      | _ => exact False.elim h
  cases hk : K.lookup a with
  | some o =>
    have e := KI a o hk
    rw [hob] at e
    cases e
    refine main (fun _ => none) (fun _ => .inl rfl) (.inr ⟨_, vs.toArray, _, hk, rfl, rfl, rfl, ?_, by simpa using rv⟩) ?_ (fun b z => absurd rfl z) fun z => absurd rfl z
    · rw [List.size_toArray, hin.length]
      exact hsz
    · intro b u z
      exact nomatch (show (none : Option HO) = some u from z)
  | none =>
    let o1 : Obj := { cls := .type "list", data := .seq vs.toArray }
    refine main (fun b => if b = a then some (.frz o1 (.lst (ns.map V.int))) else none) (fun b => ?_) (.inl (.inr ⟨o1, if_pos rfl⟩)) (fun b u z => ?_) (fun b z => ?_) fun _ => hk
    · by_cases hb : b = a
      · exact .inr ⟨_, _, if_pos hb⟩
      · exact .inl (if_neg hb)
    · by_cases hb : b = a
      · have y := (if_pos hb).symm.trans z
        cases y
        subst hb
        exact ⟨hob, by rw [List.length_map]; exact hsz, vs, _, rv, hob⟩
      · have y := (if_neg hb).symm.trans z
        cases y
    · by_cases hb : b = a
      · exact hb
      · exact absurd (if_neg hb) z
theorem walkO {l : PySem.W.OpenLaw} {n k : Nat} {q : Program} {loose : List Str} {XP : (Str → Option Value) → Heap → Prop} {YP : World → Heap → Prop} {d : DefRec} {CX : World → CXT} {x : Str}
    (hn : l.most = some n) (hn2 : n ≤ sizeLine) (hdf : d.params.defaults = []) (hr : Room k callerA)
    (F : ∀ (w : World) (mg : Str → Option Value) (fa : Addr) (h : Heap), YP w h → h.Ns mainGlobals mg → mg d.name = some (.ref fa) →
      ∃ (K : PySem.W.Frag) (sp : Sp), K.In h ∧
        (∀ (H : Hp) (a : Addr) (ns : List Int), ns.length ≤ n → Only H → SqL K H a (ns.map V.int) → sp [.ref a] H (fun v _ => v = .bl true) fun _ _ _ => False) ∧
        ∀ base : Heap, K.In base → base.Ns mainGlobals mg → ∃ fd, FnG l.prog w K mg base (CX w) k fa fd [x] sp ∧ Binds K fd [x] [])
    (hno : ∀ (w : World) (H : Hp) (s : Shared) (e : Value) (s' : Shared), CX w [] H s (fun _ _ _ => False) e s' → False) :
    PySem.W.WalkO q loose XP YP l.row.toRowW d [] (fun f vs => PySem.call f vs) := by
  refine Att.attach_call hn hdf fun w _ st mg mb fa o pm cd doc a vs ns G Y _ _ _ hmg hob hin hlen hgs => ?_
  obtain ⟨K, sp, KI, hsp, hF⟩ := F w mg fa _ Y G.T.g hmg
  exact lawO KI G.T.g G.T.b G.T.builtins G.T.nolimit hgs hob hin (Nat.le_trans hlen hn2) hr hF (fun H hO hS => hsp H a ns hlen hO hS) fun H e s' => hno w H st e s'
end AT

set_option maxHeartbeats 4000000
namespace AT
open PySem PySem.Spec PyProof.Rows L2
/-! ### operators by an own class's method -/
def tyNames : List String := ["NoneType", "bool", "int", "str", "list", "tuple", "dict"]
/-- C answers the operator nm by its def f -/
structure OpC (K : PySem.W.Frag) (C f : Addr) (nm : String) : Prop where
  first : PySem.W.selfFirst K C = true
  find : PySem.W.findIn K (.ref C) (PySem.dunder nm) = some (some (.ref f))
  fn : PySem.W.isFn K (.ref f) = true
  back : PySem.W.findIn K (.ref C) (PySem.dunderR nm) = some none
  ty : ∀ T ∈ tyNames, ∃ fo ro, PySem.W.findIn K (.type T) (PySem.dunder nm) = some fo ∧ PySem.W.findIn K (.type T) (PySem.dunderR nm) = some ro ∧ PySem.W.subIn K (.type T) (.ref C) = some false
def opcB (x m : Str) (nm : String) (K : PySem.W.Frag) : Bool :=
  PySem.W.selfFirst K (He.ga K x) && (He.eqO (PySem.W.findIn K (.ref (He.ga K x)) (PySem.dunder nm)) (some (some (.ref (He.ma K (He.ga K x) m)))) && (PySem.W.isFn K (.ref (He.ma K (He.ga K x) m)) && (He.eqO (PySem.W.findIn K (.ref (He.ga K x)) (PySem.dunderR nm)) (some none) &&
    tyNames.all fun T => (PySem.W.findIn K (.type T) (PySem.dunder nm)).isSome && ((PySem.W.findIn K (.type T) (PySem.dunderR nm)).isSome && decide (PySem.W.subIn K (.type T) (.ref (He.ga K x)) = some false)))))
theorem opc_ok {x m : Str} {nm : String} {K : PySem.W.Frag} (h : opcB x m nm K = true) : OpC K (He.ga K x) (He.ma K (He.ga K x) m) nm := by
  unfold opcB at h
  simp only [Bool.and_eq_true, List.all_eq_true] at h
  obtain ⟨h1, h2, h3, h4, h5⟩ := h
  refine ⟨h1, He.eqO_ok h2, h3, He.eqO_ok h4, fun T hT => ?_⟩
  obtain ⟨a, b, c⟩ := h5 T hT
  obtain ⟨fo, ea⟩ := Option.isSome_iff_exists.mp a
  obtain ⟨ro, eb⟩ := Option.isSome_iff_exists.mp b
  exact ⟨fo, ro, ea, eb, of_decide_eq_true c⟩
/-- the other operand of a built-in type -/
theorem bin_ty {prog : Program} {w : World} {A : Around} {E : Value → Shared → Prop} {t : Shared} {K : PySem.W.Frag} {p C f : Addr} {oo : Obj} {od : Option Obj} {op : Operator} {u : Value} {T : String} {R : Value → Shared → Prop}
    (KI : K.In t.heap) (J : PySem.W.InstAt t.heap p oo C od) (hu : PySem.W.Looks (model prog w) t.heap (typeOf u) (.type T)) (O : OpC K C f op.info.2) (hT : T ∈ tyNames)
    (go : wpAny (model prog w) A (call (.ref f) [.ref p, u]) (PySem.W.CmpBack R) E t) : wpAny (model prog w) A (binaryOp op (.ref p) u) R E t := by
  obtain ⟨fo, ro, e1, e2, e3⟩ := O.ty T hT
  obtain ⟨cd, rest, ec, em⟩ := PySem.W.ksp_first O.first
  have first := O.find
  have back := O.back
  have fnn := O.fn
  rcases ei : op.info with ⟨sy, nm⟩
  rw [ei] at first back e1 e2
  dsimp only at first back e1 e2
  have turn := PySem.W.ksp_try KI J first fnn go
  obtain ⟨g0, g1, g2, g3, g4⟩ := t
  have k1 : PySem.W.Looks (model prog w) g0 (typeOf (.ref p)) (.ref C) := J.type
  have k2 : PySem.W.Looks (model prog w) g0 (typeOf u) (.type T) := hu
  have k3 : PySem.W.Looks (model prog w) g0 (fillsNumberSlot (.ref C) nm) true := PySem.W.fills_K KI ec em first
  have k4 : PySem.W.Looks (model prog w) g0 (fillsNumberSlot (.type T) nm) ((fo.isSome && !isSeqSlot fo) || (ro.isSome && !isSeqSlot ro)) := PySem.W.ksp_fillsT KI e1 e2
  have k5 : PySem.W.Looks (model prog w) g0 (isSubtype (.type T) (.ref C)) false := PySem.W.looks_subIn KI e3
  have k6 : PySem.W.Looks (model prog w) g0 (numberSlotInPython (.ref C) nm) true := PySem.W.ksp_inPy KI first back (.inl rfl)
  have k7 : PySem.W.Looks (model prog w) g0 (numberSlotInPython (.type T) nm) false := PySem.W.Looks.of_pure rfl
  have k8 : PySem.W.Looks (model prog w) g0 (typeLookup (.type T) (dunderR nm)) ro := PySem.W.looks_findIn KI e2
  generalize ((fo.isSome && !isSeqSlot fo) || (ro.isSome && !isSeqSlot ro)) = rr at k4
  have ne : (Value.ref C == Value.type T) = false := Bool.eq_false_iff.mpr fun z => by cases beq_iff_eq.mp z
  simp only [binaryOp, ei]
  refine wpAny_holding (wpAny_bind ?_)
  unfold binaryOp1
  refine wpAny_bind (k1.at (wpAny_bind (k2.at (wpAny_bind (k3.at ?_)))))
  simp only [ne, Bool.false_eq_true, if_false]
  cases rr
  all_goals
    ksp_lk
    refine wpAny_mono turn (fun r t' z => ?_) fun _ _ z => z
    obtain ⟨v, rfl, z⟩ := z
    ksp_lk
    exact z
/-- x op y by the def of x's class -/
def rOwn (K : PySem.W.Frag) (C : Addr) (sp : Sp) (E : XK) : R2 := fun x y H Q => ∃ p d fs t, x = .ref p ∧ H p = some (.ins C d fs) ∧ TyX K H y t ∧ (t = .ref C ∨ ∃ T, t = .type T ∧ T ∈ tyNames) ∧ sp [.ref p, y] H Q E
theorem ep_back {X : Cx} {pins : List (Addr × Obj)} {σ : L2.St} {Q : VK} {v : Value} {s : Shared} (h : EP X pins σ Q v s) : PySem.W.CmpBack (EP X pins σ Q) v s := by
  obtain ⟨x, H, I, r, q⟩ := id h
  cases v with
  | notImplemented =>
    cases x <;> first | exact nomatch r | (obtain ⟨_, z⟩ := r; exact nomatch z)
  | _ => exact h
section
variable {X : Cx} {C f : Addr} {k : Nat} {ps : List Str} {sp : Sp} {E : XK}
theorem op_own {op : Operator} (O : OpC X.K C f op.info.2) (F : Ok X.prog X.w X.K X.mg X.base k f ps sp) (hr : Room k X.A) (hx : Passes (L2.CX X.prog X.w) X E) : OpR X (binaryOp op) (rOwn X.K C sp E) := by
  intro pins s σ H x y v u Q I rx ry h
  obtain ⟨p, d, fs, t, rfl, hp, ty, ht, hsp⟩ := h
  obtain ⟨fd, F1, b, kp⟩ := F
  cases rx
  obtain ⟨mA, J, _⟩ := ins_get I.hok hp
  obtain ⟨od, J, _⟩ := J.look
  obtain ⟨P, kx, hP, _⟩ := kit_of I ry ty
  have look : PySem.W.Looks (model X.prog X.w) s.heap (typeOf u) t := kx.ty _ _ I.kIn hP
  have run : wpAny (model X.prog X.w) X.A (call (.ref f) [.ref p, u]) (PySem.W.CmpBack (EP X pins σ Q)) X.xe s :=
    wpAny_mono (run_fn (us := [.ref p, u]) (vs := [.ref p, y]) (ds := []) (dvs := []) F1 hr b .nil hx I (.cons rfl (.cons ry .nil)) hsp) (fun _ _ z => ep_back z) fun _ _ z => z
  rcases ht with rfl | ⟨T, rfl, hT⟩
  · obtain ⟨m, hF⟩ := I.fr
    exact PySem.W.binop_K hF I.ok.mod.kin J look O.first O.find O.fn run
  · exact bin_ty I.kIn J look O hT run
/-- -x by the def of x's class -/
def rOwn1 (C : Addr) (sp : Sp) (E : XK) : V → Hp → VK → Prop := fun x H Q => ∃ p d fs, x = .ref p ∧ H p = some (.ins C d fs) ∧ sp [.ref p] H Q E
theorem un_own (hs : PySem.W.findIn X.K (.ref C) "__neg__" = some (some (.ref f))) (hf : PySem.W.isFn X.K (.ref f) = true) (F : Ok X.prog X.w X.K X.mg X.base k f ps sp) (hr : Room k X.A) (hx : Passes (L2.CX X.prog X.w) X E) : UnR X (unaryOp .USub) (rOwn1 C sp E) := by
  intro pins s σ H x v Q I rx h
  obtain ⟨p, d, fs, rfl, hp, hsp⟩ := h
  obtain ⟨fd, F1, b, kp⟩ := F
  cases rx
  obtain ⟨mA, J, _⟩ := ins_get I.hok hp
  obtain ⟨od, J, _⟩ := J.look
  obtain ⟨m, hF⟩ := I.fr
  exact PySem.W.ksp_neg hF I.ok.mod.kin J hs hf (run_fn (us := [.ref p]) (vs := [.ref p]) (ds := []) (dvs := []) F1 hr b .nil hx I (.cons rfl .nil) hsp)
end
end AT

set_option maxHeartbeats 4000000
namespace AT
open PySem PySem.Spec PyProof.Rows L2
/-! ### == and != by an own class's __eq__ -/
structure EqC (K : PySem.W.Frag) (C f : Addr) : Prop where
  find : PySem.W.findIn K (.ref C) "__eq__" = some (some (.ref f))
  fn : PySem.W.isFn K (.ref f) = true
  sub : ∀ T ∈ tyNames, PySem.W.subIn K (.type T) (.ref C) = some false
  ne : PySem.W.findIn K (.ref C) "__ne__" = some (some (.builtin "object.__ne__"))
  obj : PySem.W.mroIn K C (.type "object") = some true
def eqcB (x : Str) (K : PySem.W.Frag) : Bool :=
  He.eqO (PySem.W.findIn K (.ref (He.ga K x)) "__eq__") (some (some (.ref (He.ma K (He.ga K x) "__eq__")))) && (PySem.W.isFn K (.ref (He.ma K (He.ga K x) "__eq__")) && ((tyNames.all fun T => decide (PySem.W.subIn K (.type T) (.ref (He.ga K x)) = some false)) &&
    (He.eqO (PySem.W.findIn K (.ref (He.ga K x)) "__ne__") (some (some (.builtin "object.__ne__"))) && decide (PySem.W.mroIn K (He.ga K x) (.type "object") = some true))))
theorem eqc_ok {x : Str} {K : PySem.W.Frag} (h : eqcB x K = true) : EqC K (He.ga K x) (He.ma K (He.ga K x) "__eq__") := by
  unfold eqcB at h
  simp only [Bool.and_eq_true, List.all_eq_true] at h
  obtain ⟨h1, h2, h3, h4, h5⟩ := h
  exact ⟨He.eqO_ok h1, h2, fun T hT => of_decide_eq_true (h3 T hT), He.eqO_ok h4, of_decide_eq_true h5⟩
section
variable {X : Cx} {C f : Addr} {k : Nat} {ps : List Str} {sp : Sp} {E : XK}
/-- the callee runs a little deeper in C -/
theorem run_in {A : Around} {fd : FuncData} {pins : List (Addr × Obj)} {σ : L2.St} {H : Hp} {s : Shared} {Q : VK} {us : List Value} {vs : List V} (hA : A.frames = X.A.frames) (F : FnOk X.prog X.w X.K X.mg X.base (L2.CX X.prog X.w) k f fd ps sp) (hr : Room k A) (hb : Binds X.K fd ps [])
    (hx : Passes (L2.CX X.prog X.w) X E) (I : Inv X pins σ H s) (r : Vals vs us) (h : sp vs H Q E) : wpAny (model X.prog X.w) A (call (.ref f) us) (EP X pins σ Q) X.xe s := by
  have hl : us.length = ps.length := by rw [← r.length]; exact F.len _ _ _ _ h
  have e := I.env0
  have e0 : Env0 X.prog X.w X.K X.mg X.base A X.stack s H := ⟨by rw [hA]; exact e.frames, e.mod, e.bs, e.bsz, e.funs, e.frf, e.hok, e.bare⟩
  have b := hb s us I.kIn (by simpa using hl)
  rw [List.append_nil] at b
  refine wpAny_call (codeAny_mono (F.run A X.stack s H ⟨us, []⟩ us vs Q E hr e0 b r h) fun res s' hq => ?_)
  cases res with
  | error er => exact hx pins σ H s er s' I hq
  | ok fl =>
    cases fl with
    | ret u => exact I.after hq
    | _ => exact False.elim hq
def OfTy (K : PySem.W.Frag) (H : Hp) (C : Addr) (y : V) : Prop := ∃ t, TyX K H y t ∧ (t = .ref C ∨ ∃ T, t = .type T ∧ T ∈ tyNames)
def rEqO (K : PySem.W.Frag) (C : Addr) (sp : Sp) (E : XK) : R2 := fun x y H Q => ∃ p d fs, x = .ref p ∧ H p = some (.ins C d fs) ∧ OfTy K H C y ∧ sp [.ref p, y] H Q E
def rNeO (K : PySem.W.Frag) (C : Addr) (sp : Sp) (E : XK) : R2 := fun x y H Q => ∃ p d fs, x = .ref p ∧ H p = some (.ins C d fs) ∧ OfTy K H C y ∧ sp [.ref p, y] H (fun v H' => ∃ b, v = .bl b ∧ Q (.bl !b) H') E
theorem not_first {K : PySem.W.Frag} {t : Value} (O : EqC K C f) (h : t = .ref C ∨ ∃ T, t = .type T ∧ T ∈ tyNames) : PySem.W.notFirst K C t = true := by
  unfold PySem.W.notFirst
  rcases h with rfl | ⟨T, rfl, hT⟩
  · simp
  · rw [O.sub T hT]
    simp
theorem op_eqO (O : EqC X.K C f) (F : Ok X.prog X.w X.K X.mg X.base k f ps sp) (hr : Room k X.A) (hx : Passes (L2.CX X.prog X.w) X E) : OpR X (compareOp .Eq) (rEqO X.K C sp E) := by
  intro pins s σ H x y v u Q I rx ry h
  obtain ⟨p, d, fs, rfl, hp, ⟨t, ty, ht⟩, hsp⟩ := h
  obtain ⟨fd, F1, b, kp⟩ := F
  cases rx
  obtain ⟨mA, J, _⟩ := ins_get I.hok hp
  obtain ⟨od, J, _⟩ := J.look
  obtain ⟨P, kx, hP, _⟩ := kit_of I ry ty
  obtain ⟨m, hF⟩ := I.fr
  exact PySem.W.cmp_K (op := .Eq) hr.units0 hF I.ok.mod.kin J (kx.ty _ _ I.kIn hP) (not_first O ht) O.find O.fn
    (wpAny_mono (run_in (us := [.ref p, u]) (vs := [.ref p, y]) rfl F1 hr b hx I (.cons rfl (.cons ry .nil)) hsp) (fun _ _ z => ep_back z) fun _ _ z => z)
/-- object.__ne__ of an instance asks its class's __eq__ -/
theorem ne_body {prog : Program} {w : World} {A : Around} {E1 : Value → Shared → Prop} {t : Shared} {K : PySem.W.Frag} {p C f : Addr} {oo : Obj} {od : Option Obj} {u : Value} {R : Fin → Shared → Prop} (KI : K.In t.heap) (J : PySem.W.InstAt t.heap p oo C od) (O : EqC K C f) (hu : A.units < cLine)
    (go : wpAny (model prog w) A (call (.ref f) [.ref p, u]) (fun v t' => ∃ b, v = .bool b ∧ R (.done (.ret (.bool (!b)))) t') E1 t) : wpAny (model prog w) A (Builtin.«object.__ne__» ⟨[.ref p, u], []⟩) R E1 t := by
  unfold Builtin.«object.__ne__»
  show wpAny _ _ (cRoomFor "comparison" [.ref p, u] >>= _) _ _ _
  refine wpAny_bind (wpAny_cRoomFor hu ?_)
  refine wpAny_bind (m := callSpecialIfBound? (.ref p) (Str.ofString "__eq__") [u]) (PySem.W.ifBound_K KI J O.find O.fn (wpAny_mono go (fun v t' z => ?_) fun _ _ z => z))
  obtain ⟨b, rfl, z⟩ := z
  exact wpAny_bind (wpAny_truthy_bool (wpAny_pure z))
theorem ne_bound {M : Model} {A : Around} {E1 : Value → Shared → Prop} {t : Shared} {K : PySem.W.Frag} {p C : Addr} {oo : Obj} {od : Option Obj} {us : List Value} {R : Option Value → Shared → Prop} (KI : K.In t.heap) (J : PySem.W.InstAt t.heap p oo C od)
    (hs : PySem.W.findIn K (.ref C) "__ne__" = some (some (.builtin "object.__ne__"))) (go : wpAny M A (call (.builtin "object.__ne__") (.ref p :: us)) (fun v => R (some v)) E1 t) : wpAny M A (callSpecialIfBound? (.ref p) "__ne__" us) R E1 t := by
  simp only [callSpecialIfBound?, bindSpecialIfBound?]
  refine wpAny_holding (wpAny_bind (wpAny_bind (wpAny_bind (J.type.here ((PySem.W.looks_findIn KI hs).here ?_)))))
  refine wpAny_bind (wpAny_askSetting (wpAny_ite ?_))
  have last : wpAny M A (call (.builtin "object.__ne__") ([.ref p] ++ us) >>= fun v => pure (some v)) R E1 t := wpAny_bind (wpAny_mono go (fun v t' z => wpAny_pure z) fun _ _ z => z)
  split
  · exact wpAny_bind (wpAny_of_eq (F.cmp_object.ne.bind _) (wpAny_pure (by exact last)))
  · exact wpAny_tryCatch (wpAny_bind (wpAny_of_eq (F.cmp_object.ne.bind _) (wpAny_pure (by exact last))))
theorem ne_own {prog : Program} {w : World} {A : Around} {E1 : Value → Shared → Prop} {t : Shared} {K : PySem.W.Frag} {p C f : Addr} {oo : Obj} {od : Option Obj} {u ty : Value} {R : Value → Shared → Prop} (KI : K.In t.heap) (J : PySem.W.InstAt t.heap p oo C od) (O : EqC K C f) (hu : A.units + 1 < cLine)
    (hty : PySem.W.Looks (model prog w) t.heap (typeOf u) ty) (hn : PySem.W.notFirst K C ty = true)
    (go : wpAny (model prog w) A.in1 (call (.ref f) [.ref p, u]) (fun v t' => ∃ b, v = .bool b ∧ R (.bool (!b)) t') E1 t) : wpAny (model prog w) A (compareOp .NotEq (.ref p) u) R E1 t := by
  have turn : wpAny (model prog w) A (tryCompare (.ref p) "__ne__" u) (fun r t' => ∃ v, r = some v ∧ R v t') E1 t := by
    unfold tryCompare
    refine wpAny_bind (ne_bound KI J O.ne (wpAny_call (codeAny_call_builtin F.cmp_object.ne.plain F.cmpEntry_ne (PySem.W.check_slot F.cmpKind_ne F.cmpSplit_ne (J.type.andThen (PySem.W.looks_mroIn KI O.obj)) (F.cmpArgs_ne _ _)
      (ne_body (A := A.in1) KI J O hu (wpAny_mono go (fun v t' z => ?_) fun _ _ z => z))))))
    obtain ⟨b, rfl, z⟩ := z
    exact ⟨b, rfl, wpAny_pure ⟨_, rfl, z⟩⟩
  show wpAny _ _ (richCompare .NotEq _ _) _ _ _
  simp only [richCompare, cmpInfo_NotEq, oneThing_ref]
  refine wpAny_holding (wpAny_bind (wpAny_cRoomFor (Nat.lt_of_succ_lt hu) ?_))
  refine wpAny_bind (J.type.here (wpAny_bind (hty.here ?_)))
  split
  · rename_i z
    have e : PySem.W.subIn K ty (.ref C) = some false := by
      rcases Bool.or_eq_true_iff.mp hn with e | e
      · rw [beq_iff_eq.mp e] at z
        simp at z
      · exact beq_iff_eq.mp e
    refine wpAny_bind ((PySem.W.looks_subIn KI e).here ?_)
    simp only [Bool.false_eq_true, if_false]
    refine wpAny_bind (wpAny_mono turn (fun r t' y => ?_) fun _ _ y => y)
    obtain ⟨v, rfl, y⟩ := y
    exact wpAny_pure y
  · refine wpAny_bind (wpAny_pure ?_)
    simp only [Bool.false_eq_true, if_false]
    refine wpAny_bind (wpAny_mono turn (fun r t' y => ?_) fun _ _ y => y)
    obtain ⟨v, rfl, y⟩ := y
    exact wpAny_pure y
theorem op_neO (O : EqC X.K C f) (F : Ok X.prog X.w X.K X.mg X.base k f ps sp) (hr : Room (k + 1) X.A) (hx : Passes (L2.CX X.prog X.w) X E) : OpR X (compareOp .NotEq) (rNeO X.K C sp E) := by
  intro pins s σ H x y v u Q I rx ry h
  obtain ⟨p, d, fs, rfl, hp, ⟨t, ty, ht⟩, hsp⟩ := h
  obtain ⟨fd, F1, b, kp⟩ := F
  cases rx
  obtain ⟨mA, J, _⟩ := ins_get I.hok hp
  obtain ⟨od, J, _⟩ := J.look
  obtain ⟨P, kx, hP, _⟩ := kit_of I ry ty
  refine ne_own I.kIn J O (by have := hr.un; omega) (kx.ty _ _ I.kIn hP) (not_first O ht) (wpAny_mono (run_in (A := X.A.in1) (us := [.ref p, u]) (vs := [.ref p, y]) rfl F1 hr.in1 b hx I (.cons rfl (.cons ry .nil)) hsp) (fun v s' z => ?_) fun _ _ z => z)
  obtain ⟨xv, H', I', rz, bb, rfl, q⟩ := z
  cases rz
  exact ⟨bb, rfl, .bl _, H', I', rfl, q⟩
end
end AT

set_option maxHeartbeats 4000000
namespace AT
open PySem PySem.Spec PyProof.Rows L2
section
variable {X : Cx} {k : Nat} {f C : Addr} {ps : List Str} {sp : Sp} {dvs : List V} {E : XK} {x m : Str} {p pos apos : Pos} {e o : Expr} {es : List Expr} {ta : TE} {t : TA}
/-- o.m(..) -/
theorem ok_meth {pl : Sem Bool} (c : Cls X.K C) (hm : Meth X.K C m f) (F : Ok X.prog X.w X.K X.mg X.base k f ps sp) (hr : Room k X.A) (hx : Passes (L2.CX X.prog X.w) X E) (he : PE X o ta) (ha : PA X (e :: es) t)
    (hst : starEach (e :: es) X.env = (false, eval e X.env) :: starEach es X.env := by rfl) (hpl : (backTo pos (starEach es X.env)).any (·.1) = false := by rfl)
    (ht : eval (.Call (.Attribute o m apos) (e :: es) [] pos) X.env = (do
      let w0 ← eval o X.env
      standAt apos.atName
      let (g0, us0) ← holding [w0] (getMethod w0 m pl)
      callWith pos g0 us0 (backTo pos (starEach (e :: es) X.env)) (backToKw pos (keywordEach [] X.env))) := by rfl) :
    PE X (.Call (.Attribute o m apos) (e :: es) [] pos) (tMeth C m sp [] E ta t) := by
  obtain ⟨fd, F1, b, kp⟩ := F
  exact pe_meth he c hm F1 hr b .nil hx ha hst hpl ht
theorem ok_meth0 {pl : Sem Bool} (c : Cls X.K C) (hm : Meth X.K C m f) (F : Ok X.prog X.w X.K X.mg X.base k f ps sp) (hr : Room k X.A) (hx : Passes (L2.CX X.prog X.w) X E) (he : PE X o ta)
    (ht : eval (.Call (.Attribute o m apos) [] [] pos) X.env = (do
      let w0 ← eval o X.env
      standAt apos.atName
      let (g0, us0) ← holding [w0] (getMethod w0 m pl)
      callWith pos g0 us0 (backTo pos (starEach [] X.env)) (backToKw pos (keywordEach [] X.env))) := by rfl) :
    PE X (.Call (.Attribute o m apos) [] [] pos) (tMeth C m sp [] E ta tNil) := by
  obtain ⟨fd, F1, b, kp⟩ := F
  exact pe_meth0 he c hm F1 hr b .nil hx ht
end
/-! ### lists of the very same objects and of flat values -/
def EqPair (x y : V) (b : Bool) : Prop := (∃ a, x = .ref a ∧ y = .ref a ∧ b = true) ∨ (flatV x = true ∧ flatV y = true ∧ b = eqV x y)
theorem EqPair.at {A : Around} {s : Shared} {x y : V} {u v : Value} {b : Bool} (h : EqPair x y b) (rx : RelV x u) (ry : RelV y v) : SeqAt.EqAt A s u v b := by
  rcases h with ⟨a, rfl, rfl, rfl⟩ | ⟨h1, h2, rfl⟩
  · cases rx
    cases ry
    exact SeqAt.EqAt.same _
  · exact eqAt_V rx ry h1 h2
def AlikeL (K : PySem.W.Frag) (x y : V) (H : Hp) (e : Nat → Bool) (n : Nat) : Prop := ∃ a b xs ys, x = .ref a ∧ y = .ref b ∧ SqL K H a xs ∧ SqL K H b ys ∧ xs.length = n ∧ ys.length = n ∧ ∀ i x y, xs[i]? = some x → ys[i]? = some y → EqPair x y (e i)
def rEqI (K : PySem.W.Frag) : R2 := fun x y H Q => ∃ e n, AlikeL K x y H e n ∧ Q (.bl ((List.range n).all e)) H
def rNeI (K : PySem.W.Frag) : R2 := fun x y H Q => ∃ e n, AlikeL K x y H e n ∧ Q (.bl (!(List.range n).all e)) H
section
variable {X : Cx}
theorem alike_lists {pins : List (Addr × Obj)} {σ : L2.St} {H : Hp} {s : Shared} {x y : V} {u v : Value} {e : Nat → Bool} {n : Nat} (I : Inv X pins σ H s) (rx : RelV x u) (ry : RelV y v) (h : AlikeL X.K x y H e n) :
    ∃ (a b : Addr) (is js : Array Value), u = .ref a ∧ v = .ref b ∧ s.heap.IsList a is ∧ s.heap.IsList b js ∧ is.size = n ∧ js.size = n ∧ ∀ (A : Around) j (h1 : j < is.size) (h2 : j < js.size), SeqAt.EqAt A s is[j] js[j] (e j) := by
  obtain ⟨a, b, xs, ys, rfl, rfl, ha, hb, la, lb, hp⟩ := h
  cases rx
  cases ry
  obtain ⟨its, rv, pl, _⟩ := I.list ha
  obtain ⟨jts, rw, ql, _⟩ := I.list hb
  refine ⟨a, b, its.toArray, jts.toArray, rfl, rfl, pl.isList, ql.isList, ?_, ?_, fun A j h1 h2 => ?_⟩
  · rw [List.size_toArray, ← rv.length]; exact la
  · rw [List.size_toArray, ← rw.length]; exact lb
  · rw [List.size_toArray] at h1 h2
    have g1 : j < xs.length := by rw [rv.length]; exact h1
    have g2 : j < ys.length := by rw [rw.length]; exact h2
    obtain ⟨u1, e1, r1⟩ := rv.get (List.getElem?_eq_getElem g1)
    obtain ⟨u2, e2, r2⟩ := rw.get (List.getElem?_eq_getElem g2)
    rw [List.getElem?_eq_getElem h1] at e1
    rw [List.getElem?_eq_getElem h2] at e2
    cases e1
    cases e2
    exact (hp j _ _ (List.getElem?_eq_getElem g1) (List.getElem?_eq_getElem g2)).at r1 r2
theorem op_eqI (hu : X.A.units + 64 < cLine) : OpR X (compareOp .Eq) (rEqI X.K) := by
  intro pins s σ H x y v u Q I rx ry h
  obtain ⟨e, n, al, q⟩ := h
  obtain ⟨a, b, is, js, rfl, rfl, l1, l2, n1, n2, el⟩ := alike_lists I rx ry al
  refine (SeqAt.RcAt.lists (e := e) l1 l2 (by rw [n1, n2]) (by omega) (el _)) X.prog X.w X.xe _ ?_
  rw [n1]
  exact ⟨.bl _, H, I, rfl, q⟩
theorem op_neI (hu : X.A.units + 64 < cLine) : OpR X (compareOp .NotEq) (rNeI X.K) := by
  intro pins s σ H x y v u Q I rx ry h
  obtain ⟨e, n, al, q⟩ := h
  obtain ⟨a, b, is, js, rfl, rfl, l1, l2, n1, n2, el⟩ := alike_lists I rx ry al
  refine (SeqAt.RcNeAt.lists (e := e) l1 l2 (by rw [n1, n2]) (by omega) (el _)) X.prog X.w X.xe _ ?_
  rw [n1]
  exact ⟨.bl _, H, I, rfl, q⟩
end
/-- what is never reached -/
theorem pe_never {X : Cx} {e : Expr} : PE X e (fun _ _ _ => False) := ⟨fun _ _ _ _ _ _ z => z.elim⟩
/-! ### defaults that are objects -/
def dflA (loc : PySem.W.Frag → Addr) (i : Nat) (K : PySem.W.Frag) : Addr := match K.lookup (loc K) with
  | some ⟨_, _, .func u, _⟩ => (match u.defaults with
    | .ref T => (match K.lookup T with
      | some ⟨_, _, .seq its _, _⟩ => (match its[i]? with
        | some (.ref a) => a
        | _ => 0)
      | _ => 0)
    | _ => 0)
  | _ => 0
def tup0B (a : PySem.W.Frag → Addr) (K : PySem.W.Frag) : Bool := match K.lookup (a K) with
  | some ⟨.type "tuple", _, .seq its _, _⟩ => its.isEmpty
  | _ => false
theorem tup0_ok {a : PySem.W.Frag → Addr} {K : PySem.W.Frag} (h : tup0B a K = true) (H : Hp) : SqT K H (a K) [] := by
  unfold tup0B at h
  split at h
  · rename_i d its n sl e
    have z : its = #[] := by simpa using h
    subst z
    exact .inr ⟨_, _, _, e, rfl, rfl, Nat.zero_le _, .nil⟩
  · cases h
end AT

set_option maxHeartbeats 4000000
namespace AT
open PySem PySem.Spec PyProof.Rows L2
open AutoSeq1 (wpAny_loadPart')
/-! ### enumerate of a tuple -/
abbrev tupIt (t : Addr) : Obj := { cls := .type "tuple_iterator", data := .fields #[.ref t, .int 0 0] }
abbrev enumOf (it : Addr) : Obj := { cls := .type "enumerate", data := .fields #[.none, .bool false, .ref it, rawInt 0, .none, .none] }
theorem new_enum (t : Addr) (its : Array Value) (n : Nat) (dd : Option Addr) (sl : Array (Option Value)) :
    Meets (Builtin.«enumerate.__new__» ⟨[.type "enumerate", .ref t], []⟩) (fun _ R s => s.heap.get? t = some ⟨.type "tuple", dd, .seq its n, sl⟩ ∧ R (.ok (.ret (.ref (s.heap.push (tupIt t)).objs.size))) { s with heap := (s.heap.push (tupIt t)).push (enumOf s.heap.objs.size) }) :=
  .of_wp fun prog w A R s h => by
    obtain ⟨g0, g1, g2, g3, g4⟩ := s
    obtain ⟨ht, h⟩ := h
    have sube := sub_enumerate
    have tt : Heap.IsTuple (Shared.heap ⟨g0, g1, g2, g3, g4⟩) t its := ⟨_, ht, rfl, n, rfl⟩
    wp_walk using wpAny_loadPart' ht
    refine wpAny_stack_any fun st => wpAny_pure ?_
    split
    · rename_i c _ _ _ _ _
      cases (c == Value.type "enumerate")
      all_goals
        wp_walk using wpAny_loadPart' ht, wpAny_pyIter_tuple tt
        exact ⟨_, rfl, h⟩
    · wp_walk using wpAny_loadPart' ht, wpAny_pyIter_tuple tt
      exact ⟨_, rfl, h⟩
section
variable {prog : Program} {w : World} {A : Around} {E : Value → Shared → Prop} {s : Shared}
theorem call_enum {t : Addr} {its : Array Value} {Q : Value → Shared → Prop} (ht : s.heap.IsTuple t its)
    (go : ∀ h', IsEnum h' (s.heap.objs.size + 1) s.heap.objs.size 0 .none → h'.IsTupleIter s.heap.objs.size t 0 → (∀ b o, s.heap.get? b = some o → h'.get? b = some o) → Q (.ref (s.heap.objs.size + 1)) { s with heap := h' }) :
    wpAny (model prog w) A (call (.type "enumerate") [.ref t]) Q E s := by
  obtain ⟨⟨c, dd, dt, sl⟩, e1, e2, n, e3⟩ := ht
  replace e2 : c = .type "tuple" := e2
  replace e3 : dt = .seq its n := e3
  subst e2 e3
  refine callType_new F.called_enumerate (by decide) (F.typeCall_enumerate_1 _) (F.newCall_enumerate_1 _) (fun obj => F.args_object_init_2 obj _) F.entry_enumerate_new (new_enum t its n dd sl) ⟨e1, ?_⟩
  have sz : (s.heap.push (tupIt t)).objs.size = s.heap.objs.size + 1 := Heap.size_push ..
  show _ ∧ _
  rw [sz]
  have en : IsEnum ((s.heap.push (tupIt t)).push (enumOf s.heap.objs.size)) (s.heap.objs.size + 1) s.heap.objs.size 0 .none := by
    have z := Heap.get?_push_size (s.heap.push (tupIt t)) (o := enumOf s.heap.objs.size) rfl
    rw [sz] at z
    exact z
  exact ⟨⟨_, en, rfl⟩, go _ en ⟨_, Heap.get?_push_of_some _ (Heap.get?_push_size _ rfl), rfl, rfl⟩ fun b o z => Heap.get?_push_of_some _ (Heap.get?_push_of_some _ z)⟩
end
/-- the tuple at a, each item in a new pair -/
def IteT (K : PySem.W.Frag) (a : Addr) : It where
  go i H := ∃ (xs : List V) (x : V), SqT K H a xs ∧ xs[i]? = some x
  yld i H v H' := ∃ T x, v = .ref T ∧ H T = none ∧ H' = upd H T (.tup [.int (i : Nat), x]) ∧ ∀ xs, SqT K H a xs → xs[i]? = some x
  stop i H := ∃ xs : List V, SqT K H a xs ∧ xs.length ≤ i
theorem tup_ne {X : Cx} {pins : List (Addr × Obj)} {σ : L2.St} {H : Hp} {s : Shared} {t it : Addr} {i : Nat} {its : Array Value} (h : s.heap.IsTupleIter it t i) (g : s.heap.IsTuple t its) : t ≠ it := by
  rintro rfl
  obtain ⟨o, e, c, _⟩ := h
  obtain ⟨o', e', c', _⟩ := g
  rw [e] at e'
  cases e'
  rw [c] at c'
  exact absurd (Value.type.inj c') (by decide)
theorem turn_enumT {P : Program} {w : World} {K : PySem.W.Frag} {elts : List Expr} {kk : Nat} {tpos : Pos} (a e it : Addr) :
    Turn P w K (.Tuple elts kk tpos) (IteT K a) [e, it] e (fun i h => (∃ old, IsEnum h e it ((i : Nat) : Int) old) ∧ h.IsTupleIter it a i ∧ e ≠ it ∧ e ≠ a) where
  mem := by simp
  obj := fun i h st b hb => by
    obtain ⟨⟨old, he⟩, ⟨o, ho, hc, hd⟩, _⟩ := st
    rcases (show b = e ∨ b = it by simpa using hb) with z | z
    · rw [z]; exact ⟨_, he, fun v q => nomatch q⟩
    · rw [z]; exact ⟨o, ho, fun v q => by rw [hd] at q; cases q⟩
  keep := fun i h h' st k => by
    obtain ⟨⟨old, he⟩, hi, n1, n2⟩ := st
    exact ⟨⟨old, k e (by simp) _ he⟩, hi.at fun o q => k it (by simp) o q, n1, n2⟩
  item := by
    intro X hP hw hK hc i pins s σ H E I hf st hg
    subst hP hw hK
    obtain ⟨⟨old, he⟩, hi, n1, n2⟩ := st
    obtain ⟨xs, x, hq, hx⟩ := hg
    obtain ⟨its, rv, p, hz⟩ := I.tuple hq
    obtain ⟨u, hu, ru⟩ := rv.get hx
    have le : e < s.heap.objs.size := Heap.lt_size he
    have li : it < s.heap.objs.size := by obtain ⟨_, q, _⟩ := hi; exact Heap.lt_size q
    have ne : a ≠ it := tup_ne (X := X) (pins := pins) (σ := σ) (H := H) hi p
    have lt : i < its.toArray.size := by
      rw [List.size_toArray]
      exact (List.getElem?_eq_some_iff.mp hu).1
    refine wpAny_pyNext_enum_itemD (Draws.tuple (A := X.A.in1) (I.ok.hd hc) it a ne its.toArray) he ⟨hi, p⟩ lt n1 (by simp [n1, n2]) fun v h' tk hv out st' hT hsz hk => ?_
    have ev : v = u := by
      have z : its.toArray[i]? = some v := hv
      rw [List.getElem?_toArray, hu] at z
      cases z
      rfl
    subst ev
    refine ⟨_, rfl, wpAny_letOwnedTupleGo_enum (s := { s with heap := h', toks := tk + 1 }) out fun h'' he' sb => ?_⟩
    have hT2 : h''.get? s.heap.objs.size = some { cls := .type "tuple", data := .seq #[.int i tk, v] } := (sb.2 _ (Nat.ne_of_gt le)).trans hT
    have new : ObjOk X.prog X.w (upd H s.heap.objs.size (.tup [.int (i : Nat), x])) h'' s.heap.objs.size (.tup [.int (i : Nat), x]) :=
      ⟨(by show 2 ≤ sizeLine; decide), [.int i tk, v], .cons ⟨_, rfl⟩ (.cons ru .nil), ⟨_, hT2, rfl, _, rfl⟩⟩
    have I1 : Inv X pins σ (upd H s.heap.objs.size (.tup [.int (i : Nat), x])) { s with heap := h'', toks := tk + 1 } :=
      I.turnedNew (ch := [e, it]) (fun b ob hb q => (sb.2 b (fun z => hb (by simp [z]))).trans (hk b ob (fun z => hb (by simp [z])) (fun z => hb (by simp [z])) q)) hf (Nat.le_refl _) new
    refine ⟨.ref s.heap.objs.size, _, I1, rfl, ⟨_, x, rfl, I.hok.fresh (Nat.le_refl _), rfl, fun ys hy => by rw [I.tuple_inj hy hq]; exact hx⟩, ⟨⟨v, ?_⟩, st'.1.at fun o q => (sb.2 it (Ne.symm n1)).trans q, n1, n2⟩, fun b hb => ?_⟩
    · rw [show ((i + 1 : Nat) : Int) = (i : Int) + 1 by omega]
      exact he'
    · have lb : b < s.heap.objs.size := by
        rcases (show b = e ∨ b = it by simpa using hb) with z | z
        · rw [z]; exact le
        · rw [z]; exact li
      rw [upd_ne (Nat.ne_of_lt lb)]
      exact (hf b hb).1
  done := by
    intro X hP hw hK hc i pins s σ H E I hf st hg
    subst hP hw hK
    obtain ⟨⟨old, he⟩, hi, n1, n2⟩ := st
    obtain ⟨xs, hq, hx⟩ := hg
    obtain ⟨its, rv, p, hz⟩ := I.tuple hq
    obtain ⟨f0, f1, f2, f3, f4, f5⟩ := hf it (by simp)
    have out : its.toArray[i]? = none := by
      rw [List.getElem?_toArray]
      exact List.getElem?_eq_none (by rw [← rv.length]; exact hx)
    have ty : s.TypeIs (.ref e) "enumerate" := ⟨_, he, rfl⟩
    unfold pyNext
    refine wpAny_bind (wpAny_attempt (wpAny_callSpecial?_slot (name := Str.ofString "__next__") ty F.slot_enumerate_next (wpAny_call_entry F.slot_enumerate_next ty F.entry_enumerate_next ?_ (F.args_enumerate_next_1 _))))
    show wpAny _ _ (field (.ref e) 2 >>= fun z => _) _ _ _
    refine wpAny_bind (wpAny_field he rfl (x := .ref it) rfl ?_)
    refine wpAny_bind (wpAny_nextOf_tuple_end (I.ok.hd hc) hi p out fun h' x e1 z => ?_)
    obtain ⟨o, e2, e3⟩ := z
    refine wpAny_bind (wpAny_isInstance (T := "StopIteration") (b := true) ⟨o, e2, e3⟩ isSubtype_stop ?_)
    exact wpAny_pure ⟨rfl, I.turned (t' := s.toks) (fun b o hb q => e1 b o hb q) f0 f1 f3 f4 f5⟩
  self := fun A i s Q E st h => let ⟨⟨_, he⟩, _⟩ := st; wpAny_pyIter_enum he h
/-- enumerate(x) of a list or a tuple -/
def EnOf (K : PySem.W.Frag) (H : Hp) (a : Addr) (xs : List V) (J : It) : Prop := (SqL K H a xs ∧ J = Ite K a) ∨ (SqT K H a xs ∧ J = IteT K a)
def iEnumA (K : PySem.W.Frag) (ta : TA) : TI := fun σ H R => ta σ H fun vs H1 => ∃ a xs, vs = [.ref a] ∧ (SqL K H1 a xs ∨ SqT K H1 a xs) ∧ ∀ J, EnOf K H1 a xs J → R J H1
theorem pi_enumA {X : Cx} {x : Expr} {ta : TA} {p pos tpos : Pos} {elts : List Expr} {kk : Nat} (hg : Gl X "enumerate") (hm : X.mg "enumerate" = none) (ha : PA X [x] ta) (hs : starEach [x] X.env = [(false, eval x X.env)] := by rfl) : PI X (.Tuple elts kk tpos) (.Call (.Name "enumerate" p) [x] [] pos) (iEnumA X.K ta) := by
  refine ⟨fun pins s σ H R I h => ?_⟩
  have fok : ∀ {s1 : Shared} {H1 : Hp}, Inv X pins σ H1 s1 → ∀ b ∈ [s1.heap.objs.size + 1, s1.heap.objs.size], FpOk X pins H1 b := fun {s1 H1} I1 b hb => by
    have le : s1.heap.objs.size ≤ b := by
      rcases (show b = s1.heap.objs.size + 1 ∨ b = s1.heap.objs.size by simpa using hb) with z | z
      · rw [z]; exact Nat.le_add_right _ _
      · rw [z]; exact Nat.le_refl _
    exact I1.fpOk le (I1.hok.fresh le)
  refine Call_ (ld_blt I hg hm boot_enumerate (PyProof.Rows.callWith_type1 (thn (ha.run pos pins s σ H _ I h) fun us s1 ⟨vs, H1, I1, r1, q1⟩ => ?_) hs rfl))
  obtain ⟨a, xs, rfl, q1⟩ := q1
  obtain ⟨u, rfl, ru⟩ := r1.one
  cases ru
  obtain ⟨hq | hq, q⟩ := q1
  · have q := q _ (.inl ⟨hq, rfl⟩)
    obtain ⟨its, rv, pl, _⟩ := I1.list hq
    refine call_enumerate_list pl.isList fun h' he hit _ hk => wpAny_pyIter_enum he ?_
    exact ⟨s1.heap.objs.size + 1, [s1.heap.objs.size + 1, s1.heap.objs.size], _, _, H1, rfl, I1.kept (t' := s1.toks) hk, turn_enum a (s1.heap.objs.size + 1) s1.heap.objs.size, ⟨⟨.none, he⟩, hit, Nat.succ_ne_self _⟩, fok I1, q⟩
  · have q := q _ (.inr ⟨hq, rfl⟩)
    obtain ⟨its, rv, pl, _⟩ := I1.tuple hq
    have la : a < s1.heap.objs.size := by obtain ⟨o, e, _⟩ := id pl; exact Heap.lt_size e
    refine call_enum pl fun h' he hit hk => wpAny_pyIter_enum he ?_
    exact ⟨s1.heap.objs.size + 1, [s1.heap.objs.size + 1, s1.heap.objs.size], _, _, H1, rfl, I1.kept (t' := s1.toks) hk, turn_enumT a (s1.heap.objs.size + 1) s1.heap.objs.size, ⟨⟨.none, he⟩, hit, Nat.succ_ne_self _, Nat.ne_of_gt (Nat.lt_succ_of_lt la)⟩, fok I1, q⟩
theorem walk_enumT {K : PySem.W.Frag} {a : Addr} {xs : List V} : Walk (IteT K a) xs.length (fun H => SqT K H a xs) (YPair (fun i => some (.int (i : Nat))) (fun i => xs[i]?)) := by
  refine ⟨fun i H hi h => ⟨xs, xs[i], h, List.getElem?_eq_getElem hi⟩, fun H h => ⟨xs, h, Nat.le_refl _⟩, fun i H x H' hi h y => ?_⟩
  obtain ⟨T, z, e1, e2, e3, e4⟩ := y
  exact ⟨T, .int (i : Nat), z, e1, e2, e3, rfl, e4 xs h⟩
end AT

set_option maxHeartbeats 4000000
namespace AT
open PySem PySem.Spec PyProof.Rows L2
/-! ### lists and tuples alike -/
def rIxQ (K : PySem.W.Frag) : R2 := fun x y H Q => ∃ p xs i v, x = .ref p ∧ y = .int i ∧ (SqL K H p xs ∨ SqT K H p xs) ∧ atI xs i = some v ∧ Q v H
theorem ix_sq {X : Cx} : IxR X (rIxQ X.K) := by
  intro value slice pins s σ H x y v u Q I rx ry h hs
  obtain ⟨p, xs, i, z, e1, e2, hq | hq, he, q⟩ := h
  · exact ix_list value slice pins s σ H x y v u Q I rx ry ⟨p, xs, i, z, e1, e2, hq, he, q⟩ hs
  · exact ix_tup value slice pins s σ H x y v u Q I rx ry ⟨p, xs, i, z, e1, e2, hq, he, q⟩ hs
/-- enumerate(..) of either -/
theorem en_walk {K : PySem.W.Frag} {H : Hp} {a : Addr} {xs : List V} {J : It} (h : EnOf K H a xs J) : ∃ G : Hp → Prop, Walk J xs.length G (YPair (fun i => some (.int (i : Nat))) (fun i => xs[i]?)) ∧ ∀ H', H' a = H a → G H' := by
  rcases h with ⟨h, rfl⟩ | ⟨h, rfl⟩
  · refine ⟨_, walk_enum, fun H' e => ?_⟩
    rcases h with (h | ⟨o, h⟩) | h
    · exact .inl (.inl (e.trans h))
    · exact .inl (.inr ⟨o, e.trans h⟩)
    · exact .inr h
  · refine ⟨_, walk_enumT, fun H' e => ?_⟩
    rcases h with (h | ⟨o, h⟩) | h
    · exact .inl (.inl (e.trans h))
    · exact .inl (.inr ⟨o, e.trans h⟩)
    · exact .inr h
end AT

set_option maxHeartbeats 4000000
namespace AT
open PySem PySem.Spec PyProof.Rows L2
theorem Same.sql {K : PySem.W.Frag} {H H' : Hp} {a : Addr} {xs : List V} (e : Same H H') (h : SqL K H a xs) : SqL K H' a xs := by
  rcases h with (h | ⟨o, h⟩) | h
  · exact .inl (.inl (e _ _ h))
  · exact .inl (.inr ⟨o, e _ _ h⟩)
  · exact .inr h
def SqB (K : PySem.W.Frag) (H : Hp) (a : Addr) (xs : List V) : Bool → Prop
  | true => SqL K H a xs
  | false => SqT K H a xs
def mkS (xs : List V) : Bool → HO
  | true => .lst xs
  | false => .tup xs
theorem SqB.of {K : PySem.W.Frag} {H : Hp} {a : Addr} {xs : List V} {b : Bool} (h : H a = some (mkS xs b)) : SqB K H a xs b := by
  cases b with
  | true => exact SqL.of h
  | false => exact SqT.of h
theorem SqB.or {K : PySem.W.Frag} {H : Hp} {a : Addr} {xs : List V} {b : Bool} (h : SqB K H a xs b) : SqL K H a xs ∨ SqT K H a xs := by
  cases b with
  | true => exact .inl h
  | false => exact .inr h
/-- a slice of a list (a new list) or a tuple (a new tuple, if it is not all of it) -/
def rSlQ (K : PySem.W.Frag) : V → Option Int → Option Int → Hp → VK → Prop := fun x lo hi H Q => ∃ a xs b, x = .ref a ∧ SqB K H a xs b ∧ (b = false → ¬ (HT.sIx xs.length 0 lo = 0 ∧ HT.sIx xs.length xs.length hi = xs.length)) ∧ ∀ p, H p = none → Q (.ref p) (upd H p (mkS (cutV xs lo hi) b))
theorem sl_sq {X : Cx} : SlR X (rSlQ X.K) := by
  intro pins s σ H x v vl vu lo hi sl Q I rx hs pl pu h
  obtain ⟨a, xs, b, e, hq, hw, q⟩ := h
  cases b with
  | true => exact sl_list pins s σ H x v vl vu lo hi sl Q I rx hs pl pu ⟨a, xs, e, hq, q⟩
  | false => exact sl_tup pins s σ H x v vl vu lo hi sl Q I rx hs pl pu ⟨a, xs, e, hq, hw rfl, q⟩
theorem walk_zipT {K : PySem.W.Frag} {a b : Addr} {xs ys : List V} {n : Nat} (hn : n = min xs.length ys.length) : Walk (RZ.ItzT K a b) n (fun H => SqT K H a xs ∧ SqT K H b ys) (YPair (fun i => xs[i]?) (fun i => ys[i]?)) := by
  subst hn
  refine ⟨fun i H hi h => ⟨xs, ys, _, _, h.1, h.2, List.getElem?_eq_getElem (by omega), List.getElem?_eq_getElem (by omega)⟩, fun H h => ⟨xs, ys, h.1, h.2, by omega⟩, fun i H v H' hi h y => ?_⟩
  obtain ⟨T, x, z, e1, e2, e3, e4, e5⟩ := y
  exact ⟨T, x, z, e1, e2, e3, e4 xs h.1, e5 ys h.2⟩
end AT

set_option maxHeartbeats 4000000
namespace AT
open PySem PySem.Spec PyProof.Rows L2
/-! ### isinstance(e, c) where e has fields -/
section
variable {prog : Program} {w : World} {A : Around} {E : Value → Shared → Prop} {t : Shared} {K : PySem.W.Frag} {p D : Addr} {oo od : Obj}
theorem cls_of {R : Option Value → Shared → Prop} (C : ExcC K D) (KI : K.In t.heap) (J : PySem.W.InstAt t.heap p oo D (some od)) (go : R (some (.ref D)) { t with toks := t.toks + 1 }) : wpAny (model prog w) A (getAttr? (.ref p) "__class__") R E t := by
  have fo : PySem.W.findObj K D (some od) "__class__" = some (.bind (.builtin "getset_descriptor.__get__") (.builtin "object.__class__")) := PySem.W.findObj_data (by obtain ⟨cd, z, _⟩ := PySem.W.any_some C.hd; rw [z]; rfl) C.ha C.hn C.ht
  obtain ⟨g0, g1, g2, g3, g4⟩ := t
  have k0 := J.type (M := model prog w)
  have k1 := PySem.W.looks_findIn (M := model prog w) KI C.hg
  have k2 := PySem.W.looks_findIn (M := model prog w) KI C.hk
  have k3 := PySem.W.looks_find (M := model prog w) KI J fo
  have k4 : PySem.W.Looks (model prog w) g0 (isInstance (.ref p) (.type "BaseException")) true := k0.andThen (PySem.W.looks_subIn KI C.hs)
  have z0 : (false && onTheHeap (Value.builtin "BaseException.__getattribute__")) = false := rfl
  have z1 : (Value.builtin "BaseException.__getattribute__" == Value.builtin "object.__getattribute__") = false := by decide +kernel
  have z2 : (onTheHeap (Value.ref D) && Value.builtin "BaseException.__getattribute__" == Value.builtin "object.__getattribute__") = false := by rw [z1]; rfl
  unfold getAttr? getAttrBy? getAttrBy
  refine wpAny_bind (wpAny_mkText (wpAny_bind (wpAny_attempt (wpAny_holding (wpAny_bind (k0.at (wpAny_bind (k1.at ?_))))))))
  show wpAny _ _ (if (onTheHeap (Value.ref D) && Value.builtin "BaseException.__getattribute__" == Value.builtin "object.__getattribute__") = true then _ else _) _ _ ⟨_, _, _, _, _⟩
  rw [z2, if_neg Bool.false_ne_true]
  unfold getAttrByItsOwn hookBefore
  refine wpAny_bind ?_
  rw [if_pos (show onTheHeap (Value.ref D) = true from rfl)]
  refine k2.at (wpAny_bind (wpAny_attempt (wpAny_holding ?_)))
  unfold callGetattribute
  rw [z0, if_neg Bool.false_ne_true]
  unfold boundAndCalled
  rw [PySem.F.excAttr_ValueError.ga.bind (.ref p)]
  refine wpAny_bind (wpAny_pure ?_)
  show wpAny _ _ (call (.builtin "BaseException.__getattribute__") [.ref p, .str "__class__" g3]) _ _ _
  refine wpAny_call (codeAny_call_builtin PySem.F.excAttr_ValueError.ga.plain PySem.F.entry_bexc_ga ?_)
  refine @PySem.W.check_slot (model prog w) _ _ ⟨g0, g1, g2, g3 + 1, g4⟩ "BaseException.__getattribute__" "BaseException" "__getattribute__" (.ref p) [.str "__class__" g3] [] _ (by decide +kernel) (by decide +kernel) k4 (PySem.F.args_bexc_ga (.ref p) (.str "__class__" g3)) ?_
  unfold Builtin.«object.__getattribute__»
  refine wpAny_bind (wpAny_of_eq (a := ((Value.ref p : Value), [Value.str "__class__" g3])) (by first | rfl | (simp only [slotArgs]; rfl)) ?_)
  refine wpAny_bind (wpAny_pure (wpAny_bind (k0.at (wpAny_bind (k3.at ?_)))))
  show wpAny _ _ (holding [Value.builtin "object.__class__"] (call (.builtin "getset_descriptor.__get__") [.builtin "object.__class__", .ref p, .ref D]) >>= fun z => ret z) _ _ _
  refine wpAny_bind (wpAny_holding (wpAny_call (PySem.W.class_get (s := ⟨g0, g1, g2, g3 + 1, g4⟩) (ox := oo) (od := some od) KI J C.hm ?_)))
  refine wpAny_pure ?_
  show wpAny _ _ (handedOut (.ref D)) _ _ ⟨_, _, _, _, _⟩
  rw [PySem.W.handedOut_of (v := .ref D) rfl]
  exact wpAny_pure (wpAny_pure go)
theorem kitx_of (C : ExcC K D) : PySem.W.KitX K (.ref p) (.ref D) (fun h => PySem.W.InstAt h p oo D (some od)) where
  ty := fun _ _ _ J => J.type
  it := fun _ _ KI _ => by
    obtain ⟨cd, z, _⟩ := PySem.W.any_some C.hd
    unfold PySem.W.clsIn at z
    split at z
    · rename_i c1 d1 cd1 sl1 e1
      intro A1 Q1 E1 s1 k q
      unfold isType loadHead
      exact wpAny_bind (wpAny_loadPart (k _ _ (KI _ _ e1)) (wpAny_pure q))
    · cases z
  ne := fun h tp dd its n sl KI e2 => by
    obtain ⟨cd, z, _⟩ := PySem.W.any_some C.hd
    refine Bool.eq_false_iff.mpr fun q => ?_
    have e : D = tp := Value.ref.inj (beq_iff_eq.mp q)
    subst e
    unfold PySem.W.clsIn at z
    split at z
    · rename_i c1 d1 cd1 sl1 e1
      have y := (KI _ _ e1).symm.trans e2
      cases y
    · cases z
  ca := fun KI J k => cls_of C KI J k
end
/-- isinstance(e, c), e the exception that the suite holds, its fields at d -/
def rIsX (K : PySem.W.Frag) (D a d : Addr) : List V → Hp → VK → Prop := fun xs H Q => ∃ (c : V) (cv : Value) (b : Bool) (fs : List (Str × V)), xs = [.ref a, c] ∧ ClsV c cv ∧ PySem.W.kitOne K (.ref D) cv = some b ∧ H d = some (.xd fs) ∧ Q (.bl b) H
theorem call_isX {X : Cx} {a D d : Addr} {oe : Obj} {cls : Value} {dd : Option Addr} {pn : List (Addr × Obj)} (C : ExcC X.K D) (hz : Zc cls dd oe) (hf : ∃ vs, oe.data = .fields vs) : CallR (X.suite a ((a, oe) :: pn)) (.builtin "isinstance") (fun xs H Q => cls = .ref D ∧ ∃ d, dd = some d ∧ rIsX X.K D a d xs H Q) := by
  intro pins s σ H xs us Q I r h
  obtain ⟨rfl, d, rfl, c, cv, b, fs, rfl, hcv, e, hd, q⟩ := h
  obtain ⟨u1, u2, rfl, r1, r2⟩ : ∃ u1 u2, us = [u1, u2] ∧ RelV (.ref a) u1 ∧ RelV c u2 := by
    cases r with
    | cons rx rr =>
      cases rr with
      | cons rt rr =>
        cases rr
        exact ⟨_, _, rfl, rx, rt⟩
  cases r1
  have ec : u2 = cv := by
    cases hcv <;> (cases r2; rfl)
  subst ec
  obtain ⟨ha, _⟩ := I.pin (a, oe) (List.mem_append.mpr (.inl List.mem_cons_self))
  obtain ⟨vs, hv⟩ := hf
  obtain ⟨mA, hns, hr⟩ := (show ObjOk X.prog X.w H s.heap d (.xd fs) from I.hok d _ hd)
  obtain ⟨od, ho, hl⟩ := lookIn_ns hns
  have J : PySem.W.InstAt s.heap a oe D (some od) := ⟨ha, hz.1, by unfold PySem.W.notCls; rw [hv] <;> rfl, by rw [hz.2]; exact ho⟩
  exact PySem.W.kia_one (kitx_of C) I.kIn J e (fun z => nomatch z) fun tk => ⟨.bl b, H, I.kept (t' := tk) fun _ _ z => z, rfl, q⟩
def excsB (x : Str) (K : PySem.W.Frag) : Bool :=
  He.eqO (PySem.W.findIn K (.ref (He.ga K x)) "__getattribute__") (some (some (.builtin "BaseException.__getattribute__"))) && (He.eqO (PySem.W.findIn K (.ref (He.ga K x)) "__getattr__") (some none) && (decide (PySem.W.subIn K (.ref (He.ga K x)) (.type "BaseException") = some true) && (PySem.W.hasDictIn K (He.ga K x) &&
    (He.eqO (PySem.W.findIn K (.ref (He.ga K x)) "__class__") (some (some (.builtin "object.__class__"))) && (He.eqO (PySem.W.specialIn K (.builtin "object.__class__") "__get__") (some (some (.builtin "getset_descriptor.__get__"))) && (decide (PySem.W.takesIn K (.builtin "object.__class__") = some true) && decide (PySem.W.mroIn K (He.ga K x) (.type "object") = some true)))))))
theorem excs_ok {x : Str} {K : PySem.W.Frag} (h : excsB x K = true) : ExcC K (He.ga K x) := by
  unfold excsB at h
  simp only [Bool.and_eq_true] at h
  obtain ⟨h1, h2, h3, h4, h5, h6, h7, h8⟩ := h
  exact ⟨He.eqO_ok h1, He.eqO_ok h2, of_decide_eq_true h3, h4, He.eqO_ok h5, He.eqO_ok h6, of_decide_eq_true h7, of_decide_eq_true h8⟩
end AT

set_option maxHeartbeats 4000000
namespace AT
open PySem PySem.Spec PyProof.Rows L2
/-! ### C(..) in a try's body -/
section
variable {X : Cx} {k : Nat} {f C : Addr} {ps : List Str} {sp : Sp} {x : Str} {p pos : Pos} {e : Expr} {es : List Expr} {t : TA}
theorem make_at {fd : FuncData} {E : XK} {pins : List (Addr × Obj)} {σ : L2.St} {H : Hp} {s : Shared} {Q : VK} {us : List Value} {vs : List V} (M : Mk X.K C f) (F : FnOk X.prog X.w X.K X.mg X.base (L2.CX X.prog X.w) k f fd ps sp) (hr : Room (k + 1) X.A) (hb : Binds X.K fd ps [])
    (hx : PassesAt (L2.CX X.prog X.w) X σ E) (I : Inv X pins σ H s) (r : Vals vs us) (go : ∀ q d, H q = none → H d = none → d ≠ q → sp (.ref q :: vs) (upd (upd H d (.own q)) q (.ins C d [])) (fun v H2 => v = .non ∧ Q (.ref q) H2) E) : wpAny (model X.prog X.w) X.A (call (.ref C) us) (EP X pins σ Q) X.xe s := by
  have g := go (s.heap.objs.size + 1) s.heap.objs.size (I.hok.fresh (Nat.le_succ _)) (I.hok.fresh (Nat.le_refl _)) (Nat.ne_of_lt (Nat.lt_succ_self _))
  have J := Inv.made (C := C) I
  have rr : Vals (V.ref (s.heap.objs.size + 1) :: vs) (Value.ref (s.heap.objs.size + 1) :: us) := .cons rfl r
  have ln : (Value.ref (s.heap.objs.size + 1) :: us).length = ps.length := by
    have z := rr.length
    rw [F.len _ _ _ _ g] at z
    exact z.symm
  have bd := hb _ (Value.ref (s.heap.objs.size + 1) :: us) J.kIn (by simpa using ln)
  rw [List.append_nil] at bd
  refine wpAny_call (make_map (f := f) I.kIn M.makes M.init (beq_iff_eq.mp M.fn) (codeAny_mono (F.run _ X.stack _ _ ⟨Value.ref (s.heap.objs.size + 1) :: us, []⟩ _ _ _ E (hr.make C us []) (J.env0.make C us []) bd rr g) fun res s' hq => ?_))
  cases res with
  | error er => exact hx pins _ _ er s' J hq
  | ok fl =>
    cases fl with
    | ret u =>
      obtain ⟨v, H', J', rv, ev, q⟩ := J.after hq
      subst ev
      exact ⟨rv, ⟨V.ref (s.heap.objs.size + 1), H', J', rfl, q⟩⟩
    | _ => exact False.elim hq
def tMakeS (C : Addr) (sp : Sp) (E : L2.St → XK) (t : TA) : TE := fun σ H Q => t σ H fun vs H1 => ∀ q d, H1 q = none → H1 d = none → d ≠ q → sp (.ref q :: vs) (upd (upd H1 d (.own q)) q (.ins C d [])) (fun v H2 => v = .non ∧ Q (.ref q) H2) (E σ)
theorem ok_makeS {W : WX} (M : Mk X.K C f) (F : Ok X.prog X.w X.K X.mg X.base k f ps sp) (hr : Room (k + 1) X.A) (hg : Gl X x) (hm : X.mg x = some (.ref C)) (tk : Takes X W) (ha : PA X (e :: es) t)
    (hdb : (x == ("__debug__" : Str)) = false := by decide) (hst : starEach (e :: es) X.env = (false, eval e X.env) :: starEach es X.env := by rfl) (hns : (backTo pos (starEach es X.env)).any (·.1) = false := by rfl) :
    PE X (.Call (.Name x p) (e :: es) [] pos) (tMakeS C sp (fun σ cls d H => W cls d σ H) t) := by
  obtain ⟨fd, F1, b, kp⟩ := F
  constructor
  intro pins s σ H Q I h
  refine wpAny_Call_Name_kw (ld_glob I hg hm ?_ hdb)
  refine PySem.W.callWith_K (h₀ := X.base) I.ok.mod.kin M.kp (thn (ha.run pos pins s σ H _ I h) fun us s1 z => ?_) hst hns
  obtain ⟨vs, H1, I1, r, q⟩ := z
  exact ⟨I1.kIn, make_at M F1 hr b (passAt tk σ) I1 r q⟩
end
end AT

set_option maxHeartbeats 4000000
namespace AT
open PySem PySem.Spec PyProof.Rows L2
/-- lists of unlike lengths -/
def rNeL (K : PySem.W.Frag) : R2 := fun x y H Q => ∃ a b xs ys, x = .ref a ∧ y = .ref b ∧ SqL K H a xs ∧ SqL K H b ys ∧ xs.length ≠ ys.length ∧ Q (.bl true) H
theorem op_neL {X : Cx} (hu : X.A.units + 64 < cLine) : OpR X (compareOp .NotEq) (rNeL X.K) := by
  intro pins s σ H x y v u Q I rx ry h
  obtain ⟨a, b, xs, ys, rfl, rfl, ha, hb, hn, q⟩ := h
  cases rx
  cases ry
  obtain ⟨its, rv, pl, _⟩ := I.list ha
  obtain ⟨jts, rw, ql, _⟩ := I.list hb
  refine (SeqAt.RcNeAt.lists_lengths pl.isList ql.isList ?_ (by omega)) X.prog X.w X.xe _ ⟨.bl true, H, I, rfl, q⟩
  rw [List.size_toArray, List.size_toArray, ← rv.length, ← rw.length]
  simpa using hn
end AT

set_option maxHeartbeats 4000000
namespace AT
open PySem PySem.Spec PyProof.Rows L2
section
variable {X : Cx}
/-- a list that is not itself -/
def rNeLS (K : PySem.W.Frag) : R2 := fun x y H Q => ∃ a xs, x = .ref a ∧ y = .ref a ∧ SqL K H a xs ∧ Q (.bl false) H
theorem op_neLS (hu : X.A.units + 64 < cLine) : OpR X (compareOp .NotEq) (rNeLS X.K) := by
  intro pins s σ H x y v u Q I rx ry h
  obtain ⟨a, xs, rfl, rfl, ha, q⟩ := h
  cases rx
  cases ry
  obtain ⟨its, rv, pl, _⟩ := I.list ha
  refine (SeqAt.RcNeAt.lists (e := fun _ => true) pl.isList pl.isList rfl (by omega) (fun j _ _ => SeqAt.EqAt.same _)) X.prog X.w X.xe _ ?_
  exact ⟨.bl false, H, I, (by show _ = _; simp), q⟩
/-- b is not c, two truths -/
def rNtB : R2 := fun x y H Q => ∃ b c, x = .bl b ∧ y = .bl c ∧ Q (.bl (b != c)) H
theorem op_ntB : OpR X (compareOp .IsNot) rNtB := by
  intro pins s σ H x y v u Q I rx ry h
  obtain ⟨b, c, rfl, rfl, q⟩ := h
  cases rx
  cases ry
  exact isnot_bool ⟨.bl _, H, I, rfl, q⟩
end
end AT

set_option maxHeartbeats 4000000
namespace K11
open PySem PySem.Spec PyProof.Rows L2 AT
/-! the text by places -/
def top (i : Nat) : Stmt := PySem.Challenge.pw_anytempo_k11_maps_refused.main.body.getD i (.Pass ⟨0, 0, 0, 0⟩)
abbrev s__wall : Stmt := top 0
abbrev s_InvalidInteger_init_ : Stmt := inClass (top 3) 0
def d_InvalidInteger_init_ : FD := fdOf (fun K => He.ma K (He.ga K "InvalidInteger") "__init__") "__init__" "InvalidInteger.__init__" s_InvalidInteger_init_
abbrev s_InvalidAmount_init_ : Stmt := inClass (top 4) 0
def d_InvalidAmount_init_ : FD := fdOf (fun K => He.ma K (He.ga K "InvalidAmount") "__init__") "__init__" "InvalidAmount.__init__" s_InvalidAmount_init_
abbrev s_InvalidPart_init_ : Stmt := inClass (top 5) 0
def d_InvalidPart_init_ : FD := fdOf (fun K => He.ma K (He.ga K "InvalidPart") "__init__") "__init__" "InvalidPart.__init__" s_InvalidPart_init_
abbrev s_InvalidPoint_init_ : Stmt := inClass (top 6) 0
def d_InvalidPoint_init_ : FD := fdOf (fun K => He.ma K (He.ga K "InvalidPoint") "__init__") "__init__" "InvalidPoint.__init__" s_InvalidPoint_init_
abbrev s_Falling_init_ : Stmt := inClass (top 7) 0
def d_Falling_init_ : FD := fdOf (fun K => He.ma K (He.ga K "Falling") "__init__") "__init__" "Falling.__init__" s_Falling_init_
abbrev s_is_whole : Stmt := top 9
def d_is_whole : FD := fdOf (fun K => He.ga K "is_whole") "is_whole" "is_whole" s_is_whole
abbrev s_is_list : Stmt := top 10
def d_is_list : FD := fdOf (fun K => He.ga K "is_list") "is_list" "is_list" s_is_list
abbrev s_is_row : Stmt := top 11
def d_is_row : FD := fdOf (fun K => He.ga K "is_row") "is_row" "is_row" s_is_row
abbrev s_common_factor : Stmt := top 13
def d_common_factor : FD := fdOf (fun K => He.ga K "common_factor") "common_factor" "common_factor" s_common_factor
abbrev s_Amount_init_ : Stmt := inClass (top 14) 0
def d_Amount_init_ : FD := fdOf (fun K => He.ma K (He.ga K "Amount") "__init__") "__init__" "Amount.__init__" s_Amount_init_ [.int 1]
abbrev s_Amount_top : Stmt := inClass (top 14) 1
def d_Amount_top : FD := fdOf (propAt "Amount" "top") "top" "Amount.top" s_Amount_top
abbrev s_Amount_bottom : Stmt := inClass (top 14) 2
def d_Amount_bottom : FD := fdOf (propAt "Amount" "bottom") "bottom" "Amount.bottom" s_Amount_bottom
abbrev s_Amount_eq_ : Stmt := inClass (top 14) 3
def d_Amount_eq_ : FD := fdOf (fun K => He.ma K (He.ga K "Amount") "__eq__") "__eq__" "Amount.__eq__" s_Amount_eq_
abbrev s_Amount_add_ : Stmt := inClass (top 14) 4
def d_Amount_add_ : FD := fdOf (fun K => He.ma K (He.ga K "Amount") "__add__") "__add__" "Amount.__add__" s_Amount_add_
abbrev s_Amount_sub_ : Stmt := inClass (top 14) 5
def d_Amount_sub_ : FD := fdOf (fun K => He.ma K (He.ga K "Amount") "__sub__") "__sub__" "Amount.__sub__" s_Amount_sub_
abbrev s_Amount_mul_ : Stmt := inClass (top 14) 6
def d_Amount_mul_ : FD := fdOf (fun K => He.ma K (He.ga K "Amount") "__mul__") "__mul__" "Amount.__mul__" s_Amount_mul_
abbrev s_Amount_divided : Stmt := inClass (top 14) 7
def d_Amount_divided : FD := fdOf (fun K => He.ma K (He.ga K "Amount") "divided") "divided" "Amount.divided" s_Amount_divided
abbrev s_Amount_neg_ : Stmt := inClass (top 14) 8
def d_Amount_neg_ : FD := fdOf (fun K => He.ma K (He.ga K "Amount") "__neg__") "__neg__" "Amount.__neg__" s_Amount_neg_
abbrev s_Amount_abs_ : Stmt := inClass (top 14) 9
def d_Amount_abs_ : FD := fdOf (fun K => He.ma K (He.ga K "Amount") "__abs__") "__abs__" "Amount.__abs__" s_Amount_abs_
abbrev s_Amount_compare : Stmt := inClass (top 14) 10
def d_Amount_compare : FD := fdOf (fun K => He.ma K (He.ga K "Amount") "compare") "compare" "Amount.compare" s_Amount_compare
abbrev s_is_amount : Stmt := top 15
def d_is_amount : FD := fdOf (fun K => He.ga K "is_amount") "is_amount" "is_amount" s_is_amount
abbrev s_amount_from : Stmt := top 16
def d_amount_from : FD := fdOf (fun K => He.ga K "amount_from") "amount_from" "amount_from" s_amount_from
abbrev s_checked_points : Stmt := top 19
def d_checked_points : FD := fdOf (fun K => He.ga K "checked_points") "checked_points" "checked_points" s_checked_points
abbrev s_slope : Stmt := top 20
def d_slope : FD := fdOf (fun K => He.ga K "slope") "slope" "slope" s_slope
abbrev s_led : Stmt := top 21
def d_led : FD := fdOf (fun K => He.ga K "led") "led" "led" s_led
abbrev s_paces : Stmt := top 22
def d_paces : FD := fdOf (fun K => He.ga K "paces") "paces" "paces" s_paces
abbrev s_bends : Stmt := top 23
def d_bends : FD := fdOf (fun K => He.ga K "bends") "bends" "bends" s_bends
abbrev s_TempoMap_init_ : Stmt := inClass (top 24) 0
def d_TempoMap_init_ : FD := fdOf (fun K => He.ma K (He.ga K "TempoMap") "__init__") "__init__" "TempoMap.__init__" s_TempoMap_init_ [.adr (dflA (fun K => He.ma K (He.ga K "TempoMap") "__init__") 0)]
abbrev s_TempoMap_call_ : Stmt := inClass (top 24) 1
def d_TempoMap_call_ : FD := fdOf (fun K => He.ma K (He.ga K "TempoMap") "__call__") "__call__" "TempoMap.__call__" s_TempoMap_call_
abbrev s_TempoMap_beat_of : Stmt := inClass (top 24) 2
def d_TempoMap_beat_of : FD := fdOf (fun K => He.ma K (He.ga K "TempoMap") "beat_of") "beat_of" "TempoMap.beat_of" s_TempoMap_beat_of
abbrev s_TempoMap_pace : Stmt := inClass (top 24) 3
def d_TempoMap_pace : FD := fdOf (fun K => He.ma K (He.ga K "TempoMap") "pace") "pace" "TempoMap.pace" s_TempoMap_pace
abbrev s_TempoMap_points : Stmt := inClass (top 24) 4
def d_TempoMap_points : FD := fdOf (fun K => He.ma K (He.ga K "TempoMap") "points") "points" "TempoMap.points" s_TempoMap_points
abbrev s_TempoMap_inverse : Stmt := inClass (top 24) 5
def d_TempoMap_inverse : FD := fdOf (fun K => He.ma K (He.ga K "TempoMap") "inverse") "inverse" "TempoMap.inverse" s_TempoMap_inverse
abbrev s_TempoMap_then : Stmt := inClass (top 24) 6
def d_TempoMap_then : FD := fdOf (fun K => He.ma K (He.ga K "TempoMap") "then") "then" "TempoMap.then" s_TempoMap_then
abbrev s_TempoMap_eq_ : Stmt := inClass (top 24) 7
def d_TempoMap_eq_ : FD := fdOf (fun K => He.ma K (He.ga K "TempoMap") "__eq__") "__eq__" "TempoMap.__eq__" s_TempoMap_eq_
abbrev s_w_cell : Stmt := top 26
def d_w_cell : FD := fdOf (fun K => He.ga K "_law_cell") "_law_cell" "_law_cell" s_w_cell
abbrev s_w_bag : Stmt := top 27
def d_w_bag : FD := fdOf (fun K => He.ga K "_law_bag") "_law_bag" "_law_bag" s_w_bag
abbrev s_w_take : Stmt := top 28
def d_w_take : FD := fdOf (fun K => He.ga K "_law_take") "_law_take" "_law_take" s_w_take
abbrev s_w_frac : Stmt := top 29
def d_w_frac : FD := fdOf (fun K => He.ga K "_law_frac") "_law_frac" "_law_frac" s_w_frac
abbrev s_w_sum : Stmt := top 30
def d_w_sum : FD := fdOf (fun K => He.ga K "_law_sum") "_law_sum" "_law_sum" s_w_sum
abbrev s_w_less : Stmt := top 31
def d_w_less : FD := fdOf (fun K => He.ga K "_law_less") "_law_less" "_law_less" s_w_less
abbrev s_w_rest : Stmt := top 32
def d_w_rest : FD := fdOf (fun K => He.ga K "_law_rest") "_law_rest" "_law_rest" s_w_rest
abbrev s_w_product : Stmt := top 33
def d_w_product : FD := fdOf (fun K => He.ga K "_law_product") "_law_product" "_law_product" s_w_product
abbrev s_w_quotient : Stmt := top 34
def d_w_quotient : FD := fdOf (fun K => He.ga K "_law_quotient") "_law_quotient" "_law_quotient" s_w_quotient
abbrev s_w_fraction : Stmt := top 35
def d_w_fraction : FD := fdOf (fun K => He.ga K "_law_fraction") "_law_fraction" "_law_fraction" s_w_fraction
abbrev s_w_step : Stmt := top 36
def d_w_step : FD := fdOf (fun K => He.ga K "_law_step") "_law_step" "_law_step" s_w_step
abbrev s_w_given : Stmt := top 37
def d_w_given : FD := fdOf (fun K => He.ga K "_law_given") "_law_given" "_law_given" s_w_given
abbrev s_w_points : Stmt := top 38
def d_w_points : FD := fdOf (fun K => He.ga K "_law_points") "_law_points" "_law_points" s_w_points
abbrev s_w_led : Stmt := top 39
def d_w_led : FD := fdOf (fun K => He.ga K "_law_led") "_law_led" "_law_led" s_w_led
abbrev s_w_paces : Stmt := top 40
def d_w_paces : FD := fdOf (fun K => He.ga K "_law_paces") "_law_paces" "_law_paces" s_w_paces
abbrev s_w_bends : Stmt := top 41
def d_w_bends : FD := fdOf (fun K => He.ga K "_law_bends") "_law_bends" "_law_bends" s_w_bends
abbrev s_w_pair : Stmt := top 42
def d_w_pair : FD := fdOf (fun K => He.ga K "_law_pair") "_law_pair" "_law_pair" s_w_pair
abbrev s_w_pairs : Stmt := top 43
def d_w_pairs : FD := fdOf (fun K => He.ga K "_law_pairs") "_law_pairs" "_law_pairs" s_w_pairs
abbrev s_w_caught : Stmt := top 44
def d_w_caught : FD := fdOf (fun K => He.ga K "_law_caught") "_law_caught" "_law_caught" s_w_caught
abbrev s_w_spoilt : Stmt := top 45
def d_w_spoilt : FD := fdOf (fun K => He.ga K "_law_spoilt") "_law_spoilt" "_law_spoilt" s_w_spoilt
abbrev s_law : Stmt := top 46
def d_law : FD := fdOf (fun K => He.ga K "law") "law" "law" s_law
def fn : List FD := [d_InvalidInteger_init_, d_InvalidAmount_init_, d_InvalidPart_init_, d_InvalidPoint_init_, d_Falling_init_, d_is_whole, d_is_list, d_is_row, d_common_factor, d_Amount_init_, d_Amount_top, d_Amount_bottom, d_Amount_eq_, d_Amount_add_, d_Amount_sub_, d_Amount_mul_, d_Amount_divided, d_Amount_neg_, d_Amount_abs_, d_Amount_compare, d_is_amount, d_amount_from, d_checked_points, d_slope, d_led, d_paces, d_bends, d_TempoMap_init_, d_TempoMap_call_, d_TempoMap_beat_of, d_TempoMap_pace, d_TempoMap_points, d_TempoMap_inverse, d_TempoMap_then, d_TempoMap_eq_, d_w_cell, d_w_bag, d_w_take, d_w_frac, d_w_sum, d_w_less, d_w_rest, d_w_product, d_w_quotient, d_w_fraction, d_w_step, d_w_given, d_w_points, d_w_led, d_w_paces, d_w_bends, d_w_pair, d_w_pairs, d_w_caught, d_w_spoilt, d_law]
def ex : Ex := [
  gloB "is_whole",
  gloB "is_list",
  gloB "is_row",
  gloB "common_factor",
  gloB "is_amount",
  gloB "amount_from",
  gloB "checked_points",
  gloB "slope",
  gloB "led",
  gloB "paces",
  gloB "bends",
  gloB "_law_cell",
  gloB "_law_bag",
  gloB "_law_take",
  gloB "_law_frac",
  gloB "_law_sum",
  gloB "_law_less",
  gloB "_law_rest",
  gloB "_law_product",
  gloB "_law_quotient",
  gloB "_law_fraction",
  gloB "_law_step",
  gloB "_law_given",
  gloB "_law_points",
  gloB "_law_led",
  gloB "_law_paces",
  gloB "_law_bends",
  gloB "_law_pair",
  gloB "_law_pairs",
  gloB "_law_caught",
  gloB "_law_spoilt",
  gloB "law",
  gloB "CueError",
  gloB "InvalidInteger",
  gloB "InvalidAmount",
  gloB "InvalidPart",
  gloB "InvalidPoint",
  gloB "Falling",
  gloB "Amount",
  gloB "TempoMap",
  freeB "NotImplemented",
  freeB "ValueError",
  freeB "abs",
  freeB "bool",
  freeB "enumerate",
  freeB "int",
  freeB "isinstance",
  freeB "len",
  freeB "list",
  freeB "max",
  freeB "min",
  freeB "property",
  freeB "range",
  freeB "tuple",
  freeB "zip",
  conB "ONE" (.int 1),
  clsB "Amount",
  mkrB "Amount",
  insB "Amount",
  methB "Amount" "__init__",
  methB "Amount" "__eq__",
  methB "Amount" "__add__",
  methB "Amount" "__sub__",
  methB "Amount" "__mul__",
  methB "Amount" "divided",
  methB "Amount" "__neg__",
  methB "Amount" "__abs__",
  methB "Amount" "compare",
  noatB "Amount" "own_top",
  noatB "Amount" "own_bottom",
  propB "Amount" "top",
  propB "Amount" "bottom",
  kitB (fun _ => .type "NoneType") (fun K => .ref (He.ga K "Amount")) false,
  kitB (fun _ => .type "bool") (fun K => .ref (He.ga K "Amount")) false,
  kitB (fun _ => .type "int") (fun K => .ref (He.ga K "Amount")) false,
  kitB (fun _ => .type "str") (fun K => .ref (He.ga K "Amount")) false,
  kitB (fun _ => .type "list") (fun K => .ref (He.ga K "Amount")) false,
  kitB (fun _ => .type "tuple") (fun K => .ref (He.ga K "Amount")) false,
  kitB (fun _ => .type "dict") (fun K => .ref (He.ga K "Amount")) false,
  kitB (fun K => .ref (He.ga K "Amount")) (fun K => .ref (He.ga K "Amount")) true,
  kitB (fun K => .ref (He.ga K "Amount")) (fun _ => .type "bool") false,
  kitB (fun K => .ref (He.ga K "Amount")) (fun _ => .type "int") false,
  kitB (fun K => .ref (He.ga K "Amount")) (fun _ => .type "str") false,
  kitB (fun K => .ref (He.ga K "Amount")) (fun _ => .type "list") false,
  kitB (fun K => .ref (He.ga K "Amount")) (fun _ => .type "tuple") false,
  kitB (fun K => .ref (He.ga K "Amount")) (fun _ => .type "dict") false,
  clsB "TempoMap",
  mkrB "TempoMap",
  insB "TempoMap",
  methB "TempoMap" "__init__",
  methB "TempoMap" "__call__",
  methB "TempoMap" "beat_of",
  methB "TempoMap" "pace",
  methB "TempoMap" "points",
  methB "TempoMap" "inverse",
  methB "TempoMap" "then",
  methB "TempoMap" "__eq__",
  noatB "TempoMap" "own_points",
  kitB (fun _ => .type "NoneType") (fun K => .ref (He.ga K "TempoMap")) false,
  kitB (fun _ => .type "bool") (fun K => .ref (He.ga K "TempoMap")) false,
  kitB (fun _ => .type "int") (fun K => .ref (He.ga K "TempoMap")) false,
  kitB (fun _ => .type "str") (fun K => .ref (He.ga K "TempoMap")) false,
  kitB (fun _ => .type "list") (fun K => .ref (He.ga K "TempoMap")) false,
  kitB (fun _ => .type "tuple") (fun K => .ref (He.ga K "TempoMap")) false,
  kitB (fun _ => .type "dict") (fun K => .ref (He.ga K "TempoMap")) false,
  kitB (fun K => .ref (He.ga K "TempoMap")) (fun K => .ref (He.ga K "TempoMap")) true,
  kitB (fun K => .ref (He.ga K "TempoMap")) (fun _ => .type "bool") false,
  kitB (fun K => .ref (He.ga K "TempoMap")) (fun _ => .type "int") false,
  kitB (fun K => .ref (He.ga K "TempoMap")) (fun _ => .type "str") false,
  kitB (fun K => .ref (He.ga K "TempoMap")) (fun _ => .type "list") false,
  kitB (fun K => .ref (He.ga K "TempoMap")) (fun _ => .type "tuple") false,
  kitB (fun K => .ref (He.ga K "TempoMap")) (fun _ => .type "dict") false,
  fun K => baB K "CueError",
  fun K => xcB K "InvalidInteger" "value",
  fun K => xcB K "InvalidAmount" "value",
  fun K => xcB K "InvalidPart" "value",
  fun K => xcB K "InvalidPoint" "value",
  fun K => xcB K "Falling" "index",
  exmB "InvalidInteger" "InvalidInteger" true,
  exmB "InvalidInteger" "InvalidAmount" false,
  exmB "InvalidInteger" "InvalidPart" false,
  exmB "InvalidInteger" "InvalidPoint" false,
  exmB "InvalidInteger" "Falling" false,
  exmB "InvalidAmount" "InvalidInteger" false,
  exmB "InvalidAmount" "InvalidAmount" true,
  exmB "InvalidAmount" "InvalidPart" false,
  exmB "InvalidAmount" "InvalidPoint" false,
  exmB "InvalidAmount" "Falling" false,
  exmB "InvalidPart" "InvalidInteger" false,
  exmB "InvalidPart" "InvalidAmount" false,
  exmB "InvalidPart" "InvalidPart" true,
  exmB "InvalidPart" "InvalidPoint" false,
  exmB "InvalidPart" "Falling" false,
  exmB "InvalidPoint" "InvalidInteger" false,
  exmB "InvalidPoint" "InvalidAmount" false,
  exmB "InvalidPoint" "InvalidPart" false,
  exmB "InvalidPoint" "InvalidPoint" true,
  exmB "InvalidPoint" "Falling" false,
  exmB "Falling" "InvalidInteger" false,
  exmB "Falling" "InvalidAmount" false,
  exmB "Falling" "InvalidPart" false,
  exmB "Falling" "InvalidPoint" false,
  exmB "Falling" "Falling" true,
  excsB "InvalidInteger",
  kitB (fun K => .ref (He.ga K "InvalidInteger")) (fun K => .ref (He.ga K "CueError")) true,
  excsB "InvalidAmount",
  kitB (fun K => .ref (He.ga K "InvalidAmount")) (fun K => .ref (He.ga K "CueError")) true,
  excsB "InvalidPart",
  kitB (fun K => .ref (He.ga K "InvalidPart")) (fun K => .ref (He.ga K "CueError")) true,
  excsB "InvalidPoint",
  kitB (fun K => .ref (He.ga K "InvalidPoint")) (fun K => .ref (He.ga K "CueError")) true,
  excsB "Falling",
  kitB (fun K => .ref (He.ga K "Falling")) (fun K => .ref (He.ga K "CueError")) true,
  tup0B (dflA (fun K => He.ma K (He.ga K "TempoMap") "__init__") 0),
  eqcB "Amount",
  opcB "Amount" "__add__" "add",
  opcB "Amount" "__sub__" "sub",
  opcB "Amount" "__mul__" "mul",
  eqcB "TempoMap",
  sysB]
structure Tx (K : PySem.W.Frag) (mg : Str → Option Value) (base : Heap) : Prop where
  says : SaysA fn ex K
  kin : K.In base
  ns : base.Ns mainGlobals mg
section
variable {K : PySem.W.Frag} {mg : Str → Option Value} {base : Heap}
theorem Tx.g_is_whole (T : Tx K mg base) : mg "is_whole" = some (.ref (He.ga K "is_whole")) := PySem.W.mg_of T.kin T.ns (He.eqO_ok (T.says.more 0 (e := gloB "is_whole") rfl))
theorem Tx.g_is_list (T : Tx K mg base) : mg "is_list" = some (.ref (He.ga K "is_list")) := PySem.W.mg_of T.kin T.ns (He.eqO_ok (T.says.more 1 (e := gloB "is_list") rfl))
theorem Tx.g_is_row (T : Tx K mg base) : mg "is_row" = some (.ref (He.ga K "is_row")) := PySem.W.mg_of T.kin T.ns (He.eqO_ok (T.says.more 2 (e := gloB "is_row") rfl))
theorem Tx.g_common_factor (T : Tx K mg base) : mg "common_factor" = some (.ref (He.ga K "common_factor")) := PySem.W.mg_of T.kin T.ns (He.eqO_ok (T.says.more 3 (e := gloB "common_factor") rfl))
theorem Tx.g_is_amount (T : Tx K mg base) : mg "is_amount" = some (.ref (He.ga K "is_amount")) := PySem.W.mg_of T.kin T.ns (He.eqO_ok (T.says.more 4 (e := gloB "is_amount") rfl))
theorem Tx.g_amount_from (T : Tx K mg base) : mg "amount_from" = some (.ref (He.ga K "amount_from")) := PySem.W.mg_of T.kin T.ns (He.eqO_ok (T.says.more 5 (e := gloB "amount_from") rfl))
theorem Tx.g_checked_points (T : Tx K mg base) : mg "checked_points" = some (.ref (He.ga K "checked_points")) := PySem.W.mg_of T.kin T.ns (He.eqO_ok (T.says.more 6 (e := gloB "checked_points") rfl))
theorem Tx.g_slope (T : Tx K mg base) : mg "slope" = some (.ref (He.ga K "slope")) := PySem.W.mg_of T.kin T.ns (He.eqO_ok (T.says.more 7 (e := gloB "slope") rfl))
theorem Tx.g_led (T : Tx K mg base) : mg "led" = some (.ref (He.ga K "led")) := PySem.W.mg_of T.kin T.ns (He.eqO_ok (T.says.more 8 (e := gloB "led") rfl))
theorem Tx.g_paces (T : Tx K mg base) : mg "paces" = some (.ref (He.ga K "paces")) := PySem.W.mg_of T.kin T.ns (He.eqO_ok (T.says.more 9 (e := gloB "paces") rfl))
theorem Tx.g_bends (T : Tx K mg base) : mg "bends" = some (.ref (He.ga K "bends")) := PySem.W.mg_of T.kin T.ns (He.eqO_ok (T.says.more 10 (e := gloB "bends") rfl))
theorem Tx.g_w_cell (T : Tx K mg base) : mg "_law_cell" = some (.ref (He.ga K "_law_cell")) := PySem.W.mg_of T.kin T.ns (He.eqO_ok (T.says.more 11 (e := gloB "_law_cell") rfl))
theorem Tx.g_w_bag (T : Tx K mg base) : mg "_law_bag" = some (.ref (He.ga K "_law_bag")) := PySem.W.mg_of T.kin T.ns (He.eqO_ok (T.says.more 12 (e := gloB "_law_bag") rfl))
theorem Tx.g_w_take (T : Tx K mg base) : mg "_law_take" = some (.ref (He.ga K "_law_take")) := PySem.W.mg_of T.kin T.ns (He.eqO_ok (T.says.more 13 (e := gloB "_law_take") rfl))
theorem Tx.g_w_frac (T : Tx K mg base) : mg "_law_frac" = some (.ref (He.ga K "_law_frac")) := PySem.W.mg_of T.kin T.ns (He.eqO_ok (T.says.more 14 (e := gloB "_law_frac") rfl))
theorem Tx.g_w_sum (T : Tx K mg base) : mg "_law_sum" = some (.ref (He.ga K "_law_sum")) := PySem.W.mg_of T.kin T.ns (He.eqO_ok (T.says.more 15 (e := gloB "_law_sum") rfl))
theorem Tx.g_w_less (T : Tx K mg base) : mg "_law_less" = some (.ref (He.ga K "_law_less")) := PySem.W.mg_of T.kin T.ns (He.eqO_ok (T.says.more 16 (e := gloB "_law_less") rfl))
theorem Tx.g_w_rest (T : Tx K mg base) : mg "_law_rest" = some (.ref (He.ga K "_law_rest")) := PySem.W.mg_of T.kin T.ns (He.eqO_ok (T.says.more 17 (e := gloB "_law_rest") rfl))
theorem Tx.g_w_product (T : Tx K mg base) : mg "_law_product" = some (.ref (He.ga K "_law_product")) := PySem.W.mg_of T.kin T.ns (He.eqO_ok (T.says.more 18 (e := gloB "_law_product") rfl))
theorem Tx.g_w_quotient (T : Tx K mg base) : mg "_law_quotient" = some (.ref (He.ga K "_law_quotient")) := PySem.W.mg_of T.kin T.ns (He.eqO_ok (T.says.more 19 (e := gloB "_law_quotient") rfl))
theorem Tx.g_w_fraction (T : Tx K mg base) : mg "_law_fraction" = some (.ref (He.ga K "_law_fraction")) := PySem.W.mg_of T.kin T.ns (He.eqO_ok (T.says.more 20 (e := gloB "_law_fraction") rfl))
theorem Tx.g_w_step (T : Tx K mg base) : mg "_law_step" = some (.ref (He.ga K "_law_step")) := PySem.W.mg_of T.kin T.ns (He.eqO_ok (T.says.more 21 (e := gloB "_law_step") rfl))
theorem Tx.g_w_given (T : Tx K mg base) : mg "_law_given" = some (.ref (He.ga K "_law_given")) := PySem.W.mg_of T.kin T.ns (He.eqO_ok (T.says.more 22 (e := gloB "_law_given") rfl))
theorem Tx.g_w_points (T : Tx K mg base) : mg "_law_points" = some (.ref (He.ga K "_law_points")) := PySem.W.mg_of T.kin T.ns (He.eqO_ok (T.says.more 23 (e := gloB "_law_points") rfl))
theorem Tx.g_w_led (T : Tx K mg base) : mg "_law_led" = some (.ref (He.ga K "_law_led")) := PySem.W.mg_of T.kin T.ns (He.eqO_ok (T.says.more 24 (e := gloB "_law_led") rfl))
theorem Tx.g_w_paces (T : Tx K mg base) : mg "_law_paces" = some (.ref (He.ga K "_law_paces")) := PySem.W.mg_of T.kin T.ns (He.eqO_ok (T.says.more 25 (e := gloB "_law_paces") rfl))
theorem Tx.g_w_bends (T : Tx K mg base) : mg "_law_bends" = some (.ref (He.ga K "_law_bends")) := PySem.W.mg_of T.kin T.ns (He.eqO_ok (T.says.more 26 (e := gloB "_law_bends") rfl))
theorem Tx.g_w_pair (T : Tx K mg base) : mg "_law_pair" = some (.ref (He.ga K "_law_pair")) := PySem.W.mg_of T.kin T.ns (He.eqO_ok (T.says.more 27 (e := gloB "_law_pair") rfl))
theorem Tx.g_w_pairs (T : Tx K mg base) : mg "_law_pairs" = some (.ref (He.ga K "_law_pairs")) := PySem.W.mg_of T.kin T.ns (He.eqO_ok (T.says.more 28 (e := gloB "_law_pairs") rfl))
theorem Tx.g_w_caught (T : Tx K mg base) : mg "_law_caught" = some (.ref (He.ga K "_law_caught")) := PySem.W.mg_of T.kin T.ns (He.eqO_ok (T.says.more 29 (e := gloB "_law_caught") rfl))
theorem Tx.g_w_spoilt (T : Tx K mg base) : mg "_law_spoilt" = some (.ref (He.ga K "_law_spoilt")) := PySem.W.mg_of T.kin T.ns (He.eqO_ok (T.says.more 30 (e := gloB "_law_spoilt") rfl))
theorem Tx.g_law (T : Tx K mg base) : mg "law" = some (.ref (He.ga K "law")) := PySem.W.mg_of T.kin T.ns (He.eqO_ok (T.says.more 31 (e := gloB "law") rfl))
theorem Tx.g_CueError (T : Tx K mg base) : mg "CueError" = some (.ref (He.ga K "CueError")) := PySem.W.mg_of T.kin T.ns (He.eqO_ok (T.says.more 32 (e := gloB "CueError") rfl))
theorem Tx.g_InvalidInteger (T : Tx K mg base) : mg "InvalidInteger" = some (.ref (He.ga K "InvalidInteger")) := PySem.W.mg_of T.kin T.ns (He.eqO_ok (T.says.more 33 (e := gloB "InvalidInteger") rfl))
theorem Tx.g_InvalidAmount (T : Tx K mg base) : mg "InvalidAmount" = some (.ref (He.ga K "InvalidAmount")) := PySem.W.mg_of T.kin T.ns (He.eqO_ok (T.says.more 34 (e := gloB "InvalidAmount") rfl))
theorem Tx.g_InvalidPart (T : Tx K mg base) : mg "InvalidPart" = some (.ref (He.ga K "InvalidPart")) := PySem.W.mg_of T.kin T.ns (He.eqO_ok (T.says.more 35 (e := gloB "InvalidPart") rfl))
theorem Tx.g_InvalidPoint (T : Tx K mg base) : mg "InvalidPoint" = some (.ref (He.ga K "InvalidPoint")) := PySem.W.mg_of T.kin T.ns (He.eqO_ok (T.says.more 36 (e := gloB "InvalidPoint") rfl))
theorem Tx.g_Falling (T : Tx K mg base) : mg "Falling" = some (.ref (He.ga K "Falling")) := PySem.W.mg_of T.kin T.ns (He.eqO_ok (T.says.more 37 (e := gloB "Falling") rfl))
theorem Tx.g_Amount (T : Tx K mg base) : mg "Amount" = some (.ref (He.ga K "Amount")) := PySem.W.mg_of T.kin T.ns (He.eqO_ok (T.says.more 38 (e := gloB "Amount") rfl))
theorem Tx.g_TempoMap (T : Tx K mg base) : mg "TempoMap" = some (.ref (He.ga K "TempoMap")) := PySem.W.mg_of T.kin T.ns (He.eqO_ok (T.says.more 39 (e := gloB "TempoMap") rfl))
theorem Tx.b_NotImplemented (T : Tx K mg base) : mg "NotImplemented" = none := PySem.W.mg_none_of T.kin T.ns (He.eqO_ok (T.says.more 40 (e := freeB "NotImplemented") rfl))
theorem Tx.b_ValueError (T : Tx K mg base) : mg "ValueError" = none := PySem.W.mg_none_of T.kin T.ns (He.eqO_ok (T.says.more 41 (e := freeB "ValueError") rfl))
theorem Tx.b_abs (T : Tx K mg base) : mg "abs" = none := PySem.W.mg_none_of T.kin T.ns (He.eqO_ok (T.says.more 42 (e := freeB "abs") rfl))
theorem Tx.b_bool (T : Tx K mg base) : mg "bool" = none := PySem.W.mg_none_of T.kin T.ns (He.eqO_ok (T.says.more 43 (e := freeB "bool") rfl))
theorem Tx.b_enumerate (T : Tx K mg base) : mg "enumerate" = none := PySem.W.mg_none_of T.kin T.ns (He.eqO_ok (T.says.more 44 (e := freeB "enumerate") rfl))
theorem Tx.b_int (T : Tx K mg base) : mg "int" = none := PySem.W.mg_none_of T.kin T.ns (He.eqO_ok (T.says.more 45 (e := freeB "int") rfl))
theorem Tx.b_isinstance (T : Tx K mg base) : mg "isinstance" = none := PySem.W.mg_none_of T.kin T.ns (He.eqO_ok (T.says.more 46 (e := freeB "isinstance") rfl))
theorem Tx.b_len (T : Tx K mg base) : mg "len" = none := PySem.W.mg_none_of T.kin T.ns (He.eqO_ok (T.says.more 47 (e := freeB "len") rfl))
theorem Tx.b_list (T : Tx K mg base) : mg "list" = none := PySem.W.mg_none_of T.kin T.ns (He.eqO_ok (T.says.more 48 (e := freeB "list") rfl))
theorem Tx.b_max (T : Tx K mg base) : mg "max" = none := PySem.W.mg_none_of T.kin T.ns (He.eqO_ok (T.says.more 49 (e := freeB "max") rfl))
theorem Tx.b_min (T : Tx K mg base) : mg "min" = none := PySem.W.mg_none_of T.kin T.ns (He.eqO_ok (T.says.more 50 (e := freeB "min") rfl))
theorem Tx.b_property (T : Tx K mg base) : mg "property" = none := PySem.W.mg_none_of T.kin T.ns (He.eqO_ok (T.says.more 51 (e := freeB "property") rfl))
theorem Tx.b_range (T : Tx K mg base) : mg "range" = none := PySem.W.mg_none_of T.kin T.ns (He.eqO_ok (T.says.more 52 (e := freeB "range") rfl))
theorem Tx.b_tuple (T : Tx K mg base) : mg "tuple" = none := PySem.W.mg_none_of T.kin T.ns (He.eqO_ok (T.says.more 53 (e := freeB "tuple") rfl))
theorem Tx.b_zip (T : Tx K mg base) : mg "zip" = none := PySem.W.mg_none_of T.kin T.ns (He.eqO_ok (T.says.more 54 (e := freeB "zip") rfl))
theorem Tx.c_ONE (T : Tx K mg base) : ∃ u, mg "ONE" = some u ∧ RelV (.int 1) u := conB_ok T.kin T.ns (T.says.more 55 (e := conB "ONE" (.int 1)) rfl)
theorem Tx.cls_Amount (T : Tx K mg base) : Cls K (He.ga K "Amount") := He.cls_ok (T.says.more 56 (e := clsB "Amount") rfl)
theorem Tx.mkr_Amount (T : Tx K mg base) : Mk K (He.ga K "Amount") (He.ma K (He.ga K "Amount") "__init__") := He.mkr_ok (T.says.more 57 (e := mkrB "Amount") rfl)
theorem Tx.ins_Amount (T : Tx K mg base) {H : Hp} {a dx : Addr} {fs : List (Str × V)} (e : H a = some (.ins (He.ga K "Amount") dx fs)) : TyX K H (.ref a) (.ref (He.ga K "Amount")) := insB_ok (T.says.more 58 (e := insB "Amount") rfl) T.cls_Amount e
theorem Tx.m_Amount_init_ (T : Tx K mg base) : Meth K (He.ga K "Amount") "__init__" (He.ma K (He.ga K "Amount") "__init__") := He.meth_ok (T.says.more 59 (e := methB "Amount" "__init__") rfl)
theorem Tx.m_Amount_eq_ (T : Tx K mg base) : Meth K (He.ga K "Amount") "__eq__" (He.ma K (He.ga K "Amount") "__eq__") := He.meth_ok (T.says.more 60 (e := methB "Amount" "__eq__") rfl)
theorem Tx.m_Amount_add_ (T : Tx K mg base) : Meth K (He.ga K "Amount") "__add__" (He.ma K (He.ga K "Amount") "__add__") := He.meth_ok (T.says.more 61 (e := methB "Amount" "__add__") rfl)
theorem Tx.m_Amount_sub_ (T : Tx K mg base) : Meth K (He.ga K "Amount") "__sub__" (He.ma K (He.ga K "Amount") "__sub__") := He.meth_ok (T.says.more 62 (e := methB "Amount" "__sub__") rfl)
theorem Tx.m_Amount_mul_ (T : Tx K mg base) : Meth K (He.ga K "Amount") "__mul__" (He.ma K (He.ga K "Amount") "__mul__") := He.meth_ok (T.says.more 63 (e := methB "Amount" "__mul__") rfl)
theorem Tx.m_Amount_divided (T : Tx K mg base) : Meth K (He.ga K "Amount") "divided" (He.ma K (He.ga K "Amount") "divided") := He.meth_ok (T.says.more 64 (e := methB "Amount" "divided") rfl)
theorem Tx.m_Amount_neg_ (T : Tx K mg base) : Meth K (He.ga K "Amount") "__neg__" (He.ma K (He.ga K "Amount") "__neg__") := He.meth_ok (T.says.more 65 (e := methB "Amount" "__neg__") rfl)
theorem Tx.m_Amount_abs_ (T : Tx K mg base) : Meth K (He.ga K "Amount") "__abs__" (He.ma K (He.ga K "Amount") "__abs__") := He.meth_ok (T.says.more 66 (e := methB "Amount" "__abs__") rfl)
theorem Tx.m_Amount_compare (T : Tx K mg base) : Meth K (He.ga K "Amount") "compare" (He.ma K (He.ga K "Amount") "compare") := He.meth_ok (T.says.more 67 (e := methB "Amount" "compare") rfl)
theorem Tx.no_Amount_own_top (T : Tx K mg base) : NoAttr K (He.ga K "Amount") "own_top" := He.noat_ok (T.says.more 68 (e := noatB "Amount" "own_top") rfl)
theorem Tx.no_Amount_own_bottom (T : Tx K mg base) : NoAttr K (He.ga K "Amount") "own_bottom" := He.noat_ok (T.says.more 69 (e := noatB "Amount" "own_bottom") rfl)
theorem Tx.pr_Amount_top (T : Tx K mg base) : ∃ p, PropOf K (He.ga K "Amount") "top" p (propAt "Amount" "top" K) := propB_ok (T.says.more 70 (e := propB "Amount" "top") rfl)
theorem Tx.pr_Amount_bottom (T : Tx K mg base) : ∃ p, PropOf K (He.ga K "Amount") "bottom" p (propAt "Amount" "bottom" K) := propB_ok (T.says.more 71 (e := propB "Amount" "bottom") rfl)
theorem Tx.k_NoneType_Amount (T : Tx K mg base) : PySem.W.kitOne K ((fun _ => .type "NoneType") K) ((fun K => .ref (He.ga K "Amount")) K) = some false := kitB_ok (T.says.more 72 (e := kitB (fun _ => .type "NoneType") (fun K => .ref (He.ga K "Amount")) false) rfl)
theorem Tx.k_bool_Amount (T : Tx K mg base) : PySem.W.kitOne K ((fun _ => .type "bool") K) ((fun K => .ref (He.ga K "Amount")) K) = some false := kitB_ok (T.says.more 73 (e := kitB (fun _ => .type "bool") (fun K => .ref (He.ga K "Amount")) false) rfl)
theorem Tx.k_int_Amount (T : Tx K mg base) : PySem.W.kitOne K ((fun _ => .type "int") K) ((fun K => .ref (He.ga K "Amount")) K) = some false := kitB_ok (T.says.more 74 (e := kitB (fun _ => .type "int") (fun K => .ref (He.ga K "Amount")) false) rfl)
theorem Tx.k_str_Amount (T : Tx K mg base) : PySem.W.kitOne K ((fun _ => .type "str") K) ((fun K => .ref (He.ga K "Amount")) K) = some false := kitB_ok (T.says.more 75 (e := kitB (fun _ => .type "str") (fun K => .ref (He.ga K "Amount")) false) rfl)
theorem Tx.k_list_Amount (T : Tx K mg base) : PySem.W.kitOne K ((fun _ => .type "list") K) ((fun K => .ref (He.ga K "Amount")) K) = some false := kitB_ok (T.says.more 76 (e := kitB (fun _ => .type "list") (fun K => .ref (He.ga K "Amount")) false) rfl)
theorem Tx.k_tuple_Amount (T : Tx K mg base) : PySem.W.kitOne K ((fun _ => .type "tuple") K) ((fun K => .ref (He.ga K "Amount")) K) = some false := kitB_ok (T.says.more 77 (e := kitB (fun _ => .type "tuple") (fun K => .ref (He.ga K "Amount")) false) rfl)
theorem Tx.k_dict_Amount (T : Tx K mg base) : PySem.W.kitOne K ((fun _ => .type "dict") K) ((fun K => .ref (He.ga K "Amount")) K) = some false := kitB_ok (T.says.more 78 (e := kitB (fun _ => .type "dict") (fun K => .ref (He.ga K "Amount")) false) rfl)
theorem Tx.k_Amount_Amount (T : Tx K mg base) : PySem.W.kitOne K ((fun K => .ref (He.ga K "Amount")) K) ((fun K => .ref (He.ga K "Amount")) K) = some true := kitB_ok (T.says.more 79 (e := kitB (fun K => .ref (He.ga K "Amount")) (fun K => .ref (He.ga K "Amount")) true) rfl)
theorem Tx.k_Amount_bool (T : Tx K mg base) : PySem.W.kitOne K ((fun K => .ref (He.ga K "Amount")) K) ((fun _ => .type "bool") K) = some false := kitB_ok (T.says.more 80 (e := kitB (fun K => .ref (He.ga K "Amount")) (fun _ => .type "bool") false) rfl)
theorem Tx.k_Amount_int (T : Tx K mg base) : PySem.W.kitOne K ((fun K => .ref (He.ga K "Amount")) K) ((fun _ => .type "int") K) = some false := kitB_ok (T.says.more 81 (e := kitB (fun K => .ref (He.ga K "Amount")) (fun _ => .type "int") false) rfl)
theorem Tx.k_Amount_str (T : Tx K mg base) : PySem.W.kitOne K ((fun K => .ref (He.ga K "Amount")) K) ((fun _ => .type "str") K) = some false := kitB_ok (T.says.more 82 (e := kitB (fun K => .ref (He.ga K "Amount")) (fun _ => .type "str") false) rfl)
theorem Tx.k_Amount_list (T : Tx K mg base) : PySem.W.kitOne K ((fun K => .ref (He.ga K "Amount")) K) ((fun _ => .type "list") K) = some false := kitB_ok (T.says.more 83 (e := kitB (fun K => .ref (He.ga K "Amount")) (fun _ => .type "list") false) rfl)
theorem Tx.k_Amount_tuple (T : Tx K mg base) : PySem.W.kitOne K ((fun K => .ref (He.ga K "Amount")) K) ((fun _ => .type "tuple") K) = some false := kitB_ok (T.says.more 84 (e := kitB (fun K => .ref (He.ga K "Amount")) (fun _ => .type "tuple") false) rfl)
theorem Tx.k_Amount_dict (T : Tx K mg base) : PySem.W.kitOne K ((fun K => .ref (He.ga K "Amount")) K) ((fun _ => .type "dict") K) = some false := kitB_ok (T.says.more 85 (e := kitB (fun K => .ref (He.ga K "Amount")) (fun _ => .type "dict") false) rfl)
theorem Tx.cls_TempoMap (T : Tx K mg base) : Cls K (He.ga K "TempoMap") := He.cls_ok (T.says.more 86 (e := clsB "TempoMap") rfl)
theorem Tx.mkr_TempoMap (T : Tx K mg base) : Mk K (He.ga K "TempoMap") (He.ma K (He.ga K "TempoMap") "__init__") := He.mkr_ok (T.says.more 87 (e := mkrB "TempoMap") rfl)
theorem Tx.ins_TempoMap (T : Tx K mg base) {H : Hp} {a dx : Addr} {fs : List (Str × V)} (e : H a = some (.ins (He.ga K "TempoMap") dx fs)) : TyX K H (.ref a) (.ref (He.ga K "TempoMap")) := insB_ok (T.says.more 88 (e := insB "TempoMap") rfl) T.cls_TempoMap e
theorem Tx.m_TempoMap_init_ (T : Tx K mg base) : Meth K (He.ga K "TempoMap") "__init__" (He.ma K (He.ga K "TempoMap") "__init__") := He.meth_ok (T.says.more 89 (e := methB "TempoMap" "__init__") rfl)
theorem Tx.m_TempoMap_call_ (T : Tx K mg base) : Meth K (He.ga K "TempoMap") "__call__" (He.ma K (He.ga K "TempoMap") "__call__") := He.meth_ok (T.says.more 90 (e := methB "TempoMap" "__call__") rfl)
theorem Tx.m_TempoMap_beat_of (T : Tx K mg base) : Meth K (He.ga K "TempoMap") "beat_of" (He.ma K (He.ga K "TempoMap") "beat_of") := He.meth_ok (T.says.more 91 (e := methB "TempoMap" "beat_of") rfl)
theorem Tx.m_TempoMap_pace (T : Tx K mg base) : Meth K (He.ga K "TempoMap") "pace" (He.ma K (He.ga K "TempoMap") "pace") := He.meth_ok (T.says.more 92 (e := methB "TempoMap" "pace") rfl)
theorem Tx.m_TempoMap_points (T : Tx K mg base) : Meth K (He.ga K "TempoMap") "points" (He.ma K (He.ga K "TempoMap") "points") := He.meth_ok (T.says.more 93 (e := methB "TempoMap" "points") rfl)
theorem Tx.m_TempoMap_inverse (T : Tx K mg base) : Meth K (He.ga K "TempoMap") "inverse" (He.ma K (He.ga K "TempoMap") "inverse") := He.meth_ok (T.says.more 94 (e := methB "TempoMap" "inverse") rfl)
theorem Tx.m_TempoMap_then (T : Tx K mg base) : Meth K (He.ga K "TempoMap") "then" (He.ma K (He.ga K "TempoMap") "then") := He.meth_ok (T.says.more 95 (e := methB "TempoMap" "then") rfl)
theorem Tx.m_TempoMap_eq_ (T : Tx K mg base) : Meth K (He.ga K "TempoMap") "__eq__" (He.ma K (He.ga K "TempoMap") "__eq__") := He.meth_ok (T.says.more 96 (e := methB "TempoMap" "__eq__") rfl)
theorem Tx.no_TempoMap_own_points (T : Tx K mg base) : NoAttr K (He.ga K "TempoMap") "own_points" := He.noat_ok (T.says.more 97 (e := noatB "TempoMap" "own_points") rfl)
theorem Tx.k_NoneType_TempoMap (T : Tx K mg base) : PySem.W.kitOne K ((fun _ => .type "NoneType") K) ((fun K => .ref (He.ga K "TempoMap")) K) = some false := kitB_ok (T.says.more 98 (e := kitB (fun _ => .type "NoneType") (fun K => .ref (He.ga K "TempoMap")) false) rfl)
theorem Tx.k_bool_TempoMap (T : Tx K mg base) : PySem.W.kitOne K ((fun _ => .type "bool") K) ((fun K => .ref (He.ga K "TempoMap")) K) = some false := kitB_ok (T.says.more 99 (e := kitB (fun _ => .type "bool") (fun K => .ref (He.ga K "TempoMap")) false) rfl)
theorem Tx.k_int_TempoMap (T : Tx K mg base) : PySem.W.kitOne K ((fun _ => .type "int") K) ((fun K => .ref (He.ga K "TempoMap")) K) = some false := kitB_ok (T.says.more 100 (e := kitB (fun _ => .type "int") (fun K => .ref (He.ga K "TempoMap")) false) rfl)
theorem Tx.k_str_TempoMap (T : Tx K mg base) : PySem.W.kitOne K ((fun _ => .type "str") K) ((fun K => .ref (He.ga K "TempoMap")) K) = some false := kitB_ok (T.says.more 101 (e := kitB (fun _ => .type "str") (fun K => .ref (He.ga K "TempoMap")) false) rfl)
theorem Tx.k_list_TempoMap (T : Tx K mg base) : PySem.W.kitOne K ((fun _ => .type "list") K) ((fun K => .ref (He.ga K "TempoMap")) K) = some false := kitB_ok (T.says.more 102 (e := kitB (fun _ => .type "list") (fun K => .ref (He.ga K "TempoMap")) false) rfl)
theorem Tx.k_tuple_TempoMap (T : Tx K mg base) : PySem.W.kitOne K ((fun _ => .type "tuple") K) ((fun K => .ref (He.ga K "TempoMap")) K) = some false := kitB_ok (T.says.more 103 (e := kitB (fun _ => .type "tuple") (fun K => .ref (He.ga K "TempoMap")) false) rfl)
theorem Tx.k_dict_TempoMap (T : Tx K mg base) : PySem.W.kitOne K ((fun _ => .type "dict") K) ((fun K => .ref (He.ga K "TempoMap")) K) = some false := kitB_ok (T.says.more 104 (e := kitB (fun _ => .type "dict") (fun K => .ref (He.ga K "TempoMap")) false) rfl)
theorem Tx.k_TempoMap_TempoMap (T : Tx K mg base) : PySem.W.kitOne K ((fun K => .ref (He.ga K "TempoMap")) K) ((fun K => .ref (He.ga K "TempoMap")) K) = some true := kitB_ok (T.says.more 105 (e := kitB (fun K => .ref (He.ga K "TempoMap")) (fun K => .ref (He.ga K "TempoMap")) true) rfl)
theorem Tx.k_TempoMap_bool (T : Tx K mg base) : PySem.W.kitOne K ((fun K => .ref (He.ga K "TempoMap")) K) ((fun _ => .type "bool") K) = some false := kitB_ok (T.says.more 106 (e := kitB (fun K => .ref (He.ga K "TempoMap")) (fun _ => .type "bool") false) rfl)
theorem Tx.k_TempoMap_int (T : Tx K mg base) : PySem.W.kitOne K ((fun K => .ref (He.ga K "TempoMap")) K) ((fun _ => .type "int") K) = some false := kitB_ok (T.says.more 107 (e := kitB (fun K => .ref (He.ga K "TempoMap")) (fun _ => .type "int") false) rfl)
theorem Tx.k_TempoMap_str (T : Tx K mg base) : PySem.W.kitOne K ((fun K => .ref (He.ga K "TempoMap")) K) ((fun _ => .type "str") K) = some false := kitB_ok (T.says.more 108 (e := kitB (fun K => .ref (He.ga K "TempoMap")) (fun _ => .type "str") false) rfl)
theorem Tx.k_TempoMap_list (T : Tx K mg base) : PySem.W.kitOne K ((fun K => .ref (He.ga K "TempoMap")) K) ((fun _ => .type "list") K) = some false := kitB_ok (T.says.more 109 (e := kitB (fun K => .ref (He.ga K "TempoMap")) (fun _ => .type "list") false) rfl)
theorem Tx.k_TempoMap_tuple (T : Tx K mg base) : PySem.W.kitOne K ((fun K => .ref (He.ga K "TempoMap")) K) ((fun _ => .type "tuple") K) = some false := kitB_ok (T.says.more 110 (e := kitB (fun K => .ref (He.ga K "TempoMap")) (fun _ => .type "tuple") false) rfl)
theorem Tx.k_TempoMap_dict (T : Tx K mg base) : PySem.W.kitOne K ((fun K => .ref (He.ga K "TempoMap")) K) ((fun _ => .type "dict") K) = some false := kitB_ok (T.says.more 111 (e := kitB (fun K => .ref (He.ga K "TempoMap")) (fun _ => .type "dict") false) rfl)
theorem Tx.ba_CueError (T : Tx K mg base) : Ba K "CueError" := baB_ok (T.says.more 112 (e := fun K => baB K "CueError") rfl)
theorem Tx.xc_InvalidInteger (T : Tx K mg base) : Xc K "InvalidInteger" "value" := xcB_ok (T.says.more 113 (e := fun K => xcB K "InvalidInteger" "value") rfl)
theorem Tx.xc_InvalidAmount (T : Tx K mg base) : Xc K "InvalidAmount" "value" := xcB_ok (T.says.more 114 (e := fun K => xcB K "InvalidAmount" "value") rfl)
theorem Tx.xc_InvalidPart (T : Tx K mg base) : Xc K "InvalidPart" "value" := xcB_ok (T.says.more 115 (e := fun K => xcB K "InvalidPart" "value") rfl)
theorem Tx.xc_InvalidPoint (T : Tx K mg base) : Xc K "InvalidPoint" "value" := xcB_ok (T.says.more 116 (e := fun K => xcB K "InvalidPoint" "value") rfl)
theorem Tx.xc_Falling (T : Tx K mg base) : Xc K "Falling" "index" := xcB_ok (T.says.more 117 (e := fun K => xcB K "Falling" "index") rfl)
theorem Tx.ex_InvalidInteger_InvalidInteger (T : Tx K mg base) : PySem.W.exmOne K (.ref (He.ga K "InvalidInteger")) (.ref (He.ga K "InvalidInteger")) = some true := He.exm_ok (T.says.more 118 (e := exmB "InvalidInteger" "InvalidInteger" true) rfl)
theorem Tx.ex_InvalidInteger_InvalidAmount (T : Tx K mg base) : PySem.W.exmOne K (.ref (He.ga K "InvalidInteger")) (.ref (He.ga K "InvalidAmount")) = some false := He.exm_ok (T.says.more 119 (e := exmB "InvalidInteger" "InvalidAmount" false) rfl)
theorem Tx.ex_InvalidInteger_InvalidPart (T : Tx K mg base) : PySem.W.exmOne K (.ref (He.ga K "InvalidInteger")) (.ref (He.ga K "InvalidPart")) = some false := He.exm_ok (T.says.more 120 (e := exmB "InvalidInteger" "InvalidPart" false) rfl)
theorem Tx.ex_InvalidInteger_InvalidPoint (T : Tx K mg base) : PySem.W.exmOne K (.ref (He.ga K "InvalidInteger")) (.ref (He.ga K "InvalidPoint")) = some false := He.exm_ok (T.says.more 121 (e := exmB "InvalidInteger" "InvalidPoint" false) rfl)
theorem Tx.ex_InvalidInteger_Falling (T : Tx K mg base) : PySem.W.exmOne K (.ref (He.ga K "InvalidInteger")) (.ref (He.ga K "Falling")) = some false := He.exm_ok (T.says.more 122 (e := exmB "InvalidInteger" "Falling" false) rfl)
theorem Tx.ex_InvalidAmount_InvalidInteger (T : Tx K mg base) : PySem.W.exmOne K (.ref (He.ga K "InvalidAmount")) (.ref (He.ga K "InvalidInteger")) = some false := He.exm_ok (T.says.more 123 (e := exmB "InvalidAmount" "InvalidInteger" false) rfl)
theorem Tx.ex_InvalidAmount_InvalidAmount (T : Tx K mg base) : PySem.W.exmOne K (.ref (He.ga K "InvalidAmount")) (.ref (He.ga K "InvalidAmount")) = some true := He.exm_ok (T.says.more 124 (e := exmB "InvalidAmount" "InvalidAmount" true) rfl)
theorem Tx.ex_InvalidAmount_InvalidPart (T : Tx K mg base) : PySem.W.exmOne K (.ref (He.ga K "InvalidAmount")) (.ref (He.ga K "InvalidPart")) = some false := He.exm_ok (T.says.more 125 (e := exmB "InvalidAmount" "InvalidPart" false) rfl)
theorem Tx.ex_InvalidAmount_InvalidPoint (T : Tx K mg base) : PySem.W.exmOne K (.ref (He.ga K "InvalidAmount")) (.ref (He.ga K "InvalidPoint")) = some false := He.exm_ok (T.says.more 126 (e := exmB "InvalidAmount" "InvalidPoint" false) rfl)
theorem Tx.ex_InvalidAmount_Falling (T : Tx K mg base) : PySem.W.exmOne K (.ref (He.ga K "InvalidAmount")) (.ref (He.ga K "Falling")) = some false := He.exm_ok (T.says.more 127 (e := exmB "InvalidAmount" "Falling" false) rfl)
theorem Tx.ex_InvalidPart_InvalidInteger (T : Tx K mg base) : PySem.W.exmOne K (.ref (He.ga K "InvalidPart")) (.ref (He.ga K "InvalidInteger")) = some false := He.exm_ok (T.says.more 128 (e := exmB "InvalidPart" "InvalidInteger" false) rfl)
theorem Tx.ex_InvalidPart_InvalidAmount (T : Tx K mg base) : PySem.W.exmOne K (.ref (He.ga K "InvalidPart")) (.ref (He.ga K "InvalidAmount")) = some false := He.exm_ok (T.says.more 129 (e := exmB "InvalidPart" "InvalidAmount" false) rfl)
theorem Tx.ex_InvalidPart_InvalidPart (T : Tx K mg base) : PySem.W.exmOne K (.ref (He.ga K "InvalidPart")) (.ref (He.ga K "InvalidPart")) = some true := He.exm_ok (T.says.more 130 (e := exmB "InvalidPart" "InvalidPart" true) rfl)
theorem Tx.ex_InvalidPart_InvalidPoint (T : Tx K mg base) : PySem.W.exmOne K (.ref (He.ga K "InvalidPart")) (.ref (He.ga K "InvalidPoint")) = some false := He.exm_ok (T.says.more 131 (e := exmB "InvalidPart" "InvalidPoint" false) rfl)
theorem Tx.ex_InvalidPart_Falling (T : Tx K mg base) : PySem.W.exmOne K (.ref (He.ga K "InvalidPart")) (.ref (He.ga K "Falling")) = some false := He.exm_ok (T.says.more 132 (e := exmB "InvalidPart" "Falling" false) rfl)
theorem Tx.ex_InvalidPoint_InvalidInteger (T : Tx K mg base) : PySem.W.exmOne K (.ref (He.ga K "InvalidPoint")) (.ref (He.ga K "InvalidInteger")) = some false := He.exm_ok (T.says.more 133 (e := exmB "InvalidPoint" "InvalidInteger" false) rfl)
theorem Tx.ex_InvalidPoint_InvalidAmount (T : Tx K mg base) : PySem.W.exmOne K (.ref (He.ga K "InvalidPoint")) (.ref (He.ga K "InvalidAmount")) = some false := He.exm_ok (T.says.more 134 (e := exmB "InvalidPoint" "InvalidAmount" false) rfl)
theorem Tx.ex_InvalidPoint_InvalidPart (T : Tx K mg base) : PySem.W.exmOne K (.ref (He.ga K "InvalidPoint")) (.ref (He.ga K "InvalidPart")) = some false := He.exm_ok (T.says.more 135 (e := exmB "InvalidPoint" "InvalidPart" false) rfl)
theorem Tx.ex_InvalidPoint_InvalidPoint (T : Tx K mg base) : PySem.W.exmOne K (.ref (He.ga K "InvalidPoint")) (.ref (He.ga K "InvalidPoint")) = some true := He.exm_ok (T.says.more 136 (e := exmB "InvalidPoint" "InvalidPoint" true) rfl)
theorem Tx.ex_InvalidPoint_Falling (T : Tx K mg base) : PySem.W.exmOne K (.ref (He.ga K "InvalidPoint")) (.ref (He.ga K "Falling")) = some false := He.exm_ok (T.says.more 137 (e := exmB "InvalidPoint" "Falling" false) rfl)
theorem Tx.ex_Falling_InvalidInteger (T : Tx K mg base) : PySem.W.exmOne K (.ref (He.ga K "Falling")) (.ref (He.ga K "InvalidInteger")) = some false := He.exm_ok (T.says.more 138 (e := exmB "Falling" "InvalidInteger" false) rfl)
theorem Tx.ex_Falling_InvalidAmount (T : Tx K mg base) : PySem.W.exmOne K (.ref (He.ga K "Falling")) (.ref (He.ga K "InvalidAmount")) = some false := He.exm_ok (T.says.more 139 (e := exmB "Falling" "InvalidAmount" false) rfl)
theorem Tx.ex_Falling_InvalidPart (T : Tx K mg base) : PySem.W.exmOne K (.ref (He.ga K "Falling")) (.ref (He.ga K "InvalidPart")) = some false := He.exm_ok (T.says.more 140 (e := exmB "Falling" "InvalidPart" false) rfl)
theorem Tx.ex_Falling_InvalidPoint (T : Tx K mg base) : PySem.W.exmOne K (.ref (He.ga K "Falling")) (.ref (He.ga K "InvalidPoint")) = some false := He.exm_ok (T.says.more 141 (e := exmB "Falling" "InvalidPoint" false) rfl)
theorem Tx.ex_Falling_Falling (T : Tx K mg base) : PySem.W.exmOne K (.ref (He.ga K "Falling")) (.ref (He.ga K "Falling")) = some true := He.exm_ok (T.says.more 142 (e := exmB "Falling" "Falling" true) rfl)
theorem Tx.xk_InvalidInteger (T : Tx K mg base) : ExcC K (He.ga K "InvalidInteger") := excs_ok (T.says.more 143 (e := excsB "InvalidInteger") rfl)
theorem Tx.kb_InvalidInteger (T : Tx K mg base) : PySem.W.kitOne K ((fun K => .ref (He.ga K "InvalidInteger")) K) ((fun K => .ref (He.ga K "CueError")) K) = some true := kitB_ok (T.says.more 144 (e := kitB (fun K => .ref (He.ga K "InvalidInteger")) (fun K => .ref (He.ga K "CueError")) true) rfl)
theorem Tx.xk_InvalidAmount (T : Tx K mg base) : ExcC K (He.ga K "InvalidAmount") := excs_ok (T.says.more 145 (e := excsB "InvalidAmount") rfl)
theorem Tx.kb_InvalidAmount (T : Tx K mg base) : PySem.W.kitOne K ((fun K => .ref (He.ga K "InvalidAmount")) K) ((fun K => .ref (He.ga K "CueError")) K) = some true := kitB_ok (T.says.more 146 (e := kitB (fun K => .ref (He.ga K "InvalidAmount")) (fun K => .ref (He.ga K "CueError")) true) rfl)
theorem Tx.xk_InvalidPart (T : Tx K mg base) : ExcC K (He.ga K "InvalidPart") := excs_ok (T.says.more 147 (e := excsB "InvalidPart") rfl)
theorem Tx.kb_InvalidPart (T : Tx K mg base) : PySem.W.kitOne K ((fun K => .ref (He.ga K "InvalidPart")) K) ((fun K => .ref (He.ga K "CueError")) K) = some true := kitB_ok (T.says.more 148 (e := kitB (fun K => .ref (He.ga K "InvalidPart")) (fun K => .ref (He.ga K "CueError")) true) rfl)
theorem Tx.xk_InvalidPoint (T : Tx K mg base) : ExcC K (He.ga K "InvalidPoint") := excs_ok (T.says.more 149 (e := excsB "InvalidPoint") rfl)
theorem Tx.kb_InvalidPoint (T : Tx K mg base) : PySem.W.kitOne K ((fun K => .ref (He.ga K "InvalidPoint")) K) ((fun K => .ref (He.ga K "CueError")) K) = some true := kitB_ok (T.says.more 150 (e := kitB (fun K => .ref (He.ga K "InvalidPoint")) (fun K => .ref (He.ga K "CueError")) true) rfl)
theorem Tx.xk_Falling (T : Tx K mg base) : ExcC K (He.ga K "Falling") := excs_ok (T.says.more 151 (e := excsB "Falling") rfl)
theorem Tx.kb_Falling (T : Tx K mg base) : PySem.W.kitOne K ((fun K => .ref (He.ga K "Falling")) K) ((fun K => .ref (He.ga K "CueError")) K) = some true := kitB_ok (T.says.more 152 (e := kitB (fun K => .ref (He.ga K "Falling")) (fun K => .ref (He.ga K "CueError")) true) rfl)
theorem Tx.dt_TempoMap_init_ (T : Tx K mg base) (H : Hp) : SqT K H ((dflA (fun K => He.ma K (He.ga K "TempoMap") "__init__") 0) K) [] := tup0_ok (T.says.more 153 (e := tup0B (dflA (fun K => He.ma K (He.ga K "TempoMap") "__init__") 0)) rfl) H
theorem Tx.eq_Amount (T : Tx K mg base) : EqC K (He.ga K "Amount") (He.ma K (He.ga K "Amount") "__eq__") := eqc_ok (T.says.more 154 (e := eqcB "Amount") rfl)
theorem Tx.op_Amount_add (T : Tx K mg base) : OpC K (He.ga K "Amount") (He.ma K (He.ga K "Amount") "__add__") "add" := opc_ok (T.says.more 155 (e := opcB "Amount" "__add__" "add") rfl)
theorem Tx.op_Amount_sub (T : Tx K mg base) : OpC K (He.ga K "Amount") (He.ma K (He.ga K "Amount") "__sub__") "sub" := opc_ok (T.says.more 156 (e := opcB "Amount" "__sub__" "sub") rfl)
theorem Tx.op_Amount_mul (T : Tx K mg base) : OpC K (He.ga K "Amount") (He.ma K (He.ga K "Amount") "__mul__") "mul" := opc_ok (T.says.more 157 (e := opcB "Amount" "__mul__" "mul") rfl)
theorem Tx.eq_TempoMap (T : Tx K mg base) : EqC K (He.ga K "TempoMap") (He.ma K (He.ga K "TempoMap") "__eq__") := eqc_ok (T.says.more 158 (e := eqcB "TempoMap") rfl)
theorem Tx.sys (T : Tx K mg base) : ∃ o, K.lookup sysModules = some o ∧ o.cls = .type "dict" := sysB_ok (T.says.more 159 (e := sysB) rfl)
theorem Tx.f_InvalidInteger_init_ (T : Tx K mg base) : ∃ fd, FunD K d_InvalidInteger_init_.name d_InvalidInteger_init_.qual (defArgs s_InvalidInteger_init_) (defBody s_InvalidInteger_init_) (defScope s_InvalidInteger_init_) (d_InvalidInteger_init_.dvs K) (d_InvalidInteger_init_.kws K) (d_InvalidInteger_init_.loc K) fd := T.says.fun_ 0 (d := d_InvalidInteger_init_) rfl
theorem Tx.f_InvalidAmount_init_ (T : Tx K mg base) : ∃ fd, FunD K d_InvalidAmount_init_.name d_InvalidAmount_init_.qual (defArgs s_InvalidAmount_init_) (defBody s_InvalidAmount_init_) (defScope s_InvalidAmount_init_) (d_InvalidAmount_init_.dvs K) (d_InvalidAmount_init_.kws K) (d_InvalidAmount_init_.loc K) fd := T.says.fun_ 1 (d := d_InvalidAmount_init_) rfl
theorem Tx.f_InvalidPart_init_ (T : Tx K mg base) : ∃ fd, FunD K d_InvalidPart_init_.name d_InvalidPart_init_.qual (defArgs s_InvalidPart_init_) (defBody s_InvalidPart_init_) (defScope s_InvalidPart_init_) (d_InvalidPart_init_.dvs K) (d_InvalidPart_init_.kws K) (d_InvalidPart_init_.loc K) fd := T.says.fun_ 2 (d := d_InvalidPart_init_) rfl
theorem Tx.f_InvalidPoint_init_ (T : Tx K mg base) : ∃ fd, FunD K d_InvalidPoint_init_.name d_InvalidPoint_init_.qual (defArgs s_InvalidPoint_init_) (defBody s_InvalidPoint_init_) (defScope s_InvalidPoint_init_) (d_InvalidPoint_init_.dvs K) (d_InvalidPoint_init_.kws K) (d_InvalidPoint_init_.loc K) fd := T.says.fun_ 3 (d := d_InvalidPoint_init_) rfl
theorem Tx.f_Falling_init_ (T : Tx K mg base) : ∃ fd, FunD K d_Falling_init_.name d_Falling_init_.qual (defArgs s_Falling_init_) (defBody s_Falling_init_) (defScope s_Falling_init_) (d_Falling_init_.dvs K) (d_Falling_init_.kws K) (d_Falling_init_.loc K) fd := T.says.fun_ 4 (d := d_Falling_init_) rfl
theorem Tx.f_is_whole (T : Tx K mg base) : ∃ fd, FunD K d_is_whole.name d_is_whole.qual (defArgs s_is_whole) (defBody s_is_whole) (defScope s_is_whole) (d_is_whole.dvs K) (d_is_whole.kws K) (d_is_whole.loc K) fd := T.says.fun_ 5 (d := d_is_whole) rfl
theorem Tx.f_is_list (T : Tx K mg base) : ∃ fd, FunD K d_is_list.name d_is_list.qual (defArgs s_is_list) (defBody s_is_list) (defScope s_is_list) (d_is_list.dvs K) (d_is_list.kws K) (d_is_list.loc K) fd := T.says.fun_ 6 (d := d_is_list) rfl
theorem Tx.f_is_row (T : Tx K mg base) : ∃ fd, FunD K d_is_row.name d_is_row.qual (defArgs s_is_row) (defBody s_is_row) (defScope s_is_row) (d_is_row.dvs K) (d_is_row.kws K) (d_is_row.loc K) fd := T.says.fun_ 7 (d := d_is_row) rfl
theorem Tx.f_common_factor (T : Tx K mg base) : ∃ fd, FunD K d_common_factor.name d_common_factor.qual (defArgs s_common_factor) (defBody s_common_factor) (defScope s_common_factor) (d_common_factor.dvs K) (d_common_factor.kws K) (d_common_factor.loc K) fd := T.says.fun_ 8 (d := d_common_factor) rfl
theorem Tx.f_Amount_init_ (T : Tx K mg base) : ∃ fd, FunD K d_Amount_init_.name d_Amount_init_.qual (defArgs s_Amount_init_) (defBody s_Amount_init_) (defScope s_Amount_init_) (d_Amount_init_.dvs K) (d_Amount_init_.kws K) (d_Amount_init_.loc K) fd := T.says.fun_ 9 (d := d_Amount_init_) rfl
theorem Tx.f_Amount_top (T : Tx K mg base) : ∃ fd, FunD K d_Amount_top.name d_Amount_top.qual (defArgs s_Amount_top) (defBody s_Amount_top) (defScope s_Amount_top) (d_Amount_top.dvs K) (d_Amount_top.kws K) (d_Amount_top.loc K) fd := T.says.fun_ 10 (d := d_Amount_top) rfl
theorem Tx.f_Amount_bottom (T : Tx K mg base) : ∃ fd, FunD K d_Amount_bottom.name d_Amount_bottom.qual (defArgs s_Amount_bottom) (defBody s_Amount_bottom) (defScope s_Amount_bottom) (d_Amount_bottom.dvs K) (d_Amount_bottom.kws K) (d_Amount_bottom.loc K) fd := T.says.fun_ 11 (d := d_Amount_bottom) rfl
theorem Tx.f_Amount_eq_ (T : Tx K mg base) : ∃ fd, FunD K d_Amount_eq_.name d_Amount_eq_.qual (defArgs s_Amount_eq_) (defBody s_Amount_eq_) (defScope s_Amount_eq_) (d_Amount_eq_.dvs K) (d_Amount_eq_.kws K) (d_Amount_eq_.loc K) fd := T.says.fun_ 12 (d := d_Amount_eq_) rfl
theorem Tx.f_Amount_add_ (T : Tx K mg base) : ∃ fd, FunD K d_Amount_add_.name d_Amount_add_.qual (defArgs s_Amount_add_) (defBody s_Amount_add_) (defScope s_Amount_add_) (d_Amount_add_.dvs K) (d_Amount_add_.kws K) (d_Amount_add_.loc K) fd := T.says.fun_ 13 (d := d_Amount_add_) rfl
theorem Tx.f_Amount_sub_ (T : Tx K mg base) : ∃ fd, FunD K d_Amount_sub_.name d_Amount_sub_.qual (defArgs s_Amount_sub_) (defBody s_Amount_sub_) (defScope s_Amount_sub_) (d_Amount_sub_.dvs K) (d_Amount_sub_.kws K) (d_Amount_sub_.loc K) fd := T.says.fun_ 14 (d := d_Amount_sub_) rfl
theorem Tx.f_Amount_mul_ (T : Tx K mg base) : ∃ fd, FunD K d_Amount_mul_.name d_Amount_mul_.qual (defArgs s_Amount_mul_) (defBody s_Amount_mul_) (defScope s_Amount_mul_) (d_Amount_mul_.dvs K) (d_Amount_mul_.kws K) (d_Amount_mul_.loc K) fd := T.says.fun_ 15 (d := d_Amount_mul_) rfl
theorem Tx.f_Amount_divided (T : Tx K mg base) : ∃ fd, FunD K d_Amount_divided.name d_Amount_divided.qual (defArgs s_Amount_divided) (defBody s_Amount_divided) (defScope s_Amount_divided) (d_Amount_divided.dvs K) (d_Amount_divided.kws K) (d_Amount_divided.loc K) fd := T.says.fun_ 16 (d := d_Amount_divided) rfl
theorem Tx.f_Amount_neg_ (T : Tx K mg base) : ∃ fd, FunD K d_Amount_neg_.name d_Amount_neg_.qual (defArgs s_Amount_neg_) (defBody s_Amount_neg_) (defScope s_Amount_neg_) (d_Amount_neg_.dvs K) (d_Amount_neg_.kws K) (d_Amount_neg_.loc K) fd := T.says.fun_ 17 (d := d_Amount_neg_) rfl
theorem Tx.f_Amount_abs_ (T : Tx K mg base) : ∃ fd, FunD K d_Amount_abs_.name d_Amount_abs_.qual (defArgs s_Amount_abs_) (defBody s_Amount_abs_) (defScope s_Amount_abs_) (d_Amount_abs_.dvs K) (d_Amount_abs_.kws K) (d_Amount_abs_.loc K) fd := T.says.fun_ 18 (d := d_Amount_abs_) rfl
theorem Tx.f_Amount_compare (T : Tx K mg base) : ∃ fd, FunD K d_Amount_compare.name d_Amount_compare.qual (defArgs s_Amount_compare) (defBody s_Amount_compare) (defScope s_Amount_compare) (d_Amount_compare.dvs K) (d_Amount_compare.kws K) (d_Amount_compare.loc K) fd := T.says.fun_ 19 (d := d_Amount_compare) rfl
theorem Tx.f_is_amount (T : Tx K mg base) : ∃ fd, FunD K d_is_amount.name d_is_amount.qual (defArgs s_is_amount) (defBody s_is_amount) (defScope s_is_amount) (d_is_amount.dvs K) (d_is_amount.kws K) (d_is_amount.loc K) fd := T.says.fun_ 20 (d := d_is_amount) rfl
theorem Tx.f_amount_from (T : Tx K mg base) : ∃ fd, FunD K d_amount_from.name d_amount_from.qual (defArgs s_amount_from) (defBody s_amount_from) (defScope s_amount_from) (d_amount_from.dvs K) (d_amount_from.kws K) (d_amount_from.loc K) fd := T.says.fun_ 21 (d := d_amount_from) rfl
theorem Tx.f_checked_points (T : Tx K mg base) : ∃ fd, FunD K d_checked_points.name d_checked_points.qual (defArgs s_checked_points) (defBody s_checked_points) (defScope s_checked_points) (d_checked_points.dvs K) (d_checked_points.kws K) (d_checked_points.loc K) fd := T.says.fun_ 22 (d := d_checked_points) rfl
theorem Tx.f_slope (T : Tx K mg base) : ∃ fd, FunD K d_slope.name d_slope.qual (defArgs s_slope) (defBody s_slope) (defScope s_slope) (d_slope.dvs K) (d_slope.kws K) (d_slope.loc K) fd := T.says.fun_ 23 (d := d_slope) rfl
theorem Tx.f_led (T : Tx K mg base) : ∃ fd, FunD K d_led.name d_led.qual (defArgs s_led) (defBody s_led) (defScope s_led) (d_led.dvs K) (d_led.kws K) (d_led.loc K) fd := T.says.fun_ 24 (d := d_led) rfl
theorem Tx.f_paces (T : Tx K mg base) : ∃ fd, FunD K d_paces.name d_paces.qual (defArgs s_paces) (defBody s_paces) (defScope s_paces) (d_paces.dvs K) (d_paces.kws K) (d_paces.loc K) fd := T.says.fun_ 25 (d := d_paces) rfl
theorem Tx.f_bends (T : Tx K mg base) : ∃ fd, FunD K d_bends.name d_bends.qual (defArgs s_bends) (defBody s_bends) (defScope s_bends) (d_bends.dvs K) (d_bends.kws K) (d_bends.loc K) fd := T.says.fun_ 26 (d := d_bends) rfl
theorem Tx.f_TempoMap_init_ (T : Tx K mg base) : ∃ fd, FunD K d_TempoMap_init_.name d_TempoMap_init_.qual (defArgs s_TempoMap_init_) (defBody s_TempoMap_init_) (defScope s_TempoMap_init_) (d_TempoMap_init_.dvs K) (d_TempoMap_init_.kws K) (d_TempoMap_init_.loc K) fd := T.says.fun_ 27 (d := d_TempoMap_init_) rfl
theorem Tx.f_TempoMap_call_ (T : Tx K mg base) : ∃ fd, FunD K d_TempoMap_call_.name d_TempoMap_call_.qual (defArgs s_TempoMap_call_) (defBody s_TempoMap_call_) (defScope s_TempoMap_call_) (d_TempoMap_call_.dvs K) (d_TempoMap_call_.kws K) (d_TempoMap_call_.loc K) fd := T.says.fun_ 28 (d := d_TempoMap_call_) rfl
theorem Tx.f_TempoMap_beat_of (T : Tx K mg base) : ∃ fd, FunD K d_TempoMap_beat_of.name d_TempoMap_beat_of.qual (defArgs s_TempoMap_beat_of) (defBody s_TempoMap_beat_of) (defScope s_TempoMap_beat_of) (d_TempoMap_beat_of.dvs K) (d_TempoMap_beat_of.kws K) (d_TempoMap_beat_of.loc K) fd := T.says.fun_ 29 (d := d_TempoMap_beat_of) rfl
theorem Tx.f_TempoMap_pace (T : Tx K mg base) : ∃ fd, FunD K d_TempoMap_pace.name d_TempoMap_pace.qual (defArgs s_TempoMap_pace) (defBody s_TempoMap_pace) (defScope s_TempoMap_pace) (d_TempoMap_pace.dvs K) (d_TempoMap_pace.kws K) (d_TempoMap_pace.loc K) fd := T.says.fun_ 30 (d := d_TempoMap_pace) rfl
theorem Tx.f_TempoMap_points (T : Tx K mg base) : ∃ fd, FunD K d_TempoMap_points.name d_TempoMap_points.qual (defArgs s_TempoMap_points) (defBody s_TempoMap_points) (defScope s_TempoMap_points) (d_TempoMap_points.dvs K) (d_TempoMap_points.kws K) (d_TempoMap_points.loc K) fd := T.says.fun_ 31 (d := d_TempoMap_points) rfl
theorem Tx.f_TempoMap_inverse (T : Tx K mg base) : ∃ fd, FunD K d_TempoMap_inverse.name d_TempoMap_inverse.qual (defArgs s_TempoMap_inverse) (defBody s_TempoMap_inverse) (defScope s_TempoMap_inverse) (d_TempoMap_inverse.dvs K) (d_TempoMap_inverse.kws K) (d_TempoMap_inverse.loc K) fd := T.says.fun_ 32 (d := d_TempoMap_inverse) rfl
theorem Tx.f_TempoMap_then (T : Tx K mg base) : ∃ fd, FunD K d_TempoMap_then.name d_TempoMap_then.qual (defArgs s_TempoMap_then) (defBody s_TempoMap_then) (defScope s_TempoMap_then) (d_TempoMap_then.dvs K) (d_TempoMap_then.kws K) (d_TempoMap_then.loc K) fd := T.says.fun_ 33 (d := d_TempoMap_then) rfl
theorem Tx.f_TempoMap_eq_ (T : Tx K mg base) : ∃ fd, FunD K d_TempoMap_eq_.name d_TempoMap_eq_.qual (defArgs s_TempoMap_eq_) (defBody s_TempoMap_eq_) (defScope s_TempoMap_eq_) (d_TempoMap_eq_.dvs K) (d_TempoMap_eq_.kws K) (d_TempoMap_eq_.loc K) fd := T.says.fun_ 34 (d := d_TempoMap_eq_) rfl
theorem Tx.f_w_cell (T : Tx K mg base) : ∃ fd, FunD K d_w_cell.name d_w_cell.qual (defArgs s_w_cell) (defBody s_w_cell) (defScope s_w_cell) (d_w_cell.dvs K) (d_w_cell.kws K) (d_w_cell.loc K) fd := T.says.fun_ 35 (d := d_w_cell) rfl
theorem Tx.f_w_bag (T : Tx K mg base) : ∃ fd, FunD K d_w_bag.name d_w_bag.qual (defArgs s_w_bag) (defBody s_w_bag) (defScope s_w_bag) (d_w_bag.dvs K) (d_w_bag.kws K) (d_w_bag.loc K) fd := T.says.fun_ 36 (d := d_w_bag) rfl
theorem Tx.f_w_take (T : Tx K mg base) : ∃ fd, FunD K d_w_take.name d_w_take.qual (defArgs s_w_take) (defBody s_w_take) (defScope s_w_take) (d_w_take.dvs K) (d_w_take.kws K) (d_w_take.loc K) fd := T.says.fun_ 37 (d := d_w_take) rfl
theorem Tx.f_w_frac (T : Tx K mg base) : ∃ fd, FunD K d_w_frac.name d_w_frac.qual (defArgs s_w_frac) (defBody s_w_frac) (defScope s_w_frac) (d_w_frac.dvs K) (d_w_frac.kws K) (d_w_frac.loc K) fd := T.says.fun_ 38 (d := d_w_frac) rfl
theorem Tx.f_w_sum (T : Tx K mg base) : ∃ fd, FunD K d_w_sum.name d_w_sum.qual (defArgs s_w_sum) (defBody s_w_sum) (defScope s_w_sum) (d_w_sum.dvs K) (d_w_sum.kws K) (d_w_sum.loc K) fd := T.says.fun_ 39 (d := d_w_sum) rfl
theorem Tx.f_w_less (T : Tx K mg base) : ∃ fd, FunD K d_w_less.name d_w_less.qual (defArgs s_w_less) (defBody s_w_less) (defScope s_w_less) (d_w_less.dvs K) (d_w_less.kws K) (d_w_less.loc K) fd := T.says.fun_ 40 (d := d_w_less) rfl
theorem Tx.f_w_rest (T : Tx K mg base) : ∃ fd, FunD K d_w_rest.name d_w_rest.qual (defArgs s_w_rest) (defBody s_w_rest) (defScope s_w_rest) (d_w_rest.dvs K) (d_w_rest.kws K) (d_w_rest.loc K) fd := T.says.fun_ 41 (d := d_w_rest) rfl
theorem Tx.f_w_product (T : Tx K mg base) : ∃ fd, FunD K d_w_product.name d_w_product.qual (defArgs s_w_product) (defBody s_w_product) (defScope s_w_product) (d_w_product.dvs K) (d_w_product.kws K) (d_w_product.loc K) fd := T.says.fun_ 42 (d := d_w_product) rfl
theorem Tx.f_w_quotient (T : Tx K mg base) : ∃ fd, FunD K d_w_quotient.name d_w_quotient.qual (defArgs s_w_quotient) (defBody s_w_quotient) (defScope s_w_quotient) (d_w_quotient.dvs K) (d_w_quotient.kws K) (d_w_quotient.loc K) fd := T.says.fun_ 43 (d := d_w_quotient) rfl
theorem Tx.f_w_fraction (T : Tx K mg base) : ∃ fd, FunD K d_w_fraction.name d_w_fraction.qual (defArgs s_w_fraction) (defBody s_w_fraction) (defScope s_w_fraction) (d_w_fraction.dvs K) (d_w_fraction.kws K) (d_w_fraction.loc K) fd := T.says.fun_ 44 (d := d_w_fraction) rfl
theorem Tx.f_w_step (T : Tx K mg base) : ∃ fd, FunD K d_w_step.name d_w_step.qual (defArgs s_w_step) (defBody s_w_step) (defScope s_w_step) (d_w_step.dvs K) (d_w_step.kws K) (d_w_step.loc K) fd := T.says.fun_ 45 (d := d_w_step) rfl
theorem Tx.f_w_given (T : Tx K mg base) : ∃ fd, FunD K d_w_given.name d_w_given.qual (defArgs s_w_given) (defBody s_w_given) (defScope s_w_given) (d_w_given.dvs K) (d_w_given.kws K) (d_w_given.loc K) fd := T.says.fun_ 46 (d := d_w_given) rfl
theorem Tx.f_w_points (T : Tx K mg base) : ∃ fd, FunD K d_w_points.name d_w_points.qual (defArgs s_w_points) (defBody s_w_points) (defScope s_w_points) (d_w_points.dvs K) (d_w_points.kws K) (d_w_points.loc K) fd := T.says.fun_ 47 (d := d_w_points) rfl
theorem Tx.f_w_led (T : Tx K mg base) : ∃ fd, FunD K d_w_led.name d_w_led.qual (defArgs s_w_led) (defBody s_w_led) (defScope s_w_led) (d_w_led.dvs K) (d_w_led.kws K) (d_w_led.loc K) fd := T.says.fun_ 48 (d := d_w_led) rfl
theorem Tx.f_w_paces (T : Tx K mg base) : ∃ fd, FunD K d_w_paces.name d_w_paces.qual (defArgs s_w_paces) (defBody s_w_paces) (defScope s_w_paces) (d_w_paces.dvs K) (d_w_paces.kws K) (d_w_paces.loc K) fd := T.says.fun_ 49 (d := d_w_paces) rfl
theorem Tx.f_w_bends (T : Tx K mg base) : ∃ fd, FunD K d_w_bends.name d_w_bends.qual (defArgs s_w_bends) (defBody s_w_bends) (defScope s_w_bends) (d_w_bends.dvs K) (d_w_bends.kws K) (d_w_bends.loc K) fd := T.says.fun_ 50 (d := d_w_bends) rfl
theorem Tx.f_w_pair (T : Tx K mg base) : ∃ fd, FunD K d_w_pair.name d_w_pair.qual (defArgs s_w_pair) (defBody s_w_pair) (defScope s_w_pair) (d_w_pair.dvs K) (d_w_pair.kws K) (d_w_pair.loc K) fd := T.says.fun_ 51 (d := d_w_pair) rfl
theorem Tx.f_w_pairs (T : Tx K mg base) : ∃ fd, FunD K d_w_pairs.name d_w_pairs.qual (defArgs s_w_pairs) (defBody s_w_pairs) (defScope s_w_pairs) (d_w_pairs.dvs K) (d_w_pairs.kws K) (d_w_pairs.loc K) fd := T.says.fun_ 52 (d := d_w_pairs) rfl
theorem Tx.f_w_caught (T : Tx K mg base) : ∃ fd, FunD K d_w_caught.name d_w_caught.qual (defArgs s_w_caught) (defBody s_w_caught) (defScope s_w_caught) (d_w_caught.dvs K) (d_w_caught.kws K) (d_w_caught.loc K) fd := T.says.fun_ 53 (d := d_w_caught) rfl
theorem Tx.f_w_spoilt (T : Tx K mg base) : ∃ fd, FunD K d_w_spoilt.name d_w_spoilt.qual (defArgs s_w_spoilt) (defBody s_w_spoilt) (defScope s_w_spoilt) (d_w_spoilt.dvs K) (d_w_spoilt.kws K) (d_w_spoilt.loc K) fd := T.says.fun_ 54 (d := d_w_spoilt) rfl
theorem Tx.f_law (T : Tx K mg base) : ∃ fd, FunD K d_law.name d_law.qual (defArgs s_law) (defBody s_law) (defScope s_law) (d_law.dvs K) (d_law.kws K) (d_law.loc K) fd := T.says.fun_ 55 (d := d_law) rfl
end
def nm0 : List PySem.Str := [("_wall" : PySem.Str), ("CueError" : PySem.Str), ("InvalidInteger" : PySem.Str), ("InvalidAmount" : PySem.Str), ("InvalidPart" : PySem.Str), ("InvalidPoint" : PySem.Str), ("Falling" : PySem.Str), ("is_whole" : PySem.Str), ("is_list" : PySem.Str), ("is_row" : PySem.Str), ("common_factor" : PySem.Str), ("Amount" : PySem.Str), ("is_amount" : PySem.Str), ("amount_from" : PySem.Str), ("ONE" : PySem.Str), ("checked_points" : PySem.Str), ("slope" : PySem.Str), ("led" : PySem.Str), ("paces" : PySem.Str), ("bends" : PySem.Str), ("TempoMap" : PySem.Str), ("_law_cell" : PySem.Str), ("_law_bag" : PySem.Str), ("_law_take" : PySem.Str), ("_law_frac" : PySem.Str), ("_law_sum" : PySem.Str), ("_law_less" : PySem.Str), ("_law_rest" : PySem.Str), ("_law_product" : PySem.Str), ("_law_quotient" : PySem.Str), ("_law_fraction" : PySem.Str), ("_law_step" : PySem.Str), ("_law_given" : PySem.Str), ("_law_points" : PySem.Str), ("_law_led" : PySem.Str)]
def nm1 : List PySem.Str := [("_law_paces" : PySem.Str), ("_law_bends" : PySem.Str), ("_law_pair" : PySem.Str), ("_law_pairs" : PySem.Str), ("_law_caught" : PySem.Str), ("_law_spoilt" : PySem.Str)]
def names : List PySem.Str := nm0 ++ nm1
def lawAt : Nat := 46
end K11

set_option maxHeartbeats 4000000
namespace K11
open PySem PySem.Spec PyProof.Rows L2 AT
/-! ### values of any kind -/
abbrev cA (K : PySem.W.Frag) : Addr := He.ga K "Amount"
def amtF (n d : Int) : List (Str × V) := [("own_top", .int n), ("own_bottom", .int d)]
def amtQ (q : Rat) : List (Str × V) := amtF q.num q.den
/-- at p stands an amount of the value q -/
def IsQ (K : PySem.W.Frag) (H : Hp) (p : Addr) (q : Rat) : Prop := ∃ dx, H p = some (.ins (cA K) dx (amtQ q))
inductive AnyV (K : PySem.W.Frag) (H : Hp) : V → Prop where
  | non : AnyV K H .non
  | bl (b : Bool) : AnyV K H (.bl b)
  | int (i : Int) : AnyV K H (.int i)
  | str (x : Str) : AnyV K H (.str x)
  | lst {a : Addr} {xs : List V} (e : H a = some (.lst xs)) : AnyV K H (.ref a)
  | tup {a : Addr} {xs : List V} (e : H a = some (.tup xs)) : AnyV K H (.ref a)
  | dct {a : Addr} {kvs : List (Key × V)} (e : H a = some (.dK kvs)) : AnyV K H (.ref a)
  | amt {a : Addr} {q : Rat} (e : IsQ K H a q) : AnyV K H (.ref a)
theorem AnyV.up {K : PySem.W.Frag} {H H' : Hp} {v : V} (h : AnyV K H v) (s : Same H H') : AnyV K H' v := by
  cases h with
  | non => exact .non
  | bl b => exact .bl b
  | int i => exact .int i
  | str x => exact .str x
  | lst e => exact .lst (s _ _ e)
  | tup e => exact .tup (s _ _ e)
  | dct e => exact .dct (s _ _ e)
  | amt e => exact .amt (e.imp fun _ z => s _ _ z)
def wholeV : V → Bool
  | .int _ => true
  | _ => false
def intV : V → Bool
  | .int _ => true
  | .bl _ => true
  | _ => false
def blV : V → Bool
  | .bl _ => true
  | _ => false
def strV : V → Bool
  | .str _ => true
  | _ => false
section
variable {P : Program} {w : World} {K : PySem.W.Frag} {mg : Str → Option Value} {base : Heap}
theorem isi_int (T : Tx K mg base) {H : Hp} {v : V} (h : AnyV K H v) : ∃ t, TyX K H v t ∧ PySem.W.kitOne K t (.type "int") = some (intV v) := by
  cases h with
  | non  => exact ⟨_, .base .non, kit_ty (r := false) (by decide +kernel)⟩
  | bl b => exact ⟨_, .base (.bl b), kit_ty (r := true) (by decide +kernel)⟩
  | int i => exact ⟨_, .base (.int i), kit_ty (r := true) (by decide +kernel)⟩
  | str x => exact ⟨_, .base (.str x), kit_ty (r := false) (by decide +kernel)⟩
  | lst e => exact ⟨_, .base (.lst e), kit_ty (r := false) (by decide +kernel)⟩
  | tup e => exact ⟨_, .base (.tup e), kit_ty (r := false) (by decide +kernel)⟩
  | dct e => exact ⟨_, .base (.dK e), kit_ty (r := false) (by decide +kernel)⟩
  | amt e => obtain ⟨dx, e⟩ := e; exact ⟨_, T.ins_Amount e, T.k_Amount_int⟩
theorem isi_bool (T : Tx K mg base) {H : Hp} {v : V} (h : AnyV K H v) : ∃ t, TyX K H v t ∧ PySem.W.kitOne K t (.type "bool") = some (blV v) := by
  cases h with
  | non  => exact ⟨_, .base .non, kit_ty (r := false) (by decide +kernel)⟩
  | bl b => exact ⟨_, .base (.bl b), kit_ty (r := true) (by decide +kernel)⟩
  | int i => exact ⟨_, .base (.int i), kit_ty (r := false) (by decide +kernel)⟩
  | str x => exact ⟨_, .base (.str x), kit_ty (r := false) (by decide +kernel)⟩
  | lst e => exact ⟨_, .base (.lst e), kit_ty (r := false) (by decide +kernel)⟩
  | tup e => exact ⟨_, .base (.tup e), kit_ty (r := false) (by decide +kernel)⟩
  | dct e => exact ⟨_, .base (.dK e), kit_ty (r := false) (by decide +kernel)⟩
  | amt e => obtain ⟨dx, e⟩ := e; exact ⟨_, T.ins_Amount e, T.k_Amount_bool⟩
/-- the type, as the operators ask for it -/
theorem AnyV.ofTy (T : Tx K mg base) {H : Hp} {v : V} (h : AnyV K H v) : OfTy K H (cA K) v := by
  cases h with
  | non => exact ⟨_, .base .non, .inr ⟨_, rfl, by decide⟩⟩
  | bl b => exact ⟨_, .base (.bl b), .inr ⟨_, rfl, by decide⟩⟩
  | int i => exact ⟨_, .base (.int i), .inr ⟨_, rfl, by decide⟩⟩
  | str x => exact ⟨_, .base (.str x), .inr ⟨_, rfl, by decide⟩⟩
  | lst e => exact ⟨_, .base (.lst e), .inr ⟨_, rfl, by decide⟩⟩
  | tup e => exact ⟨_, .base (.tup e), .inr ⟨_, rfl, by decide⟩⟩
  | dct e => exact ⟨_, .base (.dK e), .inr ⟨_, rfl, by decide⟩⟩
  | amt e => obtain ⟨dx, e⟩ := e; exact ⟨_, T.ins_Amount e, .inl rfl⟩
/-! ### the exceptions -/
theorem ok_InvalidInteger_init_ (T : Tx K mg base) : Ok P w K mg base 1 (He.ma K (He.ga K "InvalidInteger") "__init__") ["self", "value"] (spXi K (He.ga K "InvalidInteger") "value") := by
  refine mk_ok (N := ["self", "value"]) T.f_InvalidInteger_init_ ⟨rfl, rfl, rfl, by decide +kernel, rfl, by decide +kernel, by decide +kernel⟩ (fun _ _ _ _ _ _ us hl => match us, hl with | [_, _], _ => rfl) (fun vs H Q E h => ?_) (fun cdv A outer s H vs Q E hr h => ?_)
  · obtain ⟨a, v, rfl, _⟩ := h
    rfl
  · exact ⟨_, pss_cons (ps_expr (pe_cinit T.ba_CueError rfl T.g_CueError (pa_cons (pv 0) (pa_cons pe_str pa_nil)))) (pss_one (ps_ost (pv 0) (pv 1))), xi_reading rfl vs H Q E h⟩
theorem mx_InvalidInteger {X : Cx} (T : Tx X.K X.mg X.base) (hr : Room 2 X.A) : MkX X "InvalidInteger" "value" := mk_X T.xc_InvalidInteger T.g_InvalidInteger (ok_InvalidInteger_init_ T) hr
theorem ok_InvalidAmount_init_ (T : Tx K mg base) : Ok P w K mg base 1 (He.ma K (He.ga K "InvalidAmount") "__init__") ["self", "value"] (spXi K (He.ga K "InvalidAmount") "value") := by
  refine mk_ok (N := ["self", "value"]) T.f_InvalidAmount_init_ ⟨rfl, rfl, rfl, by decide +kernel, rfl, by decide +kernel, by decide +kernel⟩ (fun _ _ _ _ _ _ us hl => match us, hl with | [_, _], _ => rfl) (fun vs H Q E h => ?_) (fun cdv A outer s H vs Q E hr h => ?_)
  · obtain ⟨a, v, rfl, _⟩ := h
    rfl
  · exact ⟨_, pss_cons (ps_expr (pe_cinit T.ba_CueError rfl T.g_CueError (pa_cons (pv 0) (pa_cons pe_str pa_nil)))) (pss_one (ps_ost (pv 0) (pv 1))), xi_reading rfl vs H Q E h⟩
theorem mx_InvalidAmount {X : Cx} (T : Tx X.K X.mg X.base) (hr : Room 2 X.A) : MkX X "InvalidAmount" "value" := mk_X T.xc_InvalidAmount T.g_InvalidAmount (ok_InvalidAmount_init_ T) hr
theorem ok_InvalidPart_init_ (T : Tx K mg base) : Ok P w K mg base 1 (He.ma K (He.ga K "InvalidPart") "__init__") ["self", "value"] (spXi K (He.ga K "InvalidPart") "value") := by
  refine mk_ok (N := ["self", "value"]) T.f_InvalidPart_init_ ⟨rfl, rfl, rfl, by decide +kernel, rfl, by decide +kernel, by decide +kernel⟩ (fun _ _ _ _ _ _ us hl => match us, hl with | [_, _], _ => rfl) (fun vs H Q E h => ?_) (fun cdv A outer s H vs Q E hr h => ?_)
  · obtain ⟨a, v, rfl, _⟩ := h
    rfl
  · exact ⟨_, pss_cons (ps_expr (pe_cinit T.ba_CueError rfl T.g_CueError (pa_cons (pv 0) (pa_cons pe_str pa_nil)))) (pss_one (ps_ost (pv 0) (pv 1))), xi_reading rfl vs H Q E h⟩
theorem mx_InvalidPart {X : Cx} (T : Tx X.K X.mg X.base) (hr : Room 2 X.A) : MkX X "InvalidPart" "value" := mk_X T.xc_InvalidPart T.g_InvalidPart (ok_InvalidPart_init_ T) hr
theorem ok_InvalidPoint_init_ (T : Tx K mg base) : Ok P w K mg base 1 (He.ma K (He.ga K "InvalidPoint") "__init__") ["self", "value"] (spXi K (He.ga K "InvalidPoint") "value") := by
  refine mk_ok (N := ["self", "value"]) T.f_InvalidPoint_init_ ⟨rfl, rfl, rfl, by decide +kernel, rfl, by decide +kernel, by decide +kernel⟩ (fun _ _ _ _ _ _ us hl => match us, hl with | [_, _], _ => rfl) (fun vs H Q E h => ?_) (fun cdv A outer s H vs Q E hr h => ?_)
  · obtain ⟨a, v, rfl, _⟩ := h
    rfl
  · exact ⟨_, pss_cons (ps_expr (pe_cinit T.ba_CueError rfl T.g_CueError (pa_cons (pv 0) (pa_cons pe_str pa_nil)))) (pss_one (ps_ost (pv 0) (pv 1))), xi_reading rfl vs H Q E h⟩
theorem mx_InvalidPoint {X : Cx} (T : Tx X.K X.mg X.base) (hr : Room 2 X.A) : MkX X "InvalidPoint" "value" := mk_X T.xc_InvalidPoint T.g_InvalidPoint (ok_InvalidPoint_init_ T) hr
theorem ok_Falling_init_ (T : Tx K mg base) : Ok P w K mg base 1 (He.ma K (He.ga K "Falling") "__init__") ["self", "index"] (spXi K (He.ga K "Falling") "index") := by
  refine mk_ok (N := ["self", "index"]) T.f_Falling_init_ ⟨rfl, rfl, rfl, by decide +kernel, rfl, by decide +kernel, by decide +kernel⟩ (fun _ _ _ _ _ _ us hl => match us, hl with | [_, _], _ => rfl) (fun vs H Q E h => ?_) (fun cdv A outer s H vs Q E hr h => ?_)
  · obtain ⟨a, v, rfl, _⟩ := h
    rfl
  · exact ⟨_, pss_cons (ps_expr (pe_cinit T.ba_CueError rfl T.g_CueError (pa_cons (pv 0) (pa_cons pe_str pa_nil)))) (pss_one (ps_ost (pv 0) (pv 1))), xi_reading rfl vs H Q E h⟩
theorem mx_Falling {X : Cx} (T : Tx X.K X.mg X.base) (hr : Room 2 X.A) : MkX X "Falling" "index" := mk_X T.xc_Falling T.g_Falling (ok_Falling_init_ T) hr
/-- what is raised: a new exception of the class x whose field f is v -/
def Rf (K : PySem.W.Frag) (x f : Str) (v : V) (H : Hp) (E : XK) : Prop := ∀ H' d, Same H H' → H d = none → H' d = some (.xd [(f, v)]) → E (.ref (He.ga K x)) (some d) H'
theorem rf_of {K : PySem.W.Frag} {x f : Str} {v : V} {H : Hp} {E : XK} (h : Rf K x f v H E) : ∀ d, H d = none → E (.ref (He.ga K x)) (some d) (upd H d (.xd [(f, v)])) := fun d hd =>
  h _ d (fun b o e => by rw [upd_ne (ne_of_none e hd)]; exact e) hd upd_same
theorem Rf.up {K : PySem.W.Frag} {x f : Str} {v : V} {H H1 : Hp} {E : XK} (h : Rf K x f v H E) (s : Same H H1) : Rf K x f v H1 E := fun H' d s2 hd hx => h H' d (s.trans s2) (by
  cases q : H d with
  | none => rfl
  | some o => rw [s _ _ q] at hd; cases hd) hx
/-! ### is_whole -/
def spWhole (K : PySem.W.Frag) : Sp := fun vs H Q _ => ∃ v, vs = [v] ∧ AnyV K H v ∧ Q (.bl (wholeV v)) H
theorem sc_is_whole : FnScope ["value"] ["value"] (defScope s_is_whole) := ⟨rfl, rfl, rfl, by decide +kernel, rfl, by decide +kernel, by decide +kernel⟩
theorem ok_is_whole (T : Tx K mg base) : Ok P w K mg base 1 (d_is_whole.loc K) ["value"] (spWhole K) := by
  refine mk_ok (k := 0) T.f_is_whole sc_is_whole (fun _ _ _ _ _ _ us hl => match us, hl with | [_], _ => rfl) (fun vs H Q E h => ?_) (fun cdv A outer s H vs Q E hr h => ?_)
  · obtain ⟨v, rfl, _⟩ := h
    rfl
  · obtain ⟨v, rfl, hv, k⟩ := h
    refine ⟨_, (pss_one (ps_ret (pe_and (pe_callB call_isi (by rfl) T.b_isinstance (by decide +kernel) (pa_cons (pv 0) (pa_cons (pe_bltn (v := .ty "int") rfl T.b_int (by decide +kernel) rfl) pa_nil))) (pe_one (pe_not (pe_callB call_isi (by rfl) T.b_isinstance (by decide +kernel) (pa_cons (pv 0) (pa_cons (pe_bltn (v := .ty "bool") rfl T.b_bool (by decide +kernel) rfl) pa_nil)))))))), ?_⟩
    obtain ⟨t1, y1, q1⟩ := isi_int T hv
    obtain ⟨t2, y2, q2⟩ := isi_bool T hv
    refine ⟨_, rfl, _, _, _, _, _, rfl, .ty _, y1, q1, _, rfl, ?_⟩
    cases hv with
    | bl b => exact ⟨_, rfl, _, _, _, _, _, rfl, .ty _, y2, q2, _, rfl, k⟩
    | int i => exact ⟨_, rfl, _, _, _, _, _, rfl, .ty _, y2, q2, _, rfl, k⟩
    | _ => exact k
/-! ### common_factor -/
def spGcd : Sp := fun vs H Q _ => ∃ a b : Int, vs = [.int a, .int b] ∧ 0 ≤ a ∧ 0 ≤ b ∧ Q (.int (Int.gcd a b : Nat)) H
theorem gcd_turn {a b : Int} (ha : 0 ≤ a) (hb : 0 < b) : Int.gcd b (a % b) = Int.gcd a b := by
  obtain ⟨n, rfl⟩ := Int.eq_ofNat_of_zero_le ha
  obtain ⟨m, rfl⟩ := Int.eq_ofNat_of_zero_le (Int.le_of_lt hb)
  have e : (n : Int) % (m : Int) = ((n % m : Nat) : Int) := by simp
  show Nat.gcd (Int.natAbs (m : Int)) (Int.natAbs ((n : Int) % (m : Int))) = Nat.gcd (Int.natAbs (n : Int)) (Int.natAbs (m : Int))
  rw [e, Int.natAbs_natCast, Int.natAbs_natCast, Int.natAbs_natCast, Nat.gcd_comm m, ← Nat.gcd_rec, Nat.gcd_comm]
theorem sc_common_factor : FnScope ["one", "other"] ["one", "other"] (defScope s_common_factor) := ⟨rfl, rfl, rfl, by decide +kernel, rfl, by decide +kernel, by decide +kernel⟩
theorem ok_common_factor (T : Tx K mg base) : Ok P w K mg base 1 (d_common_factor.loc K) ["one", "other"] spGcd := by
  refine mk_ok (k := 0) T.f_common_factor sc_common_factor (fun _ _ _ _ _ _ us hl => match us, hl with | [_, _], _ => rfl) (fun vs H Q E h => ?_) (fun cdv A outer s H vs Q E hr h => ?_)
  · obtain ⟨a, b, rfl, _⟩ := h
    rfl
  · obtain ⟨a, b, rfl, ha, hb, k⟩ := h
    refine ⟨_, (pss_cons (ps_while (passes_of rfl) (pt_cmpR op_gt (pv 1) pe_int (nomark _)) (pss_one (ps_par (by rfl) sc_common_factor.nd (i := 0) (j := 1) rfl rfl (by decide) rfl rfl (pa_cons (pv 1) (pa_cons (pe_op op_mod (pv 0) (pv 1)) pa_nil)) (by rfl))))
      (pss_one (ps_ret (pv 0)))), ?_⟩
    refine ⟨fun m σ H' => ∃ a' b' : Int, σ = [some (.int a'), some (.int b')] ∧ H' = H ∧ 0 ≤ a' ∧ 0 ≤ b' ∧ Int.gcd a' b' = Int.gcd a b ∧ m = b'.toNat, ⟨_, a, b, rfl, rfl, ha, hb, rfl, rfl⟩, ?_⟩
    rintro m σ H' ⟨a', b', rfl, rfl, ha', hb', hg, rfl⟩
    refine ⟨_, rfl, _, _, rfl, rfl, _, rfl, ?_⟩
    refine ite2 (fun h1 => ?_) (fun h1 => ?_)
    · have h1' : 0 < b' := of_decide_eq_true h1
      refine ⟨fun σ2 H2 => ∃ a2 b2 : Int, σ2 = [some (.int a2), some (.int b2)] ∧ H2 = H' ∧ 0 ≤ a2 ∧ 0 ≤ b2 ∧ Int.gcd a2 b2 = Int.gcd a b ∧ b2 < b', ?_, ?_⟩
      · rintro σ2 H2 ⟨a2, b2, rfl, rfl, h2, h3, h4, h5⟩
        exact ⟨b2.toNat, by omega, a2, b2, rfl, rfl, h2, h3, h4, rfl⟩
      · refine ⟨_, rfl, _, rfl, _, rfl, _, _, rfl, rfl, h1', _, _, rfl, ?_⟩
        exact ⟨b', a' % b', rfl, rfl, hb', Int.emod_nonneg _ (by omega), by rw [gcd_turn ha' h1', hg], Int.emod_lt_of_pos _ h1'⟩
    · have h0 : b' = 0 := by
        have := of_decide_eq_false (by simpa using h1 : decide (0 < b') = false)
        omega
      subst h0
      refine ⟨_, rfl, ?_⟩
      have e : (Int.gcd a b : Int) = a' := by rw [← hg, Int.gcd_zero_right]; omega
      rw [e] at k
      exact k
end
end K11

set_option maxHeartbeats 4000000
namespace K11
open PySem PySem.Spec PyProof.Rows L2 AT
/-! ### lowest terms, as the rationals have them -/
def fac (t b : Int) : Int := if b < 0 then -(Int.gcd t b : Nat) else (Int.gcd t b : Nat)
theorem gcd_pos {t b : Int} (h : b ≠ 0) : 0 < Int.gcd t b := Int.gcd_pos_of_ne_zero_right t h
theorem gcd_le {t b : Int} (h : b ≠ 0) : Int.gcd t b ≤ b.natAbs := Nat.le_of_dvd (Int.natAbs_pos.mpr h) (Int.gcd_dvd_natAbs_right t b)
theorem low_num {t b : Int} (h : b ≠ 0) : t.fdiv (fac t b) = (Rat.divInt t b).num := by
  rw [Rat.num_divInt, Int.gcd_comm b t]
  have hg := gcd_pos (t := t) h
  obtain ⟨c, hc⟩ := Int.gcd_dvd_left t b
  unfold fac
  generalize Int.gcd t b = g at hg hc ⊢
  subst hc
  have g0 : (g : Int) ≠ 0 := by omega
  split
  · rename_i hb
    rw [Int.sign_eq_neg_one_of_neg hb, show ((g : Int) * c) = (-(g : Int)) * (-c) by rw [Int.neg_mul_neg], Int.mul_fdiv_cancel_left _ (by omega), show (-1 * (-(g : Int) * -c)) = (g : Int) * (-c) by rw [Int.neg_mul_neg, Int.mul_neg, Int.neg_one_mul], Int.mul_ediv_cancel_left _ g0]
  · have hb : 0 < b := by omega
    rw [Int.sign_eq_one_of_pos hb, Int.one_mul, Int.mul_fdiv_cancel_left _ g0, Int.mul_ediv_cancel_left _ g0]
theorem low_den {t b : Int} (h : b ≠ 0) : b.fdiv (fac t b) = ((Rat.divInt t b).den : Int) := by
  rw [Rat.den_divInt, if_neg h, Int.gcd_comm b t]
  have hg := gcd_pos (t := t) h
  obtain ⟨c, hc⟩ := Int.gcd_dvd_right t b
  unfold fac
  generalize Int.gcd t b = g at hg hc ⊢
  subst hc
  have g0 : (g : Int) ≠ 0 := by omega
  have e : ((g : Int) * c).natAbs / g = c.natAbs := by rw [Int.natAbs_mul, Int.natAbs_natCast, Nat.mul_div_cancel_left _ hg]
  rw [e]
  split
  · rename_i hb
    rw [show ((g : Int) * c) = (-(g : Int)) * (-c) by rw [Int.neg_mul_neg], Int.mul_fdiv_cancel_left _ (by omega)]
    have : c < 0 := by
      rcases Int.lt_or_le c 0 with z | z
      · exact z
      · have := Int.mul_nonneg (show (0 : Int) ≤ g by omega) z
        omega
    omega
  · rw [Int.mul_fdiv_cancel_left _ g0]
    have : 0 ≤ c := by
      rcases Int.lt_or_le c 0 with z | z
      · have := Int.mul_neg_of_pos_of_neg (show (0 : Int) < g by omega) z
        omega
      · exact z
    omega
theorem den_ne (q : Rat) : (q.den : Int) ≠ 0 := by have := q.den_nz; omega
theorem q_self (q : Rat) : Rat.divInt q.num q.den = q := Rat.num_divInt_den q
theorem q_add (x y : Rat) : Rat.divInt (x.num * y.den + y.num * x.den) (x.den * y.den) = x + y := by
  rw [← Rat.divInt_add_divInt _ _ (den_ne x) (den_ne y), q_self, q_self]
theorem q_neg (x : Rat) : Rat.divInt (-x.num) x.den = -x := by
  rw [← Rat.neg_divInt, q_self]
theorem q_sub (x y : Rat) : Rat.divInt (x.num * y.den - y.num * x.den) (x.den * y.den) = x - y := by
  have h := Rat.divInt_add_divInt x.num (-y.num) (den_ne x) (den_ne y)
  rw [q_self, q_neg] at h
  rw [Rat.sub_eq_add_neg, h, Int.neg_mul, Int.sub_eq_add_neg]
theorem q_mul (x y : Rat) : Rat.divInt (x.num * y.num) (x.den * y.den) = x * y := by
  rw [← Rat.divInt_mul_divInt, q_self, q_self]
theorem q_div (x y : Rat) : Rat.divInt (x.num * y.den) (x.den * y.num) = x / y := by
  rw [← Rat.divInt_mul_divInt, q_self, Rat.div_def, Rat.inv_def]
theorem q_int (i : Int) : Rat.divInt i 1 = (i : Rat) := by
  rw [Rat.divInt_eq_div]
  have : (1 : Rat)⁻¹ = 1 := by decide +kernel
  simp [Rat.div_def, this]
theorem num_ne {y : Rat} (h : y ≠ 0) : y.num ≠ 0 := fun z => h (Rat.num_eq_zero.mp z)
/-- small enough: k bits above and below -/
def Bits (k : Nat) (q : Rat) : Prop := q.num.natAbs < 2 ^ k ∧ q.den < 2 ^ k
theorem Bits.mono {k j : Nat} {q : Rat} (h : Bits k q) (l : k ≤ j) : Bits j q := ⟨Nat.lt_of_lt_of_le h.1 (Nat.pow_le_pow_right (by decide) l), Nat.lt_of_lt_of_le h.2 (Nat.pow_le_pow_right (by decide) l)⟩
theorem bits_of {k : Nat} {t b : Int} (hb : b ≠ 0) (h1 : t.natAbs < 2 ^ k) (h2 : b.natAbs < 2 ^ k) : Bits k (Rat.divInt t b) := by
  have g0 := gcd_pos (t := t) hb
  constructor
  · rw [Rat.num_divInt, Int.gcd_comm b t]
    obtain ⟨c, hc⟩ := Int.gcd_dvd_left t b
    generalize Int.gcd t b = g at g0 hc ⊢
    subst hc
    have e : b.sign * ((g : Int) * c) / g = b.sign * c := by
      rw [show b.sign * ((g : Int) * c) = (g : Int) * (b.sign * c) by rw [← Int.mul_assoc, Int.mul_comm b.sign, Int.mul_assoc], Int.mul_ediv_cancel_left _ (by omega)]
    rw [e]
    refine Nat.lt_of_le_of_lt ?_ h1
    rw [Int.natAbs_mul, Int.natAbs_mul, Int.natAbs_natCast]
    have : b.sign.natAbs ≤ 1 := by
      rw [Int.natAbs_sign]
      split <;> omega
    calc b.sign.natAbs * c.natAbs ≤ 1 * c.natAbs := Nat.mul_le_mul_right _ this
      _ ≤ g * c.natAbs := Nat.mul_le_mul_right _ g0
  · rw [Rat.den_divInt, if_neg hb]
    exact Nat.lt_of_le_of_lt (Nat.div_le_self _ _) h2
theorem mul_bits {i j : Int} {a b : Nat} (ha : i.natAbs < 2 ^ a) (hb : j.natAbs < 2 ^ b) : (i * j).natAbs < 2 ^ (a + b) := by
  rw [Int.natAbs_mul, Nat.pow_add]
  exact Nat.mul_lt_mul'' ha hb
theorem den_bits {k : Nat} {q : Rat} (h : Bits k q) : ((q.den : Int)).natAbs < 2 ^ k := by
  rw [Int.natAbs_natCast]
  exact h.2
theorem Bits.add {a b : Nat} {x y : Rat} (h : Bits a x) (g : Bits b y) : Bits (a + b + 1) (x + y) := by
  rw [← q_add]
  have h1 := mul_bits h.1 (den_bits g)
  have h2 := mul_bits g.1 (den_bits h)
  have h3 := mul_bits (den_bits h) (den_bits g)
  rw [Nat.add_comm b a] at h2
  refine bits_of (Int.mul_ne_zero (den_ne x) (den_ne y)) ?_ ?_
  · rw [Nat.pow_succ]
    omega
  · rw [Nat.pow_succ]
    omega
theorem Bits.sub {a b : Nat} {x y : Rat} (h : Bits a x) (g : Bits b y) : Bits (a + b + 1) (x - y) := by
  rw [← q_sub]
  have h1 := mul_bits h.1 (den_bits g)
  have h2 := mul_bits g.1 (den_bits h)
  have h3 := mul_bits (den_bits h) (den_bits g)
  rw [Nat.add_comm b a] at h2
  refine bits_of (Int.mul_ne_zero (den_ne x) (den_ne y)) ?_ ?_
  · rw [Nat.pow_succ]
    omega
  · rw [Nat.pow_succ]
    omega
theorem Bits.mul {a b : Nat} {x y : Rat} (h : Bits a x) (g : Bits b y) : Bits (a + b) (x * y) := by
  rw [← q_mul]
  exact bits_of (Int.mul_ne_zero (den_ne x) (den_ne y)) (mul_bits h.1 g.1) (mul_bits (den_bits h) (den_bits g))
theorem Bits.div {a b : Nat} {x y : Rat} (h : Bits a x) (g : Bits b y) (hy : y ≠ 0) : Bits (a + b) (x / y) := by
  rw [← q_div]
  exact bits_of (Int.mul_ne_zero (den_ne x) (num_ne hy)) (mul_bits h.1 (den_bits g)) (mul_bits (den_bits h) g.1)
section
variable {P : Program} {w : World} {K : PySem.W.Frag} {mg : Str → Option Value} {base : Heap}
theorem IsQ.up {H H' : Hp} {p : Addr} {q : Rat} (h : IsQ K H p q) (s : Same H H') : IsQ K H' p q := h.imp fun _ e => s _ _ e
theorem IsQ.inj {H : Hp} {p : Addr} {x y : Rat} (h : IsQ K H p x) (g : IsQ K H p y) : x = y := by
  obtain ⟨d, e⟩ := h
  obtain ⟨d', e'⟩ := g
  rw [e] at e'
  simp only [Option.some.injEq, HO.ins.injEq, amtQ, amtF, List.cons.injEq, Prod.mk.injEq, V.int.injEq, and_true, true_and] at e'
  exact Rat.ext e'.2.1 (by have := e'.2.2; omega)
theorem abs_gcd (t b : Int) : Int.gcd (if t < 0 then -t else t) (if b < 0 then -b else b) = Int.gcd t b := by
  have e : ∀ x : Int, (if x < 0 then -x else x).natAbs = x.natAbs := fun x => by split <;> simp
  show Nat.gcd _ _ = Nat.gcd _ _
  rw [e, e]
def badB : V → Bool
  | .int d => decide (d = 0)
  | _ => true
/-- Amount.__init__ -/
def spAmt (K : PySem.W.Frag) : Sp := fun vs H Q E => ∃ p dx t b, vs = [.ref p, t, b] ∧ H p = some (.ins (cA K) dx []) ∧ AnyV K H t ∧ AnyV K H b ∧
  ((∃ n d : Int, t = .int n ∧ b = .int d ∧ d ≠ 0 ∧ d.natAbs < 2 ^ 8000 ∧ Q .non (upd H p (.ins (cA K) dx (amtQ (Rat.divInt n d))))) ∨
    (wholeV t = false ∧ Rf K "InvalidInteger" "value" t H E) ∨ (wholeV t = true ∧ badB b = true ∧ Rf K "InvalidInteger" "value" b H E))
theorem log_lt {n k : Nat} (hk : 0 < k) (h : n < 2 ^ k) : n.log2 < k := PySem.Flt.log2_lt_of hk h
theorem sc_Amount_init_ : FnScope ["self", "top", "bottom", "factor"] ["self", "top", "bottom"] (defScope s_Amount_init_) := ⟨rfl, rfl, rfl, by decide +kernel, rfl, by decide +kernel, by decide +kernel⟩
theorem both_Amount (T : Tx K mg base) : Ok P w K mg base 3 (He.ma K (He.ga K "Amount") "__init__") ["self", "top", "bottom"] (spAmt K) ∧ OkD P w K mg base 3 (He.ma K (He.ga K "Amount") "__init__") ["self", "top", "bottom"] [.int 1] (spAmt K) := by
  refine mk_okD1 (k := 2) (n := 2) T.f_Amount_init_ sc_Amount_init_ rfl (fun _ _ _ _ _ _ _ us u hl => match us, hl with | [_, _], _ => ⟨_, rfl, rfl⟩) (fun _ _ _ _ _ _ _ us u hl => match us, hl with | [_, _, _], _ => ⟨_, rfl, rfl⟩) (fun vs H Q E h => ?_) (fun cdv A outer s H vs Q E hr h => ?_)
  · obtain ⟨p, dx, t, b, rfl, _⟩ := h
    rfl
  · obtain ⟨p, dx, t, b, rfl, hp, ht, hb, hc⟩ := h
    refine ⟨_, (pss_cons (ps_if (pt_not (pt_val (ok_call (ok_is_whole T) (hr.mono (by decide)) rfl T.g_is_whole passL (pa_cons (pv 1) pa_nil)))) (pss_one (ps_rs rfl (mx_InvalidInteger T (hr.mono (by decide))) (takes_of rfl rfl rfl rfl) rfl (pv 1))) pss_nil)
      (pss_cons (ps_if (PW.pt (pw_or (pt_not (pt_val (ok_call (ok_is_whole T) (hr.mono (by decide)) rfl T.g_is_whole passL (pa_cons (pv 2) pa_nil)))) (pw_or1 (pt_cmpR op_eq (pv 2) pe_int (nomark _))))) (pss_one (ps_rs rfl (mx_InvalidInteger T (hr.mono (by decide))) (takes_of rfl rfl rfl rfl) rfl (pv 2))) pss_nil)
      (pss_cons (ps_set (i := 3) sc_Amount_init_.nd rfl (Or.inl rfl) (ok_call (ok_common_factor T) (hr.mono (by decide)) rfl T.g_common_factor passL (pa_cons (pe_callB call_abs (by rfl) T.b_abs (by decide +kernel) (pa_cons (pv 1) pa_nil)) (pa_cons (pe_callB call_abs (by rfl) T.b_abs (by decide +kernel) (pa_cons (pv 2) pa_nil)) pa_nil))))
      (pss_cons (ps_if (pt_cmpR op_lt (pv 2) pe_int (nomark _)) (pss_one (ps_set (i := 3) sc_Amount_init_.nd rfl (Or.inl rfl) (pe_un un_neg (pv 3)))) pss_nil)
      (pss_cons (ps_fld (pv 0) (pe_op op_fdivZ (pv 1) (pv 3)) rfl)
      (pss_one (ps_fld (pv 0) (pe_op op_fdivZ (pv 2) (pv 3)) rfl))))))), ?_⟩
    refine ⟨_, rfl, t, rfl, ht, _, rfl, ?_⟩
    rcases hc with ⟨n, d, rfl, rfl, h0, hbig, k3⟩ | ⟨e, k1⟩ | ⟨e, eb, k2⟩
    · refine iteF ⟨_, rfl, .int d, rfl, hb, _, rfl, iteF ⟨_, rfl, rfl, _, rfl, ?_⟩⟩
      rw [decide_eq_false (fun q => h0 (V.int.inj q))]
      refine iteF ⟨_, rfl, n, rfl, _, rfl, d, rfl, _, _, rfl, (by split <;> omega), (by split <;> omega), ?_⟩
      rw [abs_gcd]
      have key : ∀ f : Int, f = fac n d → f ≠ 0 → f.natAbs.log2 < 9000 → ∀ σ, σ = ([some (.ref p), some (.int n), some (.int d), some (.int f)] : L2.St) →
          tSeq (sFld K (tVar 0) (tOp (rI CDivZ fun i j => .int (i.fdiv j)) (tVar 1) (tVar 3)) "own_top") (sFld K (tVar 0) (tOp (rI CDivZ fun i j => .int (i.fdiv j)) (tVar 2) (tVar 3)) "own_bottom") { nx := fun _ H' => Q .non H', rt := Q } σ H := by
        rintro f rfl hf hl σ rfl
        refine ⟨_, rfl, _, rfl, _, _, rfl, rfl, ⟨hf, hl⟩, _, rfl, p, _, dx, _, rfl, hp, T.cls_Amount, T.no_Amount_own_top, (by decide), ?_⟩
        refine ⟨_, rfl, _, rfl, _, _, rfl, rfl, ⟨hf, hl⟩, _, rfl, p, _, dx, _, rfl, upd_same, T.cls_Amount, T.no_Amount_own_bottom, (by show 1 < 1000; decide), ?_⟩
        rw [upd_upd]
        show Q .non (upd H p (.ins (cA K) dx (amtF (n.fdiv (fac n d)) (d.fdiv (fac n d)))))
        rw [low_num h0, low_den h0]
        exact k3
      have hg := gcd_pos (t := n) h0
      have hle := gcd_le (t := n) h0
      have hlog : (Int.gcd n d).log2 < 9000 := log_lt (by decide) (Nat.lt_of_le_of_lt hle (Nat.lt_trans hbig (Nat.pow_lt_pow_right (by decide) (by decide))))
      refine ⟨_, rfl, _, _, rfl, rfl, _, rfl, ?_⟩
      refine ite2 (fun h1 => ?_) (fun h1 => ?_)
      · have h1' : d < 0 := of_decide_eq_true h1
        refine ⟨_, rfl, _, rfl, ?_⟩
        exact key (-(Int.gcd n d : Nat)) (by unfold fac; rw [if_pos h1']) (by omega) (by rw [Int.natAbs_neg, Int.natAbs_natCast]; exact hlog) _ rfl
      · have h1' : ¬ d < 0 := of_decide_eq_false (by simpa using h1)
        exact key (Int.gcd n d : Nat) (by unfold fac; rw [if_neg h1']) (by omega) (by rw [Int.natAbs_natCast]; exact hlog) _ rfl
    · rw [e]
      exact iteT ⟨_, rfl, mk_at T.xc_InvalidInteger.oex T.xc_InvalidInteger.no (rf_of k1)⟩
    · rw [e]
      refine iteF ⟨_, rfl, b, rfl, hb, _, rfl, ?_⟩
      cases hb with
      | int d =>
        have h0 : d = 0 := of_decide_eq_true eb
        subst h0
        refine iteF ⟨_, rfl, rfl, _, rfl, ?_⟩
        rw [decide_eq_true rfl]
        exact iteT ⟨_, rfl, mk_at T.xc_InvalidInteger.oex T.xc_InvalidInteger.no (rf_of k2)⟩
      | _ => exact iteT (iteT ⟨_, rfl, mk_at T.xc_InvalidInteger.oex T.xc_InvalidInteger.no (rf_of k2)⟩)
theorem ok_Amount_init_ (T : Tx K mg base) : Ok P w K mg base 3 (He.ma K (He.ga K "Amount") "__init__") ["self", "top", "bottom"] (spAmt K) := (both_Amount T).1
theorem okd_Amount_init_ (T : Tx K mg base) : OkD P w K mg base 3 (He.ma K (He.ga K "Amount") "__init__") ["self", "top", "bottom"] [.int 1] (spAmt K) := (both_Amount T).2
theorem made_same {H : Hp} {x dx : Addr} {o1 o2 : HO} (hx : H x = none) (hdx : H dx = none) : Same H (upd (upd (upd H dx (.own x)) x o1) x o2) := AT.Same.new (AT.Same.new (AT.Same.up hdx) hx) hx
end
end K11

set_option maxHeartbeats 4000000
namespace K11
open PySem PySem.Spec PyProof.Rows L2 AT
/-! ### amounts: what a value stands for -/
inductive Qv (K : PySem.W.Frag) (H : Hp) : V → Rat → Prop where
  | obj {a : Addr} {q : Rat} (h : IsQ K H a q) : Qv K H (.ref a) q
  | int (i : Int) : Qv K H (.int i) (i : Rat)
theorem Qv.up {K : PySem.W.Frag} {H H' : Hp} {v : V} {q : Rat} (h : Qv K H v q) (s : Same H H') : Qv K H' v q := by
  cases h with
  | obj h => exact .obj (h.up s)
  | int i => exact .int i
theorem Qv.any {K : PySem.W.Frag} {H : Hp} {v : V} {q : Rat} (h : Qv K H v q) : AnyV K H v := by
  cases h with
  | obj h => exact .amt h
  | int i => exact .int i
def isA (K : PySem.W.Frag) (H : Hp) (v : V) : Prop := ∃ q, Qv K H v q
section
variable {P : Program} {w : World} {K : PySem.W.Frag} {mg : Str → Option Value} {base : Heap}
theorem isi_amt (T : Tx K mg base) {H : Hp} {v : V} (h : AnyV K H v) : ∃ t b, TyX K H v t ∧ PySem.W.kitOne K t (.ref (cA K)) = some b ∧ ((b = true ∧ ∃ a q, v = .ref a ∧ IsQ K H a q) ∨ (b = false ∧ ((∃ i, v = .int i) ∨ (wholeV v = false ∧ ¬ isA K H v)))) := by
  have no : ∀ {a : Addr} {o : HO}, H a = some o → (∀ d fs, o ≠ .ins (cA K) d fs) → ¬ isA K H (.ref a) := by
    rintro a o e hn ⟨q, hq⟩
    cases hq with
    | obj h =>
      obtain ⟨d, z⟩ := h
      rw [e] at z
      cases z
      exact hn _ _ rfl
  cases h with
  | non => exact ⟨_, _, .base .non, T.k_NoneType_Amount, .inr ⟨rfl, .inr ⟨rfl, fun ⟨_, q⟩ => nomatch q⟩⟩⟩
  | bl b => exact ⟨_, _, .base (.bl b), T.k_bool_Amount, .inr ⟨rfl, .inr ⟨rfl, fun ⟨_, q⟩ => nomatch q⟩⟩⟩
  | int i => exact ⟨_, _, .base (.int i), T.k_int_Amount, .inr ⟨rfl, .inl ⟨i, rfl⟩⟩⟩
  | str x => exact ⟨_, _, .base (.str x), T.k_str_Amount, .inr ⟨rfl, .inr ⟨rfl, fun ⟨_, q⟩ => nomatch q⟩⟩⟩
  | lst e => exact ⟨_, _, .base (.lst e), T.k_list_Amount, .inr ⟨rfl, .inr ⟨rfl, no e fun _ _ z => nomatch z⟩⟩⟩
  | tup e => exact ⟨_, _, .base (.tup e), T.k_tuple_Amount, .inr ⟨rfl, .inr ⟨rfl, no e fun _ _ z => nomatch z⟩⟩⟩
  | dct e => exact ⟨_, _, .base (.dK e), T.k_dict_Amount, .inr ⟨rfl, .inr ⟨rfl, no e fun _ _ z => nomatch z⟩⟩⟩
  | amt e =>
    obtain ⟨dx, e1⟩ := id e
    exact ⟨_, _, T.ins_Amount e1, T.k_Amount_Amount, .inl ⟨rfl, _, _, rfl, e⟩⟩
def spTop (K : PySem.W.Frag) : Sp := fun vs H Q _ => ∃ a q, vs = [.ref a] ∧ IsQ K H a q ∧ Q (.int q.num) H
def spBot (K : PySem.W.Frag) : Sp := fun vs H Q _ => ∃ a q, vs = [.ref a] ∧ IsQ K H a q ∧ Q (.int q.den) H
theorem sc_Amount_top : FnScope ["self"] ["self"] (defScope s_Amount_top) := ⟨rfl, rfl, rfl, by decide +kernel, rfl, by decide +kernel, by decide +kernel⟩
theorem ok_Amount_top (T : Tx K mg base) : Ok P w K mg base 1 (d_Amount_top.loc K) ["self"] (spTop K) := by
  refine mk_ok (k := 0) T.f_Amount_top sc_Amount_top (fun _ _ _ _ _ _ us hl => match us, hl with | [_], _ => rfl) (fun vs H Q E h => ?_) (fun cdv A outer s H vs Q E hr h => ?_)
  · obtain ⟨a, q, rfl, _⟩ := h
    rfl
  · obtain ⟨a, q, rfl, ⟨dx, ha⟩, k⟩ := h
    refine ⟨_, (pss_one (ps_ret (pe_fld (pv 0) rfl))), ?_⟩
    exact ⟨_, rfl, a, _, dx, _, _, rfl, ha, T.cls_Amount, T.no_Amount_own_top, rfl, k⟩
theorem sc_Amount_bottom : FnScope ["self"] ["self"] (defScope s_Amount_bottom) := ⟨rfl, rfl, rfl, by decide +kernel, rfl, by decide +kernel, by decide +kernel⟩
theorem ok_Amount_bottom (T : Tx K mg base) : Ok P w K mg base 1 (d_Amount_bottom.loc K) ["self"] (spBot K) := by
  refine mk_ok (k := 0) T.f_Amount_bottom sc_Amount_bottom (fun _ _ _ _ _ _ us hl => match us, hl with | [_], _ => rfl) (fun vs H Q E h => ?_) (fun cdv A outer s H vs Q E hr h => ?_)
  · obtain ⟨a, q, rfl, _⟩ := h
    rfl
  · obtain ⟨a, q, rfl, ⟨dx, ha⟩, k⟩ := h
    refine ⟨_, (pss_one (ps_ret (pe_fld (pv 0) rfl))), ?_⟩
    exact ⟨_, rfl, a, _, dx, _, _, rfl, ha, T.cls_Amount, T.no_Amount_own_bottom, rfl, k⟩
def spFrom (K : PySem.W.Frag) : Sp := fun vs H Q E => ∃ v, vs = [v] ∧ AnyV K H v ∧ ((∃ q, Qv K H v q ∧ ∀ p H', Same H H' → IsQ K H' p q → Q (.ref p) H') ∨ (wholeV v = false ∧ ¬ isA K H v ∧ Rf K "InvalidAmount" "value" v H E))
theorem sc_amount_from : FnScope ["value"] ["value"] (defScope s_amount_from) := ⟨rfl, rfl, rfl, by decide +kernel, rfl, by decide +kernel, by decide +kernel⟩
theorem ok_amount_from (T : Tx K mg base) : Ok P w K mg base 5 (d_amount_from.loc K) ["value"] (spFrom K) := by
  refine mk_ok (k := 4) T.f_amount_from sc_amount_from (fun _ _ _ _ _ _ us hl => match us, hl with | [_], _ => rfl) (fun vs H Q E h => ?_) (fun cdv A outer s H vs Q E hr h => ?_)
  · obtain ⟨v, rfl, _⟩ := h
    rfl
  · obtain ⟨v, rfl, hv, hc⟩ := h
    refine ⟨_, (pss_cons (ps_if (pt_val (pe_callB call_isi (by rfl) T.b_isinstance (by decide +kernel) (pa_cons (pv 0) (pa_cons (pe_gr T.g_Amount) pa_nil)))) (pss_one (ps_ret (pv 0))) pss_nil)
      (pss_cons (ps_if (pt_not (pt_val (ok_call (ok_is_whole T) (hr.mono (by decide)) rfl T.g_is_whole passL (pa_cons (pv 0) pa_nil)))) (pss_one (ps_rs rfl (mx_InvalidAmount T (hr.mono (by decide))) (takes_of rfl rfl rfl rfl) rfl (pv 0))) pss_nil)
      (pss_one (ps_ret (ok_makeD T.mkr_Amount (okd_Amount_init_ T) (hr.mono (by decide)) rfl T.g_Amount (passE rfl rfl rfl rfl) (pa_cons (pv 0) pa_nil)))))), ?_⟩
    obtain ⟨t, b, ty, kit, hb⟩ := isi_amt T hv
    refine ⟨_, rfl, _, _, _, _, _, rfl, .own _, ty, kit, _, rfl, ?_⟩
    rcases hc with ⟨q, hq, k⟩ | ⟨hw, hno, k⟩
    · rcases hb with ⟨rfl, a, q', rfl, ha⟩ | ⟨rfl, hi⟩
      · cases hq with
        | obj h => exact iteT ⟨_, rfl, k a H (Same.refl _) h⟩
      · refine iteF ⟨_, rfl, v, rfl, hv, _, rfl, ?_⟩
        rcases hi with ⟨i, rfl⟩ | ⟨_, hno⟩
        · refine iteF ⟨_, rfl, fun x dx hx hdx hne => ⟨x, dx, _, _, rfl, upd_same, .int _, .int _, .inl ⟨i, 1, rfl, rfl, by decide, by decide +kernel, rfl, ?_⟩⟩⟩
          cases hq
          refine k x _ (made_same hx hdx) ⟨dx, ?_⟩
          rw [upd_same, q_int]
          rfl
        · exact absurd ⟨q, hq⟩ hno
    · rcases hb with ⟨rfl, a, q', rfl, ha⟩ | ⟨rfl, hi⟩
      · exact absurd ⟨_, .obj ha⟩ hno
      · refine iteF ⟨_, rfl, v, rfl, hv, _, rfl, ?_⟩
        rw [hw]
        exact iteT ⟨_, rfl, mk_at T.xc_InvalidAmount.oex T.xc_InvalidAmount.no (rf_of k)⟩
def spIsA (K : PySem.W.Frag) : Sp := fun vs H Q _ => ∃ v, vs = [v] ∧ AnyV K H v ∧ (isA K H v → Q (.bl true) H) ∧ (¬ isA K H v → Q (.bl false) H)
theorem sc_is_amount : FnScope ["value"] ["value"] (defScope s_is_amount) := ⟨rfl, rfl, rfl, by decide +kernel, rfl, by decide +kernel, by decide +kernel⟩
theorem ok_is_amount (T : Tx K mg base) : Ok P w K mg base 2 (d_is_amount.loc K) ["value"] (spIsA K) := by
  refine mk_ok (k := 1) T.f_is_amount sc_is_amount (fun _ _ _ _ _ _ us hl => match us, hl with | [_], _ => rfl) (fun vs H Q E h => ?_) (fun cdv A outer s H vs Q E hr h => ?_)
  · obtain ⟨v, rfl, _⟩ := h
    rfl
  · obtain ⟨v, rfl, hv, k1, k2⟩ := h
    refine ⟨_, (pss_one (ps_ret (pe_or (pe_callB call_isi (by rfl) T.b_isinstance (by decide +kernel) (pa_cons (pv 0) (pa_cons (pe_gr T.g_Amount) pa_nil))) (pe_one (ok_call (ok_is_whole T) (hr.mono (by decide)) rfl T.g_is_whole passL (pa_cons (pv 0) pa_nil)))))), ?_⟩
    obtain ⟨t, b, ty, kit, hb⟩ := isi_amt T hv
    refine ⟨_, rfl, _, _, _, _, _, rfl, .own _, ty, kit, _, rfl, ?_⟩
    rcases hb with ⟨rfl, a, q', rfl, ha⟩ | ⟨rfl, hi⟩
    · exact iteT (k1 ⟨_, .obj ha⟩)
    · refine iteF ⟨_, rfl, v, rfl, hv, ?_⟩
      rcases hi with ⟨i, rfl⟩ | ⟨hw, hno⟩
      · exact k1 ⟨_, .int i⟩
      · rw [hw]
        exact k2 hno
end
end K11

set_option maxHeartbeats 4000000
namespace K11
open PySem PySem.Spec PyProof.Rows L2 AT
section
variable {P : Program} {w : World} {K : PySem.W.Frag} {mg : Str → Option Value} {base : Heap}
theorem mul_ok {i j : Int} (h : i.natAbs < 2 ^ 3000) (g : j.natAbs < 2 ^ 3000) : CMulW i j := wide_mul (a := 3000) (b := 3000) h g (by decide) (by decide) (by decide)
theorem bot_ok {i j : Int} (h : i.natAbs < 2 ^ 3000) (g : j.natAbs < 2 ^ 3000) : (i * j).natAbs < 2 ^ 8000 := Nat.lt_of_lt_of_le (mul_bits h g) (Nat.pow_le_pow_right (by decide) (by decide))
/-- a op b of two amounts: a new amount -/
def spBin (op : Rat → Rat → Rat) (K : PySem.W.Frag) : Sp := fun vs H Q E => ∃ a v x, vs = [.ref a, v] ∧ IsQ K H a x ∧ Bits 3000 x ∧ AnyV K H v ∧
  ((∃ y, Qv K H v y ∧ Bits 3000 y ∧ ∀ p H', Same H H' → H p = none → IsQ K H' p (op x y) → Q (.ref p) H') ∨ (wholeV v = false ∧ ¬ isA K H v ∧ Rf K "InvalidAmount" "value" v H E))
theorem none_of {H H' : Hp} {x : Addr} (s : Same H H') (h : H' x = none) : H x = none := by
  cases q : H x with
  | none => rfl
  | some o => rw [s _ _ q] at h; cases h
theorem sc_Amount_add_ : FnScope ["self", "other", "by"] ["self", "other"] (defScope s_Amount_add_) := ⟨rfl, rfl, rfl, by decide +kernel, rfl, by decide +kernel, by decide +kernel⟩
theorem ok_Amount_add_ (T : Tx K mg base) : Ok P w K mg base 6 (d_Amount_add_.loc K) ["self", "other"] (spBin (fun x y => x + y) K) := by
  refine mk_ok (k := 5) T.f_Amount_add_ sc_Amount_add_ (fun _ _ _ _ _ _ us hl => match us, hl with | [_, _], _ => rfl) (fun vs H Q E h => ?_) (fun cdv A outer s H vs Q E hr h => ?_)
  · obtain ⟨a, v, x, rfl, _⟩ := h
    rfl
  · obtain ⟨a, v, x, rfl, ha, bx, hv, hc⟩ := h
    refine ⟨_, (pss_cons (ps_set (i := 2) sc_Amount_add_.nd rfl (Or.inl rfl) (ok_call (ok_amount_from T) (hr.mono (by decide)) rfl T.g_amount_from (passE rfl rfl rfl rfl) (pa_cons (pv 1) pa_nil)))
      (pss_one (ps_ret (ok_make T.mkr_Amount (ok_Amount_init_ T) (hr.mono (by decide)) rfl T.g_Amount (passE rfl rfl rfl rfl) (pa_cons (pe_op op_add (pe_op op_mulW (pe_fld (pv 0) rfl) (pe_fld (pv 2) rfl)) (pe_op op_mulW (pe_fld (pv 2) rfl) (pe_fld (pv 0) rfl))) (pa_cons (pe_op op_mulW (pe_fld (pv 0) rfl) (pe_fld (pv 2) rfl)) pa_nil)))))), ?_⟩
    rcases hc with ⟨y, hy, by_, k⟩ | ⟨hw, hno, k⟩
    · refine ⟨_, rfl, v, rfl, hv, .inl ⟨y, hy, fun p H1 s1 hq => ?_⟩⟩
      obtain ⟨da, ha1⟩ := ha.up s1
      obtain ⟨dp, hp⟩ := hq
      refine ⟨_, rfl, a, _, da, _, _, rfl, ha1, T.cls_Amount, T.no_Amount_own_top, rfl, _, rfl, p, _, dp, _, _, rfl, hp, T.cls_Amount, T.no_Amount_own_bottom, rfl, _, _, rfl, rfl, mul_ok bx.1 (den_bits by_), ?_⟩
      refine ⟨_, rfl, p, _, dp, _, _, rfl, hp, T.cls_Amount, T.no_Amount_own_top, rfl, _, rfl, a, _, da, _, _, rfl, ha1, T.cls_Amount, T.no_Amount_own_bottom, rfl, _, _, rfl, rfl, mul_ok by_.1 (den_bits bx), ?_⟩
      refine ⟨_, _, rfl, rfl, ?_⟩
      refine ⟨_, rfl, a, _, da, _, _, rfl, ha1, T.cls_Amount, T.no_Amount_own_bottom, rfl, _, rfl, p, _, dp, _, _, rfl, hp, T.cls_Amount, T.no_Amount_own_bottom, rfl, _, _, rfl, rfl, mul_ok (den_bits bx) (den_bits by_), ?_⟩
      refine fun q dq hq hdq hne => ⟨q, dq, _, _, rfl, upd_same, .int _, .int _, .inl ⟨_, _, rfl, rfl, Int.mul_ne_zero (den_ne x) (den_ne y), bot_ok (den_bits bx) (den_bits by_), rfl, ?_⟩⟩
      refine k q _ (s1.trans (made_same hq hdq)) (none_of s1 hq) ⟨dq, ?_⟩
      rw [upd_same, q_add]
      rfl
    · exact ⟨_, rfl, v, rfl, hv, .inr ⟨hw, hno, k⟩⟩
theorem sc_Amount_sub_ : FnScope ["self", "other", "by"] ["self", "other"] (defScope s_Amount_sub_) := ⟨rfl, rfl, rfl, by decide +kernel, rfl, by decide +kernel, by decide +kernel⟩
theorem ok_Amount_sub_ (T : Tx K mg base) : Ok P w K mg base 6 (d_Amount_sub_.loc K) ["self", "other"] (spBin (fun x y => x - y) K) := by
  refine mk_ok (k := 5) T.f_Amount_sub_ sc_Amount_sub_ (fun _ _ _ _ _ _ us hl => match us, hl with | [_, _], _ => rfl) (fun vs H Q E h => ?_) (fun cdv A outer s H vs Q E hr h => ?_)
  · obtain ⟨a, v, x, rfl, _⟩ := h
    rfl
  · obtain ⟨a, v, x, rfl, ha, bx, hv, hc⟩ := h
    refine ⟨_, (pss_cons (ps_set (i := 2) sc_Amount_sub_.nd rfl (Or.inl rfl) (ok_call (ok_amount_from T) (hr.mono (by decide)) rfl T.g_amount_from (passE rfl rfl rfl rfl) (pa_cons (pv 1) pa_nil)))
      (pss_one (ps_ret (ok_make T.mkr_Amount (ok_Amount_init_ T) (hr.mono (by decide)) rfl T.g_Amount (passE rfl rfl rfl rfl) (pa_cons (pe_op op_sub (pe_op op_mulW (pe_fld (pv 0) rfl) (pe_fld (pv 2) rfl)) (pe_op op_mulW (pe_fld (pv 2) rfl) (pe_fld (pv 0) rfl))) (pa_cons (pe_op op_mulW (pe_fld (pv 0) rfl) (pe_fld (pv 2) rfl)) pa_nil)))))), ?_⟩
    rcases hc with ⟨y, hy, by_, k⟩ | ⟨hw, hno, k⟩
    · refine ⟨_, rfl, v, rfl, hv, .inl ⟨y, hy, fun p H1 s1 hq => ?_⟩⟩
      obtain ⟨da, ha1⟩ := ha.up s1
      obtain ⟨dp, hp⟩ := hq
      refine ⟨_, rfl, a, _, da, _, _, rfl, ha1, T.cls_Amount, T.no_Amount_own_top, rfl, _, rfl, p, _, dp, _, _, rfl, hp, T.cls_Amount, T.no_Amount_own_bottom, rfl, _, _, rfl, rfl, mul_ok bx.1 (den_bits by_), ?_⟩
      refine ⟨_, rfl, p, _, dp, _, _, rfl, hp, T.cls_Amount, T.no_Amount_own_top, rfl, _, rfl, a, _, da, _, _, rfl, ha1, T.cls_Amount, T.no_Amount_own_bottom, rfl, _, _, rfl, rfl, mul_ok by_.1 (den_bits bx), ?_⟩
      refine ⟨_, _, rfl, rfl, ?_⟩
      refine ⟨_, rfl, a, _, da, _, _, rfl, ha1, T.cls_Amount, T.no_Amount_own_bottom, rfl, _, rfl, p, _, dp, _, _, rfl, hp, T.cls_Amount, T.no_Amount_own_bottom, rfl, _, _, rfl, rfl, mul_ok (den_bits bx) (den_bits by_), ?_⟩
      refine fun q dq hq hdq hne => ⟨q, dq, _, _, rfl, upd_same, .int _, .int _, .inl ⟨_, _, rfl, rfl, Int.mul_ne_zero (den_ne x) (den_ne y), bot_ok (den_bits bx) (den_bits by_), rfl, ?_⟩⟩
      refine k q _ (s1.trans (made_same hq hdq)) (none_of s1 hq) ⟨dq, ?_⟩
      rw [upd_same, q_sub]
      rfl
    · exact ⟨_, rfl, v, rfl, hv, .inr ⟨hw, hno, k⟩⟩
theorem sc_Amount_mul_ : FnScope ["self", "other", "by"] ["self", "other"] (defScope s_Amount_mul_) := ⟨rfl, rfl, rfl, by decide +kernel, rfl, by decide +kernel, by decide +kernel⟩
theorem ok_Amount_mul_ (T : Tx K mg base) : Ok P w K mg base 6 (d_Amount_mul_.loc K) ["self", "other"] (spBin (fun x y => x * y) K) := by
  refine mk_ok (k := 5) T.f_Amount_mul_ sc_Amount_mul_ (fun _ _ _ _ _ _ us hl => match us, hl with | [_, _], _ => rfl) (fun vs H Q E h => ?_) (fun cdv A outer s H vs Q E hr h => ?_)
  · obtain ⟨a, v, x, rfl, _⟩ := h
    rfl
  · obtain ⟨a, v, x, rfl, ha, bx, hv, hc⟩ := h
    refine ⟨_, (pss_cons (ps_set (i := 2) sc_Amount_mul_.nd rfl (Or.inl rfl) (ok_call (ok_amount_from T) (hr.mono (by decide)) rfl T.g_amount_from (passE rfl rfl rfl rfl) (pa_cons (pv 1) pa_nil)))
      (pss_one (ps_ret (ok_make T.mkr_Amount (ok_Amount_init_ T) (hr.mono (by decide)) rfl T.g_Amount (passE rfl rfl rfl rfl) (pa_cons (pe_op op_mulW (pe_fld (pv 0) rfl) (pe_fld (pv 2) rfl)) (pa_cons (pe_op op_mulW (pe_fld (pv 0) rfl) (pe_fld (pv 2) rfl)) pa_nil)))))), ?_⟩
    rcases hc with ⟨y, hy, by_, k⟩ | ⟨hw, hno, k⟩
    · refine ⟨_, rfl, v, rfl, hv, .inl ⟨y, hy, fun p H1 s1 hq => ?_⟩⟩
      obtain ⟨da, ha1⟩ := ha.up s1
      obtain ⟨dp, hp⟩ := hq
      refine ⟨_, rfl, a, _, da, _, _, rfl, ha1, T.cls_Amount, T.no_Amount_own_top, rfl, _, rfl, p, _, dp, _, _, rfl, hp, T.cls_Amount, T.no_Amount_own_top, rfl, _, _, rfl, rfl, mul_ok bx.1 by_.1, ?_⟩
      refine ⟨_, rfl, a, _, da, _, _, rfl, ha1, T.cls_Amount, T.no_Amount_own_bottom, rfl, _, rfl, p, _, dp, _, _, rfl, hp, T.cls_Amount, T.no_Amount_own_bottom, rfl, _, _, rfl, rfl, mul_ok (den_bits bx) (den_bits by_), ?_⟩
      refine fun q dq hq hdq hne => ⟨q, dq, _, _, rfl, upd_same, .int _, .int _, .inl ⟨_, _, rfl, rfl, Int.mul_ne_zero (den_ne x) (den_ne y), bot_ok (den_bits bx) (den_bits by_), rfl, ?_⟩⟩
      refine k q _ (s1.trans (made_same hq hdq)) (none_of s1 hq) ⟨dq, ?_⟩
      rw [upd_same, q_mul]
      rfl
    · exact ⟨_, rfl, v, rfl, hv, .inr ⟨hw, hno, k⟩⟩
def spDiv (K : PySem.W.Frag) : Sp := fun vs H Q E => ∃ a v x, vs = [.ref a, v] ∧ IsQ K H a x ∧ Bits 3000 x ∧ AnyV K H v ∧
  ((∃ y, Qv K H v y ∧ Bits 3000 y ∧ y ≠ 0 ∧ ∀ p H', Same H H' → H p = none → IsQ K H' p (x / y) → Q (.ref p) H') ∨ (Qv K H v 0 ∧ Rf K "InvalidAmount" "value" v H E) ∨ (wholeV v = false ∧ ¬ isA K H v ∧ Rf K "InvalidAmount" "value" v H E))
theorem sc_Amount_divided : FnScope ["self", "other", "by"] ["self", "other"] (defScope s_Amount_divided) := ⟨rfl, rfl, rfl, by decide +kernel, rfl, by decide +kernel, by decide +kernel⟩
theorem ok_Amount_divided (T : Tx K mg base) : Ok P w K mg base 6 (d_Amount_divided.loc K) ["self", "other"] (spDiv K) := by
  refine mk_ok (k := 5) T.f_Amount_divided sc_Amount_divided (fun _ _ _ _ _ _ us hl => match us, hl with | [_, _], _ => rfl) (fun vs H Q E h => ?_) (fun cdv A outer s H vs Q E hr h => ?_)
  · obtain ⟨a, v, x, rfl, _⟩ := h
    rfl
  · obtain ⟨a, v, x, rfl, ha, bx, hv, hc⟩ := h
    refine ⟨_, (pss_cons (ps_set (i := 2) sc_Amount_divided.nd rfl (Or.inl rfl) (ok_call (ok_amount_from T) (hr.mono (by decide)) rfl T.g_amount_from (passE rfl rfl rfl rfl) (pa_cons (pv 1) pa_nil)))
      (pss_cons (ps_if (pt_cmpR op_eq (pe_fld (pv 2) rfl) pe_int (nomark _)) (pss_one (ps_rs rfl (mx_InvalidAmount T (hr.mono (by decide))) (takes_of rfl rfl rfl rfl) rfl (pv 1))) pss_nil)
      (pss_one (ps_ret (ok_make T.mkr_Amount (ok_Amount_init_ T) (hr.mono (by decide)) rfl T.g_Amount (passE rfl rfl rfl rfl) (pa_cons (pe_op op_mulW (pe_fld (pv 0) rfl) (pe_fld (pv 2) rfl)) (pa_cons (pe_op op_mulW (pe_fld (pv 0) rfl) (pe_fld (pv 2) rfl)) pa_nil))))))), ?_⟩
    rcases hc with ⟨y, hy, by_, y0, k⟩ | ⟨hy, k⟩ | ⟨hw, hno, k⟩
    · refine ⟨_, rfl, v, rfl, hv, .inl ⟨y, hy, fun p H1 s1 hq => ?_⟩⟩
      obtain ⟨da, ha1⟩ := ha.up s1
      obtain ⟨dp, hp⟩ := hq
      refine ⟨_, rfl, p, _, dp, _, _, rfl, hp, T.cls_Amount, T.no_Amount_own_top, rfl, rfl, _, rfl, ?_⟩
      rw [decide_eq_false (fun z => num_ne y0 (V.int.inj z))]
      refine iteF ⟨_, rfl, a, _, da, _, _, rfl, ha1, T.cls_Amount, T.no_Amount_own_top, rfl, _, rfl, p, _, dp, _, _, rfl, hp, T.cls_Amount, T.no_Amount_own_bottom, rfl, _, _, rfl, rfl, mul_ok bx.1 (den_bits by_), ?_⟩
      refine ⟨_, rfl, a, _, da, _, _, rfl, ha1, T.cls_Amount, T.no_Amount_own_bottom, rfl, _, rfl, p, _, dp, _, _, rfl, hp, T.cls_Amount, T.no_Amount_own_top, rfl, _, _, rfl, rfl, mul_ok (den_bits bx) by_.1, ?_⟩
      refine fun q dq hq hdq hne => ⟨q, dq, _, _, rfl, upd_same, .int _, .int _, .inl ⟨_, _, rfl, rfl, Int.mul_ne_zero (den_ne x) (num_ne y0), bot_ok (den_bits bx) by_.1, rfl, ?_⟩⟩
      refine k q _ (s1.trans (made_same hq hdq)) (none_of s1 hq) ⟨dq, ?_⟩
      rw [upd_same, q_div]
      rfl
    · refine ⟨_, rfl, v, rfl, hv, .inl ⟨0, hy, fun p H1 s1 hq => ?_⟩⟩
      obtain ⟨dp, hp⟩ := hq
      refine ⟨_, rfl, p, _, dp, _, _, rfl, hp, T.cls_Amount, T.no_Amount_own_top, rfl, rfl, _, rfl, ?_⟩
      rw [decide_eq_true (show V.int (Rat.num 0) = V.int 0 from rfl)]
      exact iteT ⟨_, rfl, mk_at T.xc_InvalidAmount.oex T.xc_InvalidAmount.no (rf_of (k.up s1))⟩
    · exact ⟨_, rfl, v, rfl, hv, .inr ⟨hw, hno, k⟩⟩
def spNeg (K : PySem.W.Frag) : Sp := fun vs H Q _ => ∃ a x, vs = [.ref a] ∧ IsQ K H a x ∧ Bits 3000 x ∧ ∀ p H', Same H H' → H p = none → IsQ K H' p (-x) → Q (.ref p) H'
theorem sc_Amount_neg_ : FnScope ["self"] ["self"] (defScope s_Amount_neg_) := ⟨rfl, rfl, rfl, by decide +kernel, rfl, by decide +kernel, by decide +kernel⟩
theorem ok_Amount_neg_ (T : Tx K mg base) : Ok P w K mg base 6 (d_Amount_neg_.loc K) ["self"] (spNeg K) := by
  refine mk_ok (k := 5) T.f_Amount_neg_ sc_Amount_neg_ (fun _ _ _ _ _ _ us hl => match us, hl with | [_], _ => rfl) (fun vs H Q E h => ?_) (fun cdv A outer s H vs Q E hr h => ?_)
  · obtain ⟨a, x, rfl, _⟩ := h
    rfl
  · obtain ⟨a, x, rfl, ha, bx, k⟩ := h
    refine ⟨_, (pss_one (ps_ret (ok_make T.mkr_Amount (ok_Amount_init_ T) (hr.mono (by decide)) rfl T.g_Amount (passE rfl rfl rfl rfl) (pa_cons (pe_un un_neg (pe_fld (pv 0) rfl)) (pa_cons (pe_fld (pv 0) rfl) pa_nil))))), ?_⟩
    obtain ⟨da, ha1⟩ := id ha
    refine ⟨_, rfl, a, _, da, _, _, rfl, ha1, T.cls_Amount, T.no_Amount_own_top, rfl, _, rfl, ?_⟩
    refine ⟨_, rfl, a, _, da, _, _, rfl, ha1, T.cls_Amount, T.no_Amount_own_bottom, rfl, ?_⟩
    refine fun q dq hq hdq hne => ⟨q, dq, _, _, rfl, upd_same, .int _, .int _, .inl ⟨_, _, rfl, rfl, den_ne x, Nat.lt_of_lt_of_le (den_bits bx) (Nat.pow_le_pow_right (by decide) (by decide)), rfl, ?_⟩⟩
    refine k q _ (made_same hq hdq) hq ⟨dq, ?_⟩
    rw [upd_same, q_neg]
    rfl
/-- -1, 0, 1 -/
def cmpQ (x y : Rat) : Int := (if y < x then 1 else 0) - (if x < y then 1 else 0)
def spCmp (K : PySem.W.Frag) : Sp := fun vs H Q E => ∃ a v x, vs = [.ref a, v] ∧ IsQ K H a x ∧ Bits 3000 x ∧ AnyV K H v ∧
  ((∃ y, Qv K H v y ∧ Bits 3000 y ∧ ∀ H', Same H H' → Q (.int (cmpQ x y)) H') ∨ (wholeV v = false ∧ ¬ isA K H v ∧ Rf K "InvalidAmount" "value" v H E))
theorem sc_Amount_compare : FnScope ["self", "other", "by", "left", "right"] ["self", "other"] (defScope s_Amount_compare) := ⟨rfl, rfl, rfl, by decide +kernel, rfl, by decide +kernel, by decide +kernel⟩
theorem ok_Amount_compare (T : Tx K mg base) : Ok P w K mg base 6 (d_Amount_compare.loc K) ["self", "other"] (spCmp K) := by
  refine mk_ok (k := 5) T.f_Amount_compare sc_Amount_compare (fun _ _ _ _ _ _ us hl => match us, hl with | [_, _], _ => rfl) (fun vs H Q E h => ?_) (fun cdv A outer s H vs Q E hr h => ?_)
  · obtain ⟨a, v, x, rfl, _⟩ := h
    rfl
  · obtain ⟨a, v, x, rfl, ha, bx, hv, hc⟩ := h
    refine ⟨_, (pss_cons (ps_set (i := 2) sc_Amount_compare.nd rfl (Or.inl rfl) (ok_call (ok_amount_from T) (hr.mono (by decide)) rfl T.g_amount_from (passE rfl rfl rfl rfl) (pa_cons (pv 1) pa_nil)))
      (pss_cons (ps_par (by rfl) sc_Amount_compare.nd (i := 3) (j := 4) rfl rfl (by decide) rfl rfl (pa_cons (pe_op op_mulW (pe_fld (pv 0) rfl) (pe_fld (pv 2) rfl)) (pa_cons (pe_op op_mulW (pe_fld (pv 2) rfl) (pe_fld (pv 0) rfl)) pa_nil)) (by rfl))
      (pss_one (ps_ret (pe_op op_sub (pe_callTy call_int1 (by rfl) T.b_int (by decide +kernel) (pa_cons (pe_cmpR op_gt (pv 3) (pv 4) (nomark _)) pa_nil)) (pe_callTy call_int1 (by rfl) T.b_int (by decide +kernel) (pa_cons (pe_cmpR op_lt (pv 3) (pv 4) (nomark _)) pa_nil))))))), ?_⟩
    rcases hc with ⟨y, hy, by_, k⟩ | ⟨hw, hno, k⟩
    · refine ⟨_, rfl, v, rfl, hv, .inl ⟨y, hy, fun p H1 s1 hq => ?_⟩⟩
      obtain ⟨da, ha1⟩ := ha.up s1
      obtain ⟨dp, hp⟩ := hq
      refine ⟨_, rfl, a, _, da, _, _, rfl, ha1, T.cls_Amount, T.no_Amount_own_top, rfl, _, rfl, p, _, dp, _, _, rfl, hp, T.cls_Amount, T.no_Amount_own_bottom, rfl, _, _, rfl, rfl, mul_ok bx.1 (den_bits by_), ?_⟩
      refine ⟨_, rfl, p, _, dp, _, _, rfl, hp, T.cls_Amount, T.no_Amount_own_top, rfl, _, rfl, a, _, da, _, _, rfl, ha1, T.cls_Amount, T.no_Amount_own_bottom, rfl, _, _, rfl, rfl, mul_ok by_.1 (den_bits bx), _, _, rfl, ?_⟩
      have k2 := k H1 s1
      have e : cmpQ x y = (if decide (y.num * x.den < x.num * y.den) = true then 1 else 0) - (if decide (x.num * y.den < y.num * x.den) = true then 1 else 0) := by
        unfold cmpQ
        simp only [decide_eq_true_eq, Rat.lt_iff]
      rw [e] at k2
      exact ⟨_, rfl, _, rfl, _, _, rfl, rfl, .inr ⟨_, rfl, _, rfl, _, rfl, _, _, rfl, rfl, .inr ⟨_, rfl, _, _, rfl, rfl, k2⟩⟩⟩
    · exact ⟨_, rfl, v, rfl, hv, .inr ⟨hw, hno, k⟩⟩
def spEqA (K : PySem.W.Frag) : Sp := fun vs H Q _ => ∃ a b x y, vs = [.ref a, .ref b] ∧ IsQ K H a x ∧ IsQ K H b y ∧ Q (.bl (decide (x = y))) H
theorem sc_Amount_eq_ : FnScope ["self", "other"] ["self", "other"] (defScope s_Amount_eq_) := ⟨rfl, rfl, rfl, by decide +kernel, rfl, by decide +kernel, by decide +kernel⟩
theorem ok_Amount_eq_ (T : Tx K mg base) : Ok P w K mg base 2 (d_Amount_eq_.loc K) ["self", "other"] (spEqA K) := by
  refine mk_ok (k := 1) T.f_Amount_eq_ sc_Amount_eq_ (fun _ _ _ _ _ _ us hl => match us, hl with | [_, _], _ => rfl) (fun vs H Q E h => ?_) (fun cdv A outer s H vs Q E hr h => ?_)
  · obtain ⟨a, b, x, y, rfl, _⟩ := h
    rfl
  · obtain ⟨a, b, x, y, rfl, ha, hb, k⟩ := h
    refine ⟨_, (pss_cons (ps_if (pt_not (pt_val (pe_callB call_isi (by rfl) T.b_isinstance (by decide +kernel) (pa_cons (pv 1) (pa_cons (pe_gr T.g_Amount) pa_nil))))) (pss_one (ps_ret pe_never)) pss_nil)
      (pss_one (ps_ret (pe_and (pe_cmpR op_eq (pe_fld (pv 0) rfl) (pe_fld (pv 1) rfl) (nomark _)) (pe_one (pe_cmpR op_eq (pe_fld (pv 0) rfl) (pe_fld (pv 1) rfl) (nomark _))))))), ?_⟩
    obtain ⟨da, ha1⟩ := id ha
    obtain ⟨dp, hp⟩ := id hb
    refine ⟨_, rfl, _, _, _, _, _, rfl, .own _, T.ins_Amount hp, T.k_Amount_Amount, _, rfl, iteF ?_⟩
    refine ⟨_, rfl, a, _, da, _, _, rfl, ha1, T.cls_Amount, T.no_Amount_own_top, rfl, _, rfl, b, _, dp, _, _, rfl, hp, T.cls_Amount, T.no_Amount_own_top, rfl, rfl, _, rfl, ?_⟩
    by_cases e : x.num = y.num
    · rw [decide_eq_true (congrArg V.int e)]
      refine iteT ⟨_, rfl, a, _, da, _, _, rfl, ha1, T.cls_Amount, T.no_Amount_own_bottom, rfl, _, rfl, b, _, dp, _, _, rfl, hp, T.cls_Amount, T.no_Amount_own_bottom, rfl, rfl, ?_⟩
      by_cases e2 : x.den = y.den
      · rw [decide_eq_true (show V.int (x.den : Int) = V.int (y.den : Int) by rw [e2])]
        rw [decide_eq_true (Rat.ext e e2)] at k
        exact k
      · rw [decide_eq_false (show ¬ V.int (x.den : Int) = V.int (y.den : Int) from fun z => e2 (by have := V.int.inj z; omega))]
        rw [decide_eq_false (fun z => e2 (by rw [z]))] at k
        exact k
    · rw [decide_eq_false (fun z => e (V.int.inj z))]
      rw [decide_eq_false (fun z => e (by rw [z]))] at k
      exact iteF k
end
end K11

set_option maxHeartbeats 4000000
namespace K11
open PySem PySem.Spec PyProof.Rows L2 AT
section
variable {P : Program} {w : World} {K : PySem.W.Frag} {mg : Str → Option Value} {base : Heap}
/-- a list or a tuple of xs -/
def Sq (H : Hp) (v : V) (xs : List V) : Prop := ∃ a, v = .ref a ∧ (H a = some (.lst xs) ∨ H a = some (.tup xs))
theorem Sq.up {H H' : Hp} {v : V} {xs : List V} (h : Sq H v xs) (s : Same H H') : Sq H' v xs := by
  obtain ⟨a, e, h | h⟩ := h
  · exact ⟨a, e, .inl (s _ _ h)⟩
  · exact ⟨a, e, .inr (s _ _ h)⟩
theorem Sq.inj {H : Hp} {v : V} {xs ys : List V} (h : Sq H v xs) (g : Sq H v ys) : xs = ys := by
  obtain ⟨a, rfl, h⟩ := h
  obtain ⟨b, e, g⟩ := g
  cases e
  rcases h with h | h <;> rcases g with g | g <;> (rw [h] at g; cases g <;> rfl)
theorem isi_seq (T : Tx K mg base) {H : Hp} {v : V} (h : AnyV K H v) : ∃ t b, TyX K H v t ∧ PySem.W.kitAny K t [.type "list", .type "tuple"] = some b ∧ ((b = true ∧ ∃ xs, Sq H v xs) ∨ (b = false ∧ ¬ ∃ xs, Sq H v xs)) := by
  have no : ∀ {o : HO} {a : Addr}, H a = some o → (∀ xs, o ≠ .lst xs ∧ o ≠ .tup xs) → ¬ ∃ xs, Sq H (.ref a) xs := by
    rintro o a e hn ⟨xs, b, q, z⟩
    cases q
    rcases z with z | z
    · rw [e] at z; cases z; exact (hn xs).1 rfl
    · rw [e] at z; cases z; exact (hn xs).2 rfl
  have k2 : ∀ {t : Value} {b c : Bool}, PySem.W.kitOne K t (.type "list") = some b → PySem.W.kitOne K t (.type "tuple") = some c → PySem.W.kitAny K t [.type "list", .type "tuple"] = some (b || c) := by
    intro t b c e1 e2
    simp only [PySem.W.kitAny, e1, e2]
    cases b <;> cases c <;> rfl
  cases h with
  | non => exact ⟨_, _, .base .non, k2 (kit_ty (r := false) (by decide +kernel)) (kit_ty (r := false) (by decide +kernel)), .inr ⟨rfl, fun ⟨_, _, q, _⟩ => nomatch q⟩⟩
  | bl b => exact ⟨_, _, .base (.bl b), k2 (kit_ty (r := false) (by decide +kernel)) (kit_ty (r := false) (by decide +kernel)), .inr ⟨rfl, fun ⟨_, _, q, _⟩ => nomatch q⟩⟩
  | int i => exact ⟨_, _, .base (.int i), k2 (kit_ty (r := false) (by decide +kernel)) (kit_ty (r := false) (by decide +kernel)), .inr ⟨rfl, fun ⟨_, _, q, _⟩ => nomatch q⟩⟩
  | str x => exact ⟨_, _, .base (.str x), k2 (kit_ty (r := false) (by decide +kernel)) (kit_ty (r := false) (by decide +kernel)), .inr ⟨rfl, fun ⟨_, _, q, _⟩ => nomatch q⟩⟩
  | lst e => exact ⟨_, _, .base (.lst e), k2 (kit_ty (r := true) (by decide +kernel)) (kit_ty (r := false) (by decide +kernel)), .inl ⟨rfl, _, _, rfl, .inl e⟩⟩
  | tup e => exact ⟨_, _, .base (.tup e), k2 (kit_ty (r := false) (by decide +kernel)) (kit_ty (r := true) (by decide +kernel)), .inl ⟨rfl, _, _, rfl, .inr e⟩⟩
  | dct e => exact ⟨_, _, .base (.dK e), k2 (kit_ty (r := false) (by decide +kernel)) (kit_ty (r := false) (by decide +kernel)), .inr ⟨rfl, no e fun _ => ⟨(fun z => nomatch z), (fun z => nomatch z)⟩⟩⟩
  | amt e =>
    obtain ⟨dx, e⟩ := e
    exact ⟨_, _, T.ins_Amount e, k2 T.k_Amount_list T.k_Amount_tuple, .inr ⟨rfl, no e fun _ => ⟨(fun z => nomatch z), (fun z => nomatch z)⟩⟩⟩
theorem TyX.new {H : Hp} {v : V} {t : Value} {p : Addr} {o : HO} (hv : AnyV K H v) (hp : H p = none) (T : Tx K mg base) : AnyV K (upd H p o) v := hv.up (AT.Same.up hp)
def spIsList (K : PySem.W.Frag) : Sp := fun vs H Q _ => ∃ v, vs = [v] ∧ AnyV K H v ∧ ((∃ xs, Sq H v xs) → ∀ H', Same H H' → Q (.bl true) H') ∧ ((¬ ∃ xs, Sq H v xs) → ∀ H', Same H H' → Q (.bl false) H')
theorem sc_is_list : FnScope ["value"] ["value"] (defScope s_is_list) := ⟨rfl, rfl, rfl, by decide +kernel, rfl, by decide +kernel, by decide +kernel⟩
theorem ok_is_list (T : Tx K mg base) : Ok P w K mg base 1 (d_is_list.loc K) ["value"] (spIsList K) := by
  refine mk_ok (k := 0) T.f_is_list sc_is_list (fun _ _ _ _ _ _ us hl => match us, hl with | [_], _ => rfl) (fun vs H Q E h => ?_) (fun cdv A outer s H vs Q E hr h => ?_)
  · obtain ⟨v, rfl, _⟩ := h
    rfl
  · obtain ⟨v, rfl, hv, k1, k2⟩ := h
    refine ⟨_, (pss_one (ps_ret (pe_callB call_isiT (by rfl) T.b_isinstance (by decide +kernel) (pa_cons (pv 0) (pa_cons (pe_tup (pa_cons (pe_bltn (v := .ty "list") rfl T.b_list (by decide +kernel) rfl) (pa_cons (pe_bltn (v := .ty "tuple") rfl T.b_tuple (by decide +kernel) rfl) pa_nil))) pa_nil))))), ?_⟩
    refine ⟨_, rfl, (by show 2 ≤ sizeLine; decide), fun p hp => ?_⟩
    have s1 : Same H (upd H p (.tup [.ty "list", .ty "tuple"])) := AT.Same.up hp
    obtain ⟨t, b, ty, kit, hb⟩ := isi_seq T (hv.up s1)
    refine ⟨_, p, _, _, _, _, rfl, upd_same, .cons (.ty _) (.cons (.ty _) .nil), ty, kit, ?_⟩
    rcases hb with ⟨rfl, xs, hs⟩ | ⟨rfl, hn⟩
    · by_cases z : ∃ xs, Sq H v xs
      · exact k1 z _ s1
      · exfalso
        obtain ⟨a, rfl, hs⟩ := hs
        refine z ⟨xs, a, rfl, ?_⟩
        have ne : a ≠ p := by
          rintro rfl
          cases hv with
          | lst e => rw [e] at hp; cases hp
          | tup e => rw [e] at hp; cases hp
          | dct e => rw [e] at hp; cases hp
          | amt e => obtain ⟨_, e⟩ := e; rw [e] at hp; cases hp
        rw [upd_ne ne] at hs
        exact hs
    · exact k2 (fun ⟨xs, z⟩ => hn ⟨xs, z.up s1⟩) _ s1
def spIsRow (K : PySem.W.Frag) : Sp := fun vs H Q _ => ∃ v, ∃ m : Nat, vs = [v, .int m] ∧ AnyV K H v ∧ (∀ xs, Sq H v xs → ∀ H', Same H H' → Q (.bl (decide (xs.length = m))) H') ∧ ((¬ ∃ xs, Sq H v xs) → ∀ H', Same H H' → Q (.bl false) H')
theorem sc_is_row : FnScope ["value", "many"] ["value", "many"] (defScope s_is_row) := ⟨rfl, rfl, rfl, by decide +kernel, rfl, by decide +kernel, by decide +kernel⟩
theorem ok_is_row (T : Tx K mg base) : Ok P w K mg base 2 (d_is_row.loc K) ["value", "many"] (spIsRow K) := by
  refine mk_ok (k := 1) T.f_is_row sc_is_row (fun _ _ _ _ _ _ us hl => match us, hl with | [_, _], _ => rfl) (fun vs H Q E h => ?_) (fun cdv A outer s H vs Q E hr h => ?_)
  · obtain ⟨v, m, rfl, _⟩ := h
    rfl
  · obtain ⟨v, m, rfl, hv, k1, k2⟩ := h
    refine ⟨_, (pss_one (ps_ret (pe_and (ok_call (ok_is_list T) (hr.mono (by decide)) rfl T.g_is_list passL (pa_cons (pv 0) pa_nil)) (pe_one (pe_cmpR op_eq (pe_callB call_len_seq (by rfl) T.b_len (by decide +kernel) (pa_cons (pv 0) pa_nil)) (pv 1) (nomark _)))))), ?_⟩
    refine ⟨_, rfl, v, rfl, hv, fun ⟨xs, hx⟩ H1 s1 => ?_, fun hn H1 s1 => ?_⟩
    · refine ⟨_, rfl, iteT ?_⟩
      obtain ⟨a, rfl, ha⟩ := hx.up s1
      have e : ∀ n : Nat, decide (V.int (n : Int) = V.int (m : Int)) = decide (n = m) := fun n => by
        by_cases z : n = m
        · rw [z]; simp
        · rw [decide_eq_false z, decide_eq_false (fun q => z (by have := V.int.inj q; omega))]
      refine ⟨_, rfl, a, _, rfl, ha.imp SqL.of SqT.of, _, rfl, rfl, ?_⟩
      rw [e]
      exact k1 xs hx _ s1
    · exact ⟨_, rfl, iteF (k2 hn _ s1)⟩
end
end K11

set_option maxHeartbeats 4000000
namespace K11
open PySem PySem.Spec PyProof.Rows L2 AT
section
variable {P : Program} {w : World} {K : PySem.W.Frag} {mg : Str → Option Value} {base : Heap}
/-- a point of a map, as the program keeps it -/
def Pt (K : PySem.W.Frag) (H : Hp) (v : V) (p : Rat × Rat) : Prop := ∃ t x y : Addr, v = .ref t ∧ H t = some (.tup [.ref x, .ref y]) ∧ IsQ K H x p.1 ∧ IsQ K H y p.2
theorem Pt.up {H H' : Hp} {v : V} {p : Rat × Rat} (h : Pt K H v p) (s : Same H H') : Pt K H' v p := by
  obtain ⟨t, x, y, e, h1, h2, h3⟩ := h
  exact ⟨t, x, y, e, s _ _ h1, h2.up s, h3.up s⟩
inductive Pts (K : PySem.W.Frag) (H : Hp) : List V → List (Rat × Rat) → Prop
  | nil : Pts K H [] []
  | cons {v : V} {p : Rat × Rat} {vs : List V} {ps : List (Rat × Rat)} : Pt K H v p → Pts K H vs ps → Pts K H (v :: vs) (p :: ps)
theorem Pts.up {H H' : Hp} {vs : List V} {ps : List (Rat × Rat)} (h : Pts K H vs ps) (s : Same H H') : Pts K H' vs ps := by
  induction h with
  | nil => exact .nil
  | cons a b ih => exact .cons (a.up s) ih
theorem Pts.app {H : Hp} {vs : List V} {ps : List (Rat × Rat)} {v : V} {p : Rat × Rat} (h : Pts K H vs ps) (g : Pt K H v p) : Pts K H (vs ++ [v]) (ps ++ [p]) := by
  induction h with
  | nil => exact .cons g .nil
  | cons a b ih => exact .cons a ih
theorem Pts.length {H : Hp} {vs : List V} {ps : List (Rat × Rat)} (h : Pts K H vs ps) : vs.length = ps.length := by
  induction h with
  | nil => rfl
  | cons a b ih => simp [ih]
theorem Pts.get {H : Hp} {vs : List V} {ps : List (Rat × Rat)} (h : Pts K H vs ps) : ∀ {i : Nat} {p : Rat × Rat}, ps[i]? = some p → ∃ v, vs[i]? = some v ∧ Pt K H v p := by
  induction h with
  | nil => intro i p e; simp at e
  | cons a b ih =>
    intro i p e
    cases i with
    | zero => simp at e; subst e; exact ⟨_, rfl, a⟩
    | succ i => simpa using ih (by simpa using e)
/-- an item that is a point: a row of two amounts -/
def Item (K : PySem.W.Frag) (H : Hp) (v : V) (p : Rat × Rat) : Prop := ∃ x y, Sq H v [x, y] ∧ Qv K H x p.1 ∧ Qv K H y p.2
/-- an item that is none -/
def NoItem (K : PySem.W.Frag) (H : Hp) (v : V) : Prop := AnyV K H v ∧ ((¬ ∃ xs, Sq H v xs) ∨ (∃ xs, Sq H v xs ∧ xs.length ≠ 2) ∨ ∃ x y, Sq H v [x, y] ∧ AnyV K H x ∧ AnyV K H y ∧ (¬ isA K H x ∨ (isA K H x ∧ ¬ isA K H y)))
def Below (p q : Rat × Rat) : Prop := p.1 < q.1 ∧ p.2 < q.2
def BitsP (k : Nat) (p : Rat × Rat) : Prop := Bits k p.1 ∧ Bits k p.2
def Rising : List (Rat × Rat) → Prop
  | [] => True
  | [_] => True
  | p :: q :: r => Below p q ∧ Rising (q :: r)
/-- how the walk over the items ends: ps the points ahead of it -/
def ChkEnd (K : PySem.W.Frag) (H : Hp) (xs : List V) (ps : List (Rat × Rat)) (Q : VK) (E : XK) : Prop :=
  (ps.length = xs.length ∧ ∀ (D : Addr) (vs : List V) (H' : Hp), Same H H' → H D = none → H' D = some (.lst vs) → Pts K H' vs ps → Q (.ref D) H') ∨
  (∃ v, xs[ps.length]? = some v ∧ NoItem K H v ∧ Rf K "InvalidPoint" "value" v H E) ∨
  (∃ v p q, xs[ps.length]? = some v ∧ Item K H v q ∧ BitsP 3000 q ∧ ps.getLast? = some p ∧ ¬ Below p q ∧ Rf K "Falling" "index" (.int (ps.length : Nat)) H E)
theorem Pt.set {H : Hp} {v : V} {p : Rat × Rat} {D : Addr} {ys zs : List V} (h : Pt K H v p) (hD : H D = some (.lst ys)) : Pt K (upd H D (.lst zs)) v p := by
  obtain ⟨t, x, y, e, h1, ⟨d2, h2⟩, ⟨d3, h3⟩⟩ := h
  have n1 : t ≠ D := by rintro rfl; rw [h1] at hD; cases hD
  have n2 : x ≠ D := by rintro rfl; rw [h2] at hD; cases hD
  have n3 : y ≠ D := by rintro rfl; rw [h3] at hD; cases hD
  exact ⟨t, x, y, e, by rw [upd_ne n1]; exact h1, ⟨d2, by rw [upd_ne n2]; exact h2⟩, ⟨d3, by rw [upd_ne n3]; exact h3⟩⟩
theorem Pts.set {H : Hp} {vs : List V} {ps : List (Rat × Rat)} {D : Addr} {ys zs : List V} (h : Pts K H vs ps) (hD : H D = some (.lst ys)) : Pts K (upd H D (.lst zs)) vs ps := by
  induction h with
  | nil => exact .nil
  | cons a b ih => exact .cons (a.set hD) ih
theorem Item.up {H H' : Hp} {v : V} {p : Rat × Rat} (h : Item K H v p) (s : Same H H') : Item K H' v p := by
  obtain ⟨x, y, h1, h2, h3⟩ := h
  exact ⟨x, y, h1.up s, h2.up s, h3.up s⟩
theorem Sq.any {H : Hp} {v : V} {xs : List V} (h : Sq H v xs) : AnyV K H v := by
  obtain ⟨a, rfl, h | h⟩ := h
  · exact .lst h
  · exact .tup h
theorem Rising.step : ∀ {ps : List (Rat × Rat)} {i : Nat} {p q : Rat × Rat}, Rising ps → ps[i]? = some p → ps[i + 1]? = some q → Below p q
  | p :: q :: r, 0, _, _, h, e1, e2 => by
    simp at e1 e2
    subst e1 e2
    exact h.1
  | p :: q :: r, i + 1, _, _, h, e1, e2 => Rising.step h.2 (by simpa using e1) (by simpa using e2)
  | [p], 0, _, _, _, _, e2 => by simp at e2
  | [p], i + 1, _, _, _, e1, _ => by simp at e1
  | [], i, _, _, _, e1, _ => by simp at e1
theorem cmp_neg (x y : Rat) : decide (cmpQ x y < 0) = decide (x < y) := by
  unfold cmpQ
  by_cases h : x < y
  · have h2 : ¬ y < x := by grind
    simp [h, h2]
  · simp [h]
    split <;> decide
theorem at_last {α : Type} {l : List α} {x : α} (h : l.getLast? = some x) : atI l (-1) = some x := by
  have hn : l ≠ [] := by rintro rfl; simp at h
  have hl : 0 < l.length := List.length_pos_iff.mpr hn
  unfold atI ixN
  rw [if_neg (by decide)]
  rw [List.getLast?_eq_getElem?] at h
  have e : (-1 + (l.length : Int)).toNat = l.length - 1 := by omega
  split
  · simp only [Option.bind_some]
    rw [e]
    exact h
  · omega
theorem Pts.last {H : Hp} {vs : List V} {ps : List (Rat × Rat)} (h : Pts K H vs ps) (hn : vs ≠ []) : ∃ v p, vs.getLast? = some v ∧ ps.getLast? = some p ∧ Pt K H v p := by
  have e := h.length
  have hl : 0 < vs.length := List.length_pos_iff.mpr hn
  obtain ⟨v, hv, pt⟩ := h.get (i := ps.length - 1) (List.getElem?_eq_getElem (by omega))
  refine ⟨v, _, ?_, ?_, pt⟩
  · rw [List.getLast?_eq_getElem?, e]
    exact hv
  · rw [List.getLast?_eq_getElem?]
    exact List.getElem?_eq_getElem (by omega)
theorem tyV_lst {H : Hp} {D : Addr} {vs : List V} (h : H D = some (.lst vs)) : tyV K "list" (.ref D) H := .inl ⟨rfl, vs, SqL.of h⟩
theorem noSq_up {H H' : Hp} {v : V} (hv : AnyV K H v) (h : ¬ ∃ xs, Sq H v xs) (s : Same H H') : ¬ ∃ xs, Sq H' v xs := by
  rintro ⟨xs, a, e, z⟩
  cases hv with
  | lst e1 => exact h ⟨_, _, rfl, .inl e1⟩
  | tup e1 => exact h ⟨_, _, rfl, .inr e1⟩
  | dct e1 => cases e; rw [s _ _ e1] at z; rcases z with z | z <;> cases z
  | amt e1 => obtain ⟨_, e1⟩ := e1; cases e; rw [s _ _ e1] at z; rcases z with z | z <;> cases z
  | _ => cases e
theorem noA_up {H H' : Hp} {v : V} (hv : AnyV K H v) (h : ¬ isA K H v) (s : Same H H') : ¬ isA K H' v := by
  rintro ⟨q, z⟩
  cases hv with
  | lst e1 => cases z with | obj z => obtain ⟨_, z⟩ := z; rw [s _ _ e1] at z; cases z
  | tup e1 => cases z with | obj z => obtain ⟨_, z⟩ := z; rw [s _ _ e1] at z; cases z
  | dct e1 => cases z with | obj z => obtain ⟨_, z⟩ := z; rw [s _ _ e1] at z; cases z
  | amt e1 => exact h ⟨_, .obj e1⟩
  | int i => exact h ⟨_, .int i⟩
  | _ => cases z
theorem isA_up {H H' : Hp} {v : V} (h : isA K H v) (s : Same H H') : isA K H' v := h.imp fun _ z => z.up s
def spChk (K : PySem.W.Frag) : Sp := fun vs H Q E => ∃ v, vs = [v] ∧ AnyV K H v ∧ (((¬ ∃ xs, Sq H v xs) ∧ Rf K "InvalidPart" "value" v H E) ∨
  ∃ xs ps, Sq H v xs ∧ xs.length < 1000 ∧ (∀ (i : Nat) (p : Rat × Rat), ps[i]? = some p → BitsP 3000 p ∧ ∃ x, xs[i]? = some x ∧ Item K H x p) ∧ Rising ps ∧ ChkEnd K H xs ps Q E)
theorem sc_checked_points : FnScope ["points", "found", "index", "item", "beat", "second"] ["points"] (defScope s_checked_points) := ⟨rfl, rfl, rfl, by decide +kernel, rfl, by decide +kernel, by decide +kernel⟩
theorem ok_checked_points (T : Tx K mg base) : Ok P w K mg base 7 (d_checked_points.loc K) ["points"] (spChk K) := by
  refine mk_ok (k := 6) T.f_checked_points sc_checked_points (fun _ _ _ _ _ _ us hl => match us, hl with | [_], _ => rfl) (fun vs H Q E h => ?_) (fun cdv A outer s H vs Q E hr h => ?_)
  · obtain ⟨v, rfl, _⟩ := h
    rfl
  · obtain ⟨v, rfl, hv, hc⟩ := h
    refine ⟨_, (pss_cons (ps_if (pt_not (pt_val (ok_call (ok_is_list T) (hr.mono (by decide)) rfl T.g_is_list passL (pa_cons (pv 0) pa_nil)))) (pss_one (ps_rs rfl (mx_InvalidPart T (hr.mono (by decide))) (takes_of rfl rfl rfl rfl) rfl (pv 0))) pss_nil)
      (pss_cons (ps_set (i := 1) sc_checked_points.nd rfl (Or.inl rfl) (pe_lst pa_nil))
      (pss_cons (ps_for (passes_of rfl) rfl (pi_enumA (by rfl) T.b_enumerate (pa_cons (pv 0) pa_nil)) (pg_tup rfl (pgs_cons (pg_name (i := 2) sc_checked_points.nd rfl (Or.inl rfl)) (pgs_cons (pg_name (i := 3) sc_checked_points.nd rfl (Or.inl rfl)) pgs_nil))) (pss_cons (ps_if (PW.pt (pw_or (pt_not (pt_val (ok_call (ok_is_row T) (hr.mono (by decide)) rfl T.g_is_row passL (pa_cons (pv 3) (pa_cons pe_int pa_nil))))) (pw_or (pt_not (pt_val (ok_call (ok_is_amount T) (hr.mono (by decide)) rfl T.g_is_amount passL (pa_cons (pe_ix ix_sq (pv 3) pe_int (fun _ _ => rfl)) pa_nil)))) (pw_or1 (pt_not (pt_val (ok_call (ok_is_amount T) (hr.mono (by decide)) rfl T.g_is_amount passL (pa_cons (pe_ix ix_sq (pv 3) pe_int (fun _ _ => rfl)) pa_nil)))))))) (pss_one (ps_rs rfl (mx_InvalidPoint T (hr.mono (by decide))) (takes_of rfl rfl rfl rfl) rfl (pv 3))) pss_nil)
      (pss_cons (ps_par (by rfl) sc_checked_points.nd (i := 4) (j := 5) rfl rfl (by decide) rfl rfl (pa_cons (ok_call (ok_amount_from T) (hr.mono (by decide)) rfl T.g_amount_from (passE rfl rfl rfl rfl) (pa_cons (pe_ix ix_sq (pv 3) pe_int (fun _ _ => rfl)) pa_nil)) (pa_cons (ok_call (ok_amount_from T) (hr.mono (by decide)) rfl T.g_amount_from (passE rfl rfl rfl rfl) (pa_cons (pe_ix ix_sq (pv 3) pe_int (fun _ _ => rfl)) pa_nil)) pa_nil)) (by rfl))
      (Evl.pss_cut (ps_if (PW.pt (pw_and (pt_truth (pv 1) (by intro _; rfl)) (pw_and1 (pt_not (PW.pt (pw_and (pt_cmpR op_lt (ok_meth T.cls_Amount T.m_Amount_compare (ok_Amount_compare T) (hr.mono (by decide)) (passE rfl rfl rfl rfl) (pe_ix ix_tup (pe_ix ix_list (pv 1) (pe_un un_neg pe_int) (fun _ _ => rfl)) pe_int (fun _ _ => rfl)) (pa_cons (pv 4) pa_nil)) pe_int (nomark _)) (pw_and1 (pt_cmpR op_lt (ok_meth T.cls_Amount T.m_Amount_compare (ok_Amount_compare T) (hr.mono (by decide)) (passE rfl rfl rfl rfl) (pe_ix ix_tup (pe_ix ix_list (pv 1) (pe_un un_neg pe_int) (fun _ _ => rfl)) pe_int (fun _ _ => rfl)) (pa_cons (pv 5) pa_nil)) pe_int (nomark _))))))))) (pss_one (ps_rs rfl (mx_Falling T (hr.mono (by decide))) (takes_of rfl rfl rfl rfl) rfl (pv 2))) pss_nil)
      (pss_one (ps_expr (pe_bm PySem.F.plainAttrs_list PySem.F.slot_list_append PySem.F.type_list_append mt_append (pv 1) (pa_cons (pe_tup (pa_cons (pv 4) (pa_cons (pv 5) pa_nil))) pa_nil))))))))
      (pss_one (ps_ret (pv 1)))))), ?_⟩
    rcases hc with ⟨hn, k⟩ | ⟨xs, ps, hx, hlen, hps, hris, hend⟩
    · refine ⟨_, rfl, v, rfl, hv, fun z => absurd z hn, fun _ H1 s1 => ⟨_, rfl, iteT ?_⟩⟩
      exact ⟨_, rfl, mk_at T.xc_InvalidPart.oex T.xc_InvalidPart.no (rf_of (k.up s1))⟩
    · refine ⟨_, rfl, v, rfl, hv, fun _ H1 s1 => ⟨_, rfl, iteF ?_⟩, fun z => absurd ⟨xs, hx⟩ z⟩
      refine ⟨Nat.zero_le _, fun D hD => ?_⟩
      obtain ⟨a, rfl, ha⟩ := hx.up s1
      have haD : ∀ H' : Hp, Same H1 H' → H' a = some (.lst xs) ∨ H' a = some (.tup xs) := fun H' s => ha.imp (s _ _) (s _ _)
      refine ⟨_, rfl, a, xs, rfl, (haD _ (AT.Same.up hD)).imp SqL.of SqT.of, fun J hJ => ?_⟩
      obtain ⟨G, wk, hG0⟩ := en_walk hJ
      have hG : ∀ H', Same H1 H' → G H' := fun H' s => hG0 H' (by
        rcases ha with z | z <;> rw [s _ _ z, (AT.Same.up hD) _ _ z])
      have hsz : sizeLine = 16777216 := sizeLine_eq
      refine for_it wk (fun i σ' H' => ∃ (o2 o3 o4 o5 : Option V) (vs : List V), σ' = ([some (.ref a), some (.ref D), o2, o3, o4, o5] : L2.St) ∧ Same H1 H' ∧ H' D = some (.lst vs) ∧ i ≤ ps.length ∧ Pts K H' vs (ps.take i)) ⟨_, _, _, _, [], rfl, AT.Same.up hD, upd_same, Nat.zero_le _, .nil⟩ ?_ ?_ ?_
      · rintro i σ' H' hi ⟨o2, o3, o4, o5, vs, rfl, sm, hl, hip, hp⟩
        exact hG _ sm
      · rintro i x σ' H' H2 hi ⟨o2, o3, o4, o5, vs, rfl, sm, hl, hip, hp⟩ ⟨Tp, x0, y0, rfl, hTp, rfl, e0, hy0⟩
        cases e0
        have s2 : Same H' (upd H' Tp (.tup [.int (i : Nat), y0])) := AT.Same.up hTp
        have hl2 : upd H' Tp (.tup [.int (i : Nat), y0]) D = some (.lst vs) := s2 _ _ hl
        have hp2 := hp.up s2
        have sm2 : Same H (upd H' Tp (.tup [.int (i : Nat), y0])) := (s1.trans sm).trans s2
        have sm3 : Same H1 (upd H' Tp (.tup [.int (i : Nat), y0])) := sm.trans s2
        refine ⟨Tp, _, rfl, SqT.of upd_same, rfl, _, _, rfl, _, _, rfl, rfl, ?_⟩
        generalize upd H' Tp (.tup [.int (i : Nat), y0]) = Ha at hl2 hp2 sm2 sm3 ⊢
        clear hp hl s2 hTp sm
        have hy0 : xs[i]? = some y0 := hy0
        have kind : (∃ q, Item K H y0 q ∧ BitsP 3000 q ∧ ((ps[i]? = some q) ∨ (i = ps.length ∧ ∃ p, ps.getLast? = some p ∧ ¬ Below p q ∧ Rf K "Falling" "index" (.int (i : Nat)) H E))) ∨ (NoItem K H y0 ∧ Rf K "InvalidPoint" "value" y0 H E) := by
          by_cases hi2 : i < ps.length
          · have hpi : ps[i]? = some ps[i] := List.getElem?_eq_getElem hi2
            obtain ⟨bq, y1, hy1, it⟩ := hps i _ hpi
            rw [hy0] at hy1
            cases hy1
            exact .inl ⟨_, it, bq, .inl hpi⟩
          · have ei : i = ps.length := by omega
            subst ei
            rcases hend with ⟨e, _⟩ | ⟨v, z, n, k⟩ | ⟨v, p, q, z, it, bq, lp, nb, k⟩
            · omega
            · rw [hy0] at z
              cases z
              exact .inr ⟨n, k⟩
            · rw [hy0] at z
              cases z
              exact .inl ⟨q, it, bq, .inr ⟨rfl, p, lp, nb, k⟩⟩
        rcases kind with ⟨q, it, bq, hq⟩ | ⟨⟨av, bad⟩, k⟩
        · obtain ⟨x1, x2, hsq, q1, q2⟩ := it.up sm2
          obtain ⟨b, rfl, hb⟩ := id hsq
          refine ⟨_, rfl, .ref b, 2, rfl, hsq.any, fun ys hy Hb sb => ?_, fun hn => absurd ⟨_, hsq⟩ hn⟩
          rw [← hsq.inj hy]
          have hbB := hb.imp (sb _ _) (sb _ _)
          refine ⟨_, rfl, iteF ⟨_, rfl, b, _, 0, x1, rfl, rfl, hbB.imp SqL.of SqT.of, rfl, x1, rfl, q1.any.up sb, fun _ => ?_, fun hn => absurd ⟨_, q1.up sb⟩ hn⟩⟩
          refine ⟨_, rfl, iteF ⟨_, rfl, b, _, 1, x2, rfl, rfl, hbB.imp SqL.of SqT.of, rfl, x2, rfl, q2.any.up sb, fun _ => ?_, fun hn => absurd ⟨_, q2.up sb⟩ hn⟩⟩
          refine ⟨_, rfl, iteF ?_⟩
          refine ⟨_, rfl, b, _, 0, x1, rfl, rfl, hbB.imp SqL.of SqT.of, rfl, x1, rfl, q1.any.up sb, .inl ⟨_, q1.up sb, fun pa Hc sc hA => ?_⟩⟩
          have hbC := hbB.imp (sc _ _) (sc _ _)
          refine ⟨_, rfl, b, _, 1, x2, rfl, rfl, hbC.imp SqL.of SqT.of, rfl, x2, rfl, (q2.any.up sb).up sc, .inl ⟨_, (q2.up sb).up sc, fun pb Hd sd hB => ?_⟩⟩
          refine ⟨_, _, rfl, ?_⟩
          have hA := hA.up sd
          have sx := (sb.trans sc).trans sd
          have hlD := sx _ _ hl2
          have hpD := hp2.up sx
          have smD := sm2.trans sx
          have smD1 := sm3.trans sx
          refine ⟨fun σ3 H3 => σ3 = ([some (.ref a), some (.ref D), some (.int (i : Nat)), some (.ref b), some (.ref pa), some (.ref pb)] : L2.St) ∧ Same Hd H3 ∧ (ps[i]? = some q), ?_, ?_⟩
          · refine ⟨_, rfl, !vs.isEmpty, .inl ⟨vs, SqL.of hlD, rfl⟩, ?_⟩
            cases hvs : vs.isEmpty with
            | true =>
              have e0 : vs = [] := by simpa using hvs
              refine iteF (iteF ⟨rfl, Same.refl _, ?_⟩)
              rcases hq with z | ⟨e1, p, lp, _⟩
              · exact z
              · exfalso
                have z := hpD.length
                rw [e1, List.take_length, e0] at z
                have z2 : ps = [] := List.length_eq_zero_iff.mp z.symm
                rw [z2] at lp
                simp at lp
            | false =>
              have e0 : vs ≠ [] := by rintro rfl; simp at hvs
              obtain ⟨lv, lp, hlv, hlp, hpt⟩ := hpD.last e0
              obtain ⟨tt, xa, ya, rfl, ht, hxa, hya⟩ := id hpt
              obtain ⟨da, hxa1⟩ := id hxa
              have bl : BitsP 3000 lp := by
                have m1 := List.mem_of_mem_take (List.mem_of_getLast? hlp)
                obtain ⟨j, hj⟩ := List.getElem?_of_mem m1
                exact (hps j lp hj).1
              have out : ¬ Below lp q → Rf K "Falling" "index" (.int (i : Nat)) H E := fun nb => by
                rcases hq with z | ⟨e1, p, hp1, nb1, k⟩
                · exfalso
                  apply nb
                  have li : i < ps.length := (List.getElem?_eq_some_iff.mp z).1
                  have hz := hpD.length
                  rw [List.length_take] at hz
                  have : 0 < vs.length := List.length_pos_iff.mpr e0
                  refine Rising.step (i := i - 1) hris ?_ (by rw [show i - 1 + 1 = i by omega]; exact z)
                  rw [List.getLast?_eq_getElem?, List.length_take, List.getElem?_take] at hlp
                  rw [if_pos (by omega)] at hlp
                  rw [show min i ps.length - 1 = i - 1 by omega] at hlp
                  exact hlp
                · exact k
              have stay : Below lp q → ps[i]? = some q := fun bw => by
                rcases hq with z | ⟨e1, p, hp1, nb1, k⟩
                · exact z
                · exfalso
                  rw [e1, List.take_length, hp1] at hlp
                  cases hlp
                  exact nb1 bw
              refine iteT ⟨_, rfl, _, rfl, D, vs, _, _, rfl, rfl, SqL.of hlD, at_last hlv, tt, _, 0, _, rfl, rfl, SqT.of ht, rfl, xa, da, _, rfl, hxa1, rfl, ?_⟩
              refine ⟨_, rfl, xa, .ref pa, lp.1, rfl, hxa, bl.1, .amt hA, .inl ⟨q.1, .obj hA, bq.1, fun He se => ?_⟩⟩
              refine ⟨_, _, rfl, rfl, _, rfl, ?_⟩
              rw [cmp_neg]
              by_cases b1 : lp.1 < q.1
              · rw [decide_eq_true b1]
                obtain ⟨db, hya1⟩ := hya.up se
                refine iteT ⟨_, rfl, _, rfl, D, vs, _, _, rfl, rfl, SqL.of (se _ _ hlD), at_last hlv, tt, _, 1, _, rfl, rfl, SqT.of (se _ _ ht), rfl, ya, db, _, rfl, hya1, rfl, ?_⟩
                refine ⟨_, rfl, ya, .ref pb, lp.2, rfl, hya.up se, bl.2, .amt (hB.up se), .inl ⟨q.2, .obj (hB.up se), bq.2, fun Hf sf => ?_⟩⟩
                refine ⟨_, _, rfl, rfl, _, rfl, ?_⟩
                rw [cmp_neg]
                by_cases b2 : lp.2 < q.2
                · rw [decide_eq_true b2]
                  exact iteF ⟨rfl, se.trans sf, stay ⟨b1, b2⟩⟩
                · rw [decide_eq_false b2]
                  exact iteT ⟨_, rfl, mk_at T.xc_Falling.oex T.xc_Falling.no (rf_of ((out fun z => b2 z.2).up (smD.trans (se.trans sf))))⟩
              · rw [decide_eq_false b1]
                exact iteF (iteT ⟨_, rfl, mk_at T.xc_Falling.oex T.xc_Falling.no (rf_of ((out fun z => b1 z.1).up (smD.trans se)))⟩)
          · rintro _ H3 ⟨rfl, s3, hqi⟩
            have hl3 := s3 _ _ hlD
            have hp3 := hpD.up s3
            have li : i < ps.length := (List.getElem?_eq_some_iff.mp hqi).1
            refine ⟨_, rfl, tyV_lst hl3, _, rfl, _, rfl, (by show 2 ≤ sizeLine; decide), fun tn htn => ?_⟩
            have s4 : Same H3 (upd H3 tn (.tup [.ref pa, .ref pb])) := AT.Same.up htn
            have hl4 := s4 _ _ hl3
            have lz := hpD.length
            rw [List.length_take] at lz
            refine ⟨D, vs, _, rfl, rfl, hl4, (by omega), ?_⟩
            have pn : Pt K (upd H3 tn (.tup [.ref pa, .ref pb])) (.ref tn) q := ⟨tn, pa, pb, rfl, upd_same, (hA.up s3).up s4, (hB.up s3).up s4⟩
            refine ⟨_, _, _, _, vs ++ [.ref tn], rfl, ?_, upd_same, li, ?_⟩
            · exact AT.Same.new (smD1.trans (s3.trans s4)) hD
            · rw [List.take_add_one, hqi]
              exact ((hp3.up s4).app pn).set hl4
        · have avA := av.up sm2
          have raise : ∀ Hb, Same Ha Hb → ∀ d, Hb d = none → E (.ref (He.ga K "InvalidPoint")) (some d) (upd Hb d (.xd [("value", y0)])) := fun Hb sb => rf_of (k.up (sm2.trans sb))
          refine ⟨_, rfl, y0, 2, rfl, avA, fun ys hy Hb sb => ?_, fun hn Hb sb => ?_⟩
          · rcases bad with hn | ⟨zs, hz, hz2⟩ | ⟨x1, x2, hz, a1, a2, na⟩
            · exact absurd ⟨ys, hy⟩ (noSq_up av hn sm2)
            · rw [← (hz.up sm2).inj hy, decide_eq_false hz2]
              exact ⟨_, rfl, iteT (iteT ⟨_, rfl, mk_at T.xc_InvalidPoint.oex T.xc_InvalidPoint.no (raise Hb sb)⟩)⟩
            · have hzA := hz.up sm2
              rw [← hzA.inj hy, decide_eq_true (show [x1, x2].length = 2 from rfl)]
              obtain ⟨b, rfl, hb⟩ := id hzA
              have hbB := hb.imp (sb _ _) (sb _ _)
              refine ⟨_, rfl, iteF ⟨_, rfl, b, _, 0, x1, rfl, rfl, hbB.imp SqL.of SqT.of, rfl, x1, rfl, a1.up (sm2.trans sb), fun y1 => ?_, fun _ => ?_⟩⟩
              · rcases na with na | ⟨_, na⟩
                · exact absurd y1 (noA_up a1 na (sm2.trans sb))
                · refine ⟨_, rfl, iteF ⟨_, rfl, b, _, 1, x2, rfl, rfl, hbB.imp SqL.of SqT.of, rfl, x2, rfl, a2.up (sm2.trans sb), fun y2 => absurd y2 (noA_up a2 na (sm2.trans sb)), fun _ => ?_⟩⟩
                  exact ⟨_, rfl, iteT ⟨_, rfl, mk_at T.xc_InvalidPoint.oex T.xc_InvalidPoint.no (raise Hb sb)⟩⟩
              · exact ⟨_, rfl, iteT (iteT ⟨_, rfl, mk_at T.xc_InvalidPoint.oex T.xc_InvalidPoint.no (raise Hb sb)⟩)⟩
          · exact ⟨_, rfl, iteT (iteT ⟨_, rfl, mk_at T.xc_InvalidPoint.oex T.xc_InvalidPoint.no (raise Hb sb)⟩)⟩
      · rintro σ' H' ⟨o2, o3, o4, o5, vs, rfl, sm, hl, hip, hp⟩
        have e : ps.length = xs.length := by
          rcases hend with ⟨e, _⟩ | ⟨_, z, _⟩ | ⟨_, _, _, z, _⟩
          · exact e
          · have := (List.getElem?_eq_some_iff.mp z).1; omega
          · have := (List.getElem?_eq_some_iff.mp z).1; omega
        rcases hend with ⟨_, k⟩ | ⟨_, z, _⟩ | ⟨_, _, _, z, _⟩
        · rw [← e, List.take_length] at hp
          exact ⟨_, rfl, k D vs H' (s1.trans sm) (none_of s1 hD) hl hp⟩
        · have := (List.getElem?_eq_some_iff.mp z).1; omega
        · have := (List.getElem?_eq_some_iff.mp z).1; omega
end
end K11

set_option maxHeartbeats 4000000
namespace K11
open PySem PySem.Spec PyProof.Rows L2 AT
section
variable {P : Program} {w : World} {K : PySem.W.Frag} {mg : Str → Option Value} {base : Heap}
def slopeQ (p q : Rat × Rat) : Rat := (q.2 - p.2) / (q.1 - p.1)
def spSlope (K : PySem.W.Frag) : Sp := fun vs H Q _ => ∃ v1 v2 p q, vs = [v1, v2] ∧ Pt K H v1 p ∧ Pt K H v2 q ∧ BitsP 1000 p ∧ BitsP 1000 q ∧ p.1 ≠ q.1 ∧ ∀ x H', Same H H' → H x = none → IsQ K H' x (slopeQ p q) → Q (.ref x) H'
theorem sc_slope : FnScope ["one", "other"] ["one", "other"] (defScope s_slope) := ⟨rfl, rfl, rfl, by decide +kernel, rfl, by decide +kernel, by decide +kernel⟩
theorem ok_slope (T : Tx K mg base) : Ok P w K mg base 8 (d_slope.loc K) ["one", "other"] (spSlope K) := by
  refine mk_ok (k := 7) T.f_slope sc_slope (fun _ _ _ _ _ _ us hl => match us, hl with | [_, _], _ => rfl) (fun vs H Q E h => ?_) (fun cdv A outer s H vs Q E hr h => ?_)
  · obtain ⟨v1, v2, p, q, rfl, _⟩ := h
    rfl
  · obtain ⟨v1, v2, p, q, rfl, h1, h2, b1, b2, hne, k⟩ := h
    refine ⟨_, (pss_one (ps_ret (ok_meth T.cls_Amount T.m_Amount_divided (ok_Amount_divided T) (hr.mono (by decide)) (passE rfl rfl rfl rfl) (pe_op (op_own T.op_Amount_sub (ok_Amount_sub_ T) (hr.mono (by decide)) (passE rfl rfl rfl rfl)) (pe_ix ix_tup (pv 1) pe_int (fun _ _ => rfl)) (pe_ix ix_tup (pv 0) pe_int (fun _ _ => rfl))) (pa_cons (pe_op (op_own T.op_Amount_sub (ok_Amount_sub_ T) (hr.mono (by decide)) (passE rfl rfl rfl rfl)) (pe_ix ix_tup (pv 1) pe_int (fun _ _ => rfl)) (pe_ix ix_tup (pv 0) pe_int (fun _ _ => rfl))) pa_nil)))), ?_⟩
    obtain ⟨t1, x1, y1, rfl, ht1, hx1, hy1⟩ := id h1
    obtain ⟨t2, x2, y2, rfl, ht2, hx2, hy2⟩ := id h2
    obtain ⟨e1, hy2'⟩ := id hy2
    have up : ∀ {q : Rat}, Bits 1000 q → Bits 3000 q := fun h => h.mono (by decide)
    have up2 : ∀ {q : Rat}, Bits 2001 q → Bits 3000 q := fun h => h.mono (by decide)
    refine ⟨_, rfl, t2, _, 1, _, rfl, rfl, SqT.of ht2, rfl, _, rfl, t1, _, 1, _, rfl, rfl, SqT.of ht1, rfl, y2, e1, _, _, rfl, hy2', T.ins_Amount (hy1.choose_spec), .inl rfl, ?_⟩
    refine ⟨y2, .ref y1, q.2, rfl, hy2, up b2.2, .amt hy1, .inl ⟨p.2, .obj hy1, up b1.2, fun u H1 s1 hu hU => ?_⟩⟩
    obtain ⟨du, hU'⟩ := id hU
    obtain ⟨e2, hx2'⟩ := hx2.up s1
    have bU : Bits 2001 (q.2 - p.2) := b2.2.sub b1.2
    refine ⟨u, du, _, rfl, hU', rfl, ?_⟩
    refine ⟨_, rfl, t2, _, 0, _, rfl, rfl, SqT.of (s1 _ _ ht2), rfl, _, rfl, t1, _, 0, _, rfl, rfl, SqT.of (s1 _ _ ht1), rfl, x2, e2, _, _, rfl, hx2', T.ins_Amount ((hx1.up s1).choose_spec), .inl rfl, ?_⟩
    refine ⟨x2, .ref x1, q.1, rfl, hx2.up s1, up b2.1, .amt (hx1.up s1), .inl ⟨p.1, .obj (hx1.up s1), up b1.1, fun z H2 s2 hz hZ => ?_⟩⟩
    have bZ : Bits 2001 (q.1 - p.1) := b2.1.sub b1.1
    have nz : q.1 - p.1 ≠ 0 := fun e => hne (by grind)
    refine ⟨u, .ref z, q.2 - p.2, rfl, hU.up s2, up2 bU, .amt hZ, .inl ⟨q.1 - p.1, .obj hZ, up2 bZ, nz, fun x H3 s3 hx hX => ?_⟩⟩
    exact k x H3 ((s1.trans s2).trans s3) (none_of (s1.trans s2) hx) hX
/-- amounts in a row -/
inductive Qs (K : PySem.W.Frag) (H : Hp) : List V → List Rat → Prop
  | nil : Qs K H [] []
  | cons {x : Addr} {q : Rat} {vs : List V} {qs : List Rat} : IsQ K H x q → Qs K H vs qs → Qs K H (.ref x :: vs) (q :: qs)
theorem Qs.up {H H' : Hp} {vs : List V} {qs : List Rat} (h : Qs K H vs qs) (s : Same H H') : Qs K H' vs qs := by
  induction h with
  | nil => exact .nil
  | cons a b ih => exact .cons (a.up s) ih
theorem Qs.app {H : Hp} {vs ws : List V} {qs rs : List Rat} (h : Qs K H vs qs) (g : Qs K H ws rs) : Qs K H (vs ++ ws) (qs ++ rs) := by
  induction h with
  | nil => exact g
  | cons a b ih => exact .cons a ih
theorem Qs.length {H : Hp} {vs : List V} {qs : List Rat} (h : Qs K H vs qs) : vs.length = qs.length := by
  induction h with
  | nil => rfl
  | cons a b ih => simp [ih]
theorem Qs.get {H : Hp} {vs : List V} {qs : List Rat} (h : Qs K H vs qs) : ∀ {i : Nat} {q : Rat}, qs[i]? = some q → ∃ x, vs[i]? = some (.ref x) ∧ IsQ K H x q := by
  induction h with
  | nil => intro i p e; simp at e
  | cons a b ih =>
    intro i p e
    cases i with
    | zero => simp at e; subst e; exact ⟨_, rfl, a⟩
    | succ i => simpa using ih (by simpa using e)
theorem Qs.set {H : Hp} {vs : List V} {qs : List Rat} {D : Addr} {ys zs : List V} (h : Qs K H vs qs) (hD : H D = some (.lst ys)) : Qs K (upd H D (.lst zs)) vs qs := by
  induction h with
  | nil => exact .nil
  | cons a b ih =>
    obtain ⟨d, e⟩ := a
    refine .cons ⟨d, ?_⟩ ih
    rw [upd_ne (by rintro rfl; rw [e] at hD; cases hD)]
    exact e
def slopes (ps : List (Rat × Rat)) : List Rat := List.zipWith slopeQ ps ps.tail
theorem cut_tail (ws : List V) : cutV ws (some 1) none = ws.tail := by
  unfold cutV
  rw [show (some (1 : Int)) = some ((1 : Nat) : Int) from rfl, HT.sIx_nat, HT.sIx_none]
  cases ws with
  | nil => rfl
  | cons x l =>
    rw [show min 1 (x :: l).length = 1 by simp]
    simp
theorem no_whole {ws : List V} (h : 0 < ws.length) : ¬ (HT.sIx ws.length 0 (some 1) = 0 ∧ HT.sIx ws.length ws.length none = ws.length) := by
  rw [show (some (1 : Int)) = some ((1 : Nat) : Int) from rfl, HT.sIx_nat]
  omega
theorem Pts.at {H : Hp} {vs : List V} {ps : List (Rat × Rat)} (h : Pts K H vs ps) {i : Nat} {v : V} (hv : vs[i]? = some v) : ∃ p, ps[i]? = some p ∧ Pt K H v p := by
  have li : i < ps.length := by rw [← h.length]; exact (List.getElem?_eq_some_iff.mp hv).1
  obtain ⟨v', e, pt⟩ := h.get (List.getElem?_eq_getElem li)
  rw [hv] at e
  cases e
  exact ⟨_, List.getElem?_eq_getElem li, pt⟩
theorem slopes_at {ps : List (Rat × Rat)} {i : Nat} {p q : Rat × Rat} (h1 : ps[i]? = some p) (h2 : ps[i + 1]? = some q) : (slopes ps)[i]? = some (slopeQ p q) := by
  unfold slopes
  rw [List.getElem?_zipWith, h1, List.getElem?_tail, h2]
def spPaces (K : PySem.W.Frag) : Sp := fun vs H Q _ => ∃ (a : Addr) (ws : List V) (b : Bool) (ps : List (Rat × Rat)), vs = [.ref a] ∧ H a = some (mkS ws b) ∧ Pts K H ws ps ∧ ps.length < 1000 ∧ (b = false → ps ≠ []) ∧ Rising ps ∧ (∀ p ∈ ps, BitsP 1000 p) ∧
  ∀ D us H', Same H H' → H D = none → H' D = some (.lst us) → Qs K H' us ([1] ++ slopes ps ++ [1]) → Q (.ref D) H'
theorem sc_paces : FnScope ["points", "one", "other", "between"] ["points"] (defScope s_paces) := ⟨rfl, rfl, rfl, by decide +kernel, rfl, by decide +kernel, by decide +kernel⟩
theorem ok_paces (T : Tx K mg base) : Ok P w K mg base 9 (d_paces.loc K) ["points"] (spPaces K) := by
  refine mk_ok (k := 8) T.f_paces sc_paces (fun _ _ _ _ _ _ us hl => match us, hl with | [_], _ => rfl) (fun vs H Q E h => ?_) (fun cdv A outer s H vs Q E hr h => ?_)
  · obtain ⟨a, ws, b, ps, rfl, _⟩ := h
    rfl
  · obtain ⟨a, ws, b, ps, rfl, ha, hp, hlen, hb, hris, hbits, k⟩ := h
    refine ⟨_, (pss_cons (ps_setLc (i := 3) (own := [("one", 1), ("other", 2)]) (g := (gTup K 2 (gCons (gName 1) (gCons (gName 2) gNil)))) (tt := tYes) (by rfl) sc_paces.nd rfl rfl (sw_true rfl rfl rfl (by decide +kernel)) (RZ.pi_zipA (by rfl) T.b_zip (pa_cons (pv 0) (pa_cons (pe_slice sl_sq (pv 0) (po_some pe_int) po_none) pa_nil))) (blkOk_by (own := [("one", 1), ("other", 2)]) (N := ["points", "one", "other", "between"]) (sc := defScope s_paces) (by decide +kernel)) (fun _ _ _ _ _ => (pg_tup rfl (pgs_cons (pg_name (i := 1) sc_paces.nd rfl (Or.inl rfl)) (pgs_cons (pg_name (i := 2) sc_paces.nd rfl (Or.inl rfl)) pgs_nil)))) (fun _ _ _ _ _ => pts_nil) (fun _ _ _ _ _ => (ok_call (ok_slope T) (hr.mono (by decide)) rfl T.g_slope passL (pa_cons (pv 1) (pa_cons (pv 2) pa_nil)))))
      (pss_one (ps_ret (pe_op op_cat (pe_op op_cat (pe_lst (pa_cons (ok_makeD T.mkr_Amount (okd_Amount_init_ T) (hr.mono (by decide)) rfl T.g_Amount (passE rfl rfl rfl rfl) (pa_cons (pe_k T.c_ONE) pa_nil)) pa_nil)) (pv 3)) (pe_lst (pa_cons (ok_makeD T.mkr_Amount (okd_Amount_init_ T) (hr.mono (by decide)) rfl T.g_Amount (passE rfl rfl rfl rfl) (pa_cons (pe_k T.c_ONE) pa_nil)) pa_nil)))))), ?_⟩
    have hl := hp.length
    refine ⟨_, rfl, _, rfl, 1, rfl, a, ws, b, rfl, SqB.of ha, (fun e => no_whole (by rw [hl]; exact List.length_pos_iff.mpr (hb e))), fun p hpn => ?_⟩
    rw [cut_tail]
    have s0 : Same H (upd H p (mkS ws.tail b)) := AT.Same.up hpn
    have ha1 := s0 _ _ ha
    have hp1 : upd H p (mkS ws.tail b) p = some (mkS ws.tail b) := upd_same
    generalize upd H p (mkS ws.tail b) = H1 at s0 ha1 hp1 ⊢
    have sl : (slopes ps).length = ws.length - 1 := by
      unfold slopes
      rw [List.length_zipWith, List.length_tail, hl]
      omega
    have hn : ws.length - 1 = min ws.length ws.tail.length := by rw [List.length_tail]; omega
    have two : (SqL K H1 a ws ∧ SqL K H1 p ws.tail) ∨ (SqT K H1 a ws ∧ SqT K H1 p ws.tail) := by
      cases b with
      | true => exact .inl ⟨SqL.of ha1, SqL.of hp1⟩
      | false => exact .inr ⟨SqT.of ha1, SqT.of hp1⟩
    have fin : ∀ (D : Addr) (us : List V) (H' : Hp), Same H1 H' → H1 D = none → H' D = some (.lst us) → Qs K H' us (slopes ps) →
        tRet (tOp rCat (tOp rCat (tLst (tCons (tMake (He.ga K "Amount") (spAmt K) [.int 1] E (tCons (tC (.int 1)) tNil)) tNil)) (tVar 3)) (tLst (tCons (tMake (He.ga K "Amount") (spAmt K) [.int 1] E (tCons (tC (.int 1)) tNil)) tNil))) { nx := fun x H' => Q V.non H', rt := Q } ([some (.ref a), none, none, some (.ref D)] : L2.St) H' := by
      intro D us H' sm hD hl1 hq
      have lu := hq.length
      refine fun x dx hx hdx hne => ⟨x, dx, _, _, rfl, upd_same, .int _, .int _, .inl ⟨1, 1, rfl, rfl, by decide, by decide +kernel, rfl, ?_⟩⟩
      have sA : Same H' (upd (upd (upd H' dx (.own x)) x (.ins (cA K) dx [])) x (.ins (cA K) dx (amtQ (Rat.divInt 1 1)))) := made_same hx hdx
      have hX : IsQ K (upd (upd (upd H' dx (.own x)) x (.ins (cA K) dx [])) x (.ins (cA K) dx (amtQ (Rat.divInt 1 1)))) x (1 : Rat) := ⟨dx, by rw [upd_same, q_int]; rfl⟩
      generalize upd (upd (upd H' dx (.own x)) x (.ins (cA K) dx [])) x (.ins (cA K) dx (amtQ (Rat.divInt 1 1))) = HA at sA hX ⊢
      refine ⟨(by show 1 ≤ sizeLine; decide), fun q1 hq1 => ?_⟩
      have sB := AT.Same.up (o := .lst [.ref x]) hq1
      refine ⟨_, rfl, q1, D, _, _, rfl, rfl, upd_same, sB _ _ (sA _ _ hl1), (by rw [sizeLine_eq]; show 1 + _ ≤ _; omega), fun r hr => ?_⟩
      have sC := AT.Same.up (o := .lst ([.ref x] ++ us)) hr
      refine fun y dy hy hdy hne2 => ⟨y, dy, _, _, rfl, upd_same, .int _, .int _, .inl ⟨1, 1, rfl, rfl, by decide, by decide +kernel, rfl, ?_⟩⟩
      have sD := made_same (o1 := .ins (cA K) dy []) (o2 := .ins (cA K) dy (amtQ (Rat.divInt 1 1))) hy hdy
      have hY : IsQ K (upd (upd (upd (upd (upd HA q1 (.lst [.ref x])) r (.lst ([.ref x] ++ us))) dy (.own y)) y (.ins (cA K) dy [])) y (.ins (cA K) dy (amtQ (Rat.divInt 1 1)))) y (1 : Rat) := ⟨dy, by rw [upd_same, q_int]; rfl⟩
      refine ⟨(by show 1 ≤ sizeLine; decide), fun q2 hq2 => ?_⟩
      have sE := AT.Same.up (o := .lst [.ref y]) hq2
      refine ⟨r, q2, _, _, rfl, rfl, sE _ _ (sD _ _ upd_same), upd_same, (by rw [sizeLine_eq, List.length_append]; show 1 + _ + 1 ≤ _; omega), fun z hz => ?_⟩
      have sF := AT.Same.up (o := .lst ([.ref x] ++ us ++ [.ref y])) hz
      have all : Same H' _ := (((sA.trans sB).trans sC).trans sD).trans (sE.trans sF)
      have back : Same HA _ := ((sB.trans sC).trans sD).trans (sE.trans sF)
      refine k z _ _ ((s0.trans sm).trans all) (none_of ((s0.trans sm).trans ((((sA.trans sB).trans sC).trans sD).trans sE)) hz) upd_same ?_
      exact ((Qs.cons (hX.up back) .nil).app (hq.up all)).app (.cons ((hY.up sE).up sF) .nil)
    refine ⟨a, p, ws, ws.tail, rfl, two.imp (fun z => ⟨z.1, z.2, fun D hD => ?_⟩) (fun z => ⟨z.1, z.2, fun D hD => ?_⟩)⟩
    · refine lc_it (walk_zip hn) (fun i H' => ∃ us, Same H1 H' ∧ H' D = some (.lst us) ∧ Qs K H' us ((slopes ps).take i)) ⟨[], AT.Same.up hD, upd_same, .nil⟩ (fun i H' hi ⟨us, sm, hl1, hq⟩ => ⟨AT.Same.sql sm z.1, AT.Same.sql sm z.2⟩) (fun i x H' H2 hi ⟨us, sm, hl1, hq⟩ ⟨Tp, x0, y0, e1, hTp, e2, hx0, hy0⟩ => ?_) (fun H' ⟨us, sm, hl1, hq⟩ => ?_)
      · subst e1 e2
        have hx0 : ws[i]? = some x0 := hx0
        have hy0 : ws[i + 1]? = some y0 := by
          have z : ws.tail[i]? = some y0 := hy0
          rw [List.getElem?_tail] at z
          exact z
        have s2 := sm.trans (AT.Same.up (o := .tup [x0, y0]) hTp)
        obtain ⟨p1, ep, pt1⟩ := hp.at hx0
        obtain ⟨p2, eq, pt2⟩ := hp.at hy0
        have bw := Rising.step hris ep eq
        refine ⟨Tp, _, rfl, SqT.of upd_same, rfl, _, _, rfl, _, _, rfl, rfl, rfl, ?_⟩
        dsimp only [tYes]
        refine iteT ⟨_, rfl, _, rfl, x0, y0, p1, p2, rfl, (pt1.up s0).up s2, (pt2.up s0).up s2, hbits _ (List.mem_of_getElem? ep), hbits _ (List.mem_of_getElem? eq), (by have := bw.1; grind), fun u H3 s3 hu hU => ?_⟩
        have hl3 := s3 _ _ ((AT.Same.up (o := .tup [x0, y0]) hTp) _ _ hl1)
        have hq3 := (hq.up (AT.Same.up (o := .tup [x0, y0]) hTp)).up s3
        have lu := hq.length
        rw [List.length_take] at lu
        refine ⟨us, hl3, (by rw [sizeLine_eq]; omega), us ++ [.ref u], AT.Same.new (s2.trans s3) hD, upd_same, ?_⟩
        rw [List.take_add_one, slopes_at ep eq]
        exact (hq3.app (.cons hU .nil)).set hl3
      · rw [← sl, List.take_length] at hq
        exact fin D us H' sm hD hl1 hq
    · refine lc_it (walk_zipT hn) (fun i H' => ∃ us, Same H1 H' ∧ H' D = some (.lst us) ∧ Qs K H' us ((slopes ps).take i)) ⟨[], AT.Same.up hD, upd_same, .nil⟩ (fun i H' hi ⟨us, sm, hl1, hq⟩ => ⟨AT.Same.tup sm z.1, AT.Same.tup sm z.2⟩) (fun i x H' H2 hi ⟨us, sm, hl1, hq⟩ ⟨Tp, x0, y0, e1, hTp, e2, hx0, hy0⟩ => ?_) (fun H' ⟨us, sm, hl1, hq⟩ => ?_)
      · subst e1 e2
        have hx0 : ws[i]? = some x0 := hx0
        have hy0 : ws[i + 1]? = some y0 := by
          have z : ws.tail[i]? = some y0 := hy0
          rw [List.getElem?_tail] at z
          exact z
        have s2 := sm.trans (AT.Same.up (o := .tup [x0, y0]) hTp)
        obtain ⟨p1, ep, pt1⟩ := hp.at hx0
        obtain ⟨p2, eq, pt2⟩ := hp.at hy0
        have bw := Rising.step hris ep eq
        refine ⟨Tp, _, rfl, SqT.of upd_same, rfl, _, _, rfl, _, _, rfl, rfl, rfl, ?_⟩
        dsimp only [tYes]
        refine iteT ⟨_, rfl, _, rfl, x0, y0, p1, p2, rfl, (pt1.up s0).up s2, (pt2.up s0).up s2, hbits _ (List.mem_of_getElem? ep), hbits _ (List.mem_of_getElem? eq), (by have := bw.1; grind), fun u H3 s3 hu hU => ?_⟩
        have hl3 := s3 _ _ ((AT.Same.up (o := .tup [x0, y0]) hTp) _ _ hl1)
        have hq3 := (hq.up (AT.Same.up (o := .tup [x0, y0]) hTp)).up s3
        have lu := hq.length
        rw [List.length_take] at lu
        refine ⟨us, hl3, (by rw [sizeLine_eq]; omega), us ++ [.ref u], AT.Same.new (s2.trans s3) hD, upd_same, ?_⟩
        rw [List.take_add_one, slopes_at ep eq]
        exact (hq3.app (.cons hU .nil)).set hl3
      · rw [← sl, List.take_length] at hq
        exact fin D us H' sm hD hl1 hq
end
end K11

set_option maxHeartbeats 4000000
namespace K11
open PySem PySem.Spec PyProof.Rows L2 AT
section
variable {P : Program} {w : World} {K : PySem.W.Frag} {mg : Str → Option Value} {base : Heap}
/-- a coordinate: the beat (0), the second (1) -/
def crd (c : Bool) (p : Rat × Rat) : Rat := if c then p.2 else p.1
def cInt (c : Bool) : Int := if c then 1 else 0
/-- the places of the points that do not lie above v -/
def aheadQ (ps : List (Rat × Rat)) (c : Bool) (v : Rat) (n : Nat) : List Nat := (List.range n).filter fun i => match ps[i]? with
  | some p => decide (crd c p ≤ v)
  | none => false
def ledQ (ps : List (Rat × Rat)) (v : Rat) (h t : Bool) : Rat := match ps with
  | [] => v
  | p0 :: _ => match (aheadQ ps h v ps.length).getLast? with
    | none => crd t p0 + (v - crd h p0)
    | some l => match ps[l]?, ps[l + 1]? with
      | some p, none => crd t p + (v - crd h p)
      | some p, some q => crd t p + (v - crd h p) / (crd h q - crd h p) * (crd t q - crd t p)
      | _, _ => 0
theorem Pt.crd {H : Hp} {t : V} {p : Rat × Rat} (h : Pt K H t p) (c : Bool) : ∃ a xs x, t = .ref a ∧ H a = some (.tup xs) ∧ atI xs (cInt c) = some (.ref x) ∧ IsQ K H x (crd c p) := by
  obtain ⟨a, x, y, e, h1, h2, h3⟩ := h
  cases c with
  | true => exact ⟨a, _, y, e, h1, rfl, h3⟩
  | false => exact ⟨a, _, x, e, h1, rfl, h2⟩
theorem BitsP.crd {k : Nat} {p : Rat × Rat} (h : BitsP k p) (c : Bool) : Bits k (crd c p) := by
  cases c with
  | true => exact h.2
  | false => exact h.1
theorem ahead_step (ps : List (Rat × Rat)) (c : Bool) (v : Rat) {i : Nat} {p : Rat × Rat} (h : ps[i]? = some p) : aheadQ ps c v (i + 1) = aheadQ ps c v i ++ (if crd c p ≤ v then [i] else []) := by
  unfold aheadQ
  rw [List.range_succ, List.filter_append]
  congr 1
  by_cases z : crd c p ≤ v
  · simp [List.filter, h, z]
  · simp [List.filter, h, z]
theorem cmp_le (x y : Rat) : decide (cmpQ x y ≤ 0) = decide (x ≤ y) := by
  unfold cmpQ
  by_cases h : y < x
  · have h2 : ¬ x < y := by grind
    have h3 : ¬ x ≤ y := by grind
    simp [h, h2, h3]
  · have h3 : x ≤ y := by grind
    simp [h, h3]
    split <;> decide
def spLed (K : PySem.W.Frag) : Sp := fun vs H Q _ => ∃ (a : Addr) (ws : List V) (b : Bool) (ps : List (Rat × Rat)) (x : Addr) (v : Rat) (h t : Bool), vs = [.ref a, .ref x, .int (cInt h), .int (cInt t)] ∧ H a = some (mkS ws b) ∧ Pts K H ws ps ∧ ps.length < 1000 ∧ Rising ps ∧ (∀ p ∈ ps, BitsP 400 p) ∧ IsQ K H x v ∧ Bits 400 v ∧
  ∀ r H', Same H H' → IsQ K H' r (ledQ ps v h t) → Q (.ref r) H'
theorem sc_led : FnScope ["points", "value", "here", "there", "at", "point", "ahead", "last", "one", "other", "part"] ["points", "value", "here", "there"] (defScope s_led) := ⟨rfl, rfl, rfl, by decide +kernel, rfl, by decide +kernel, by decide +kernel⟩
theorem ok_led (T : Tx K mg base) : Ok P w K mg base 9 (d_led.loc K) ["points", "value", "here", "there"] (spLed K) := by
  refine mk_ok (k := 8) T.f_led sc_led (fun _ _ _ _ _ _ us hl => match us, hl with | [_, _, _, _], _ => rfl) (fun vs H Q E h => ?_) (fun cdv A outer s H vs Q E hr h => ?_)
  · obtain ⟨a, ws, b, ps, x, v, h, t, rfl, _⟩ := h
    rfl
  · obtain ⟨a, ws, b, ps, x, v, hh, tt, rfl, ha, hp, hlen, hris, hbits, hx, bv, k⟩ := h
    refine ⟨_, (pss_cons (ps_if (pt_not (pt_truth (pv 0) (by intro _; rfl))) (pss_one (ps_ret (pv 1))) pss_nil)
      (pss_cons (ps_setLc (i := 6) (own := [("at", 4), ("point", 5)]) (g := (gTup K 2 (gCons (gName 4) (gCons (gName 5) gNil)))) (by rfl) sc_led.nd rfl rfl (sw_true rfl rfl rfl (by decide +kernel)) (pi_enumA (by rfl) T.b_enumerate (pa_cons (pv 0) pa_nil)) (blkOk_by (own := [("at", 4), ("point", 5)]) (N := ["points", "value", "here", "there", "at", "point", "ahead", "last", "one", "other", "part"]) (sc := defScope s_led) (by decide +kernel)) (fun _ _ _ _ _ => (pg_tup rfl (pgs_cons (pg_name (i := 4) sc_led.nd rfl (Or.inl rfl)) (pgs_cons (pg_name (i := 5) sc_led.nd rfl (Or.inl rfl)) pgs_nil)))) (fun _ _ _ _ _ => (pts_one (pt_cmpR op_le (ok_meth T.cls_Amount T.m_Amount_compare (ok_Amount_compare T) (hr.mono (by decide)) passL (pe_ix (show IxR _ (rIxT K) from ix_tup) (pv 5) (pv 2) (fun _ _ => rfl)) (pa_cons (pv 1) pa_nil)) pe_int (nomark _)))) (fun _ _ _ _ _ => (pv 4)))
      (pss_cons (ps_if (pt_not (pt_truth (pv 6) (by intro _; rfl))) (pss_one (ps_ret (pe_op (op_own T.op_Amount_add (ok_Amount_add_ T) (hr.mono (by decide)) (passE rfl rfl rfl rfl)) (pe_ix ix_tup (pe_ix ix_sq (pv 0) pe_int (fun _ _ => rfl)) (pv 3) (fun _ _ => rfl)) (pe_op (op_own T.op_Amount_sub (ok_Amount_sub_ T) (hr.mono (by decide)) (passE rfl rfl rfl rfl)) (pv 1) (pe_ix ix_tup (pe_ix ix_sq (pv 0) pe_int (fun _ _ => rfl)) (pv 2) (fun _ _ => rfl)))))) pss_nil)
      (pss_cons (ps_set (i := 7) sc_led.nd rfl (Or.inl rfl) (pe_ix ix_list (pv 6) (pe_un un_neg pe_int) (fun _ _ => rfl)))
      (pss_cons (ps_if (pt_cmpR op_eq (pe_op op_add (pv 7) pe_int) (pe_callB call_len_seq (by rfl) T.b_len (by decide +kernel) (pa_cons (pv 0) pa_nil)) (nomark _)) (pss_one (ps_ret (pe_op (op_own T.op_Amount_add (ok_Amount_add_ T) (hr.mono (by decide)) (passE rfl rfl rfl rfl)) (pe_ix ix_tup (pe_ix ix_sq (pv 0) (pv 7) (fun _ _ => rfl)) (pv 3) (fun _ _ => rfl)) (pe_op (op_own T.op_Amount_sub (ok_Amount_sub_ T) (hr.mono (by decide)) (passE rfl rfl rfl rfl)) (pv 1) (pe_ix ix_tup (pe_ix ix_sq (pv 0) (pv 7) (fun _ _ => rfl)) (pv 2) (fun _ _ => rfl)))))) pss_nil)
      (pss_cons (ps_par (by rfl) sc_led.nd (i := 8) (j := 9) rfl rfl (by decide) rfl rfl (pa_cons (pe_ix ix_sq (pv 0) (pv 7) (fun _ _ => rfl)) (pa_cons (pe_ix ix_sq (pv 0) (pe_op op_add (pv 7) pe_int) (fun _ _ => rfl)) pa_nil)) (by rfl))
      (pss_cons (ps_set (i := 10) sc_led.nd rfl (Or.inl rfl) (ok_meth T.cls_Amount T.m_Amount_divided (ok_Amount_divided T) (hr.mono (by decide)) (passE rfl rfl rfl rfl) (pe_op (op_own T.op_Amount_sub (ok_Amount_sub_ T) (hr.mono (by decide)) (passE rfl rfl rfl rfl)) (pv 1) (pe_ix ix_tup (pv 8) (pv 2) (fun _ _ => rfl))) (pa_cons (pe_op (op_own T.op_Amount_sub (ok_Amount_sub_ T) (hr.mono (by decide)) (passE rfl rfl rfl rfl)) (pe_ix ix_tup (pv 9) (pv 2) (fun _ _ => rfl)) (pe_ix ix_tup (pv 8) (pv 2) (fun _ _ => rfl))) pa_nil)))
      (pss_one (ps_ret (pe_op (op_own T.op_Amount_add (ok_Amount_add_ T) (hr.mono (by decide)) (passE rfl rfl rfl rfl)) (pe_ix ix_tup (pv 8) (pv 3) (fun _ _ => rfl)) (pe_op (op_own T.op_Amount_mul (ok_Amount_mul_ T) (hr.mono (by decide)) (passE rfl rfl rfl rfl)) (pv 10) (pe_op (op_own T.op_Amount_sub (ok_Amount_sub_ T) (hr.mono (by decide)) (passE rfl rfl rfl rfl)) (pe_ix ix_tup (pv 9) (pv 3) (fun _ _ => rfl)) (pe_ix ix_tup (pv 8) (pv 3) (fun _ _ => rfl)))))))))))))), ?_⟩
    have hl := hp.length
    refine ⟨_, rfl, !ws.isEmpty, ?_, ?_⟩
    · cases b with
      | true => exact .inl ⟨ws, SqL.of ha, rfl⟩
      | false => exact .inr (.inl ⟨ws, SqT.of ha, rfl⟩)
    cases hw : ws.isEmpty with
    | true =>
      have e0 : ws = [] := by simpa using hw
      have e1 : ps = [] := List.length_eq_zero_iff.mp (by rw [← hl, e0]; rfl)
      refine iteT ⟨_, rfl, k x H (Same.refl _) ?_⟩
      rw [e1]
      exact hx
    | false =>
      have e0 : ws ≠ [] := by rintro rfl; simp at hw
      refine iteF ⟨_, rfl, a, ws, rfl, (SqB.of ha).or, fun J hJ D hD => ?_⟩
      obtain ⟨G, wk, hG⟩ := en_walk hJ
      have hHa : ∀ H', Same H H' → H' a = H a := fun H' s => by rw [s _ _ ha, ha]
      have up : ∀ {q : Rat}, Bits 400 q → Bits 3000 q := fun h => h.mono (by decide)
      have hsz : sizeLine = 16777216 := sizeLine_eq
      refine lc_it wk (fun i H' => Same H H' ∧ H' D = some (.lst ((aheadQ ps hh v i).map fun j => V.int (j : Nat)))) ⟨AT.Same.up hD, upd_same⟩ (fun i H' hi hP => hG _ (hHa _ hP.1)) (fun i z H' H2 hi hP hY => ?_) (fun H' hP => ?_)
      · obtain ⟨sm, hl1⟩ := hP
        obtain ⟨Tp, x0, y0, rfl, hTp, rfl, e1, hy0⟩ := hY
        cases e1
        have hy0 : ws[i]? = some y0 := hy0
        have s2 := AT.Same.up (o := .tup [.int (i : Nat), y0]) hTp
        obtain ⟨p1, ep, pt1⟩ := hp.at hy0
        obtain ⟨aa, xs, xc, rfl, haa, hat, hxc⟩ := ((pt1.up sm).up s2).crd hh
        obtain ⟨dc, hxc'⟩ := id hxc
        refine ⟨Tp, _, rfl, SqT.of upd_same, rfl, _, _, rfl, _, _, rfl, rfl, rfl, ?_⟩
        refine ⟨_, rfl, _, rfl, aa, xs, _, _, rfl, rfl, SqT.of haa, hat, xc, dc, _, rfl, hxc', rfl, _, rfl, xc, .ref x, _, rfl, hxc, up ((hbits _ (List.mem_of_getElem? ep)).crd hh), .amt ((hx.up sm).up s2), .inl ⟨v, .obj ((hx.up sm).up s2), up bv, fun H3 s3 => ?_⟩⟩
        refine ⟨_, _, rfl, rfl, _, rfl, ?_⟩
        rw [cmp_le]
        have hl3 := s3 _ _ (s2 _ _ hl1)
        have st := ahead_step ps hh v ep
        by_cases c : crd hh p1 ≤ v
        · rw [decide_eq_true c]
          rw [if_pos c] at st
          have ln : (aheadQ ps hh v i).length ≤ i := by
            unfold aheadQ
            exact Nat.le_trans (List.length_filter_le _ _) (by rw [List.length_range]; exact Nat.le_refl _)
          refine iteT ⟨_, rfl, _, hl3, (by rw [List.length_map]; omega), AT.Same.new ((sm.trans s2).trans s3) hD, ?_⟩
          rw [upd_same, st, List.map_append]
          rfl
        · rw [decide_eq_false c]
          rw [if_neg c, List.append_nil] at st
          refine iteF ⟨(sm.trans s2).trans s3, ?_⟩
          rw [st]
          exact hl3
      · obtain ⟨sm, hl1⟩ := hP
        rw [hl] at hl1
        have ha1 := sm _ _ ha
        have sq1 := (SqB.of (K := K) ha1).or
        obtain ⟨dx, hx1⟩ := hx.up sm
        refine ⟨_, rfl, _, .inl ⟨_, SqL.of hl1, rfl⟩, ?_⟩
        have get : ∀ {i : Nat} {p : Rat × Rat} (c : Bool), ps[i]? = some p → ∃ aa xs xc dc, ws[i]? = some (.ref aa) ∧ H' aa = some (.tup xs) ∧ atI xs (cInt c) = some (.ref xc) ∧ H' xc = some (.ins (cA K) dc (amtQ (crd c p))) := by
          intro i p c e
          obtain ⟨v0, ew, pt⟩ := hp.get e
          obtain ⟨aa, xs, xc, rfl, h1, h2, dc, h3⟩ := (pt.up sm).crd c
          exact ⟨aa, xs, xc, dc, ew, h1, h2, h3⟩
        obtain ⟨p0, ps', rfl⟩ : ∃ p0 ps', ps = p0 :: ps' := by
          cases ps with
          | nil => exact absurd (List.length_eq_zero_iff.mp (by rw [hl]; rfl)) e0
          | cons p r => exact ⟨p, r, rfl⟩
        cases hg : (aheadQ (p0 :: ps') hh v (p0 :: ps').length).getLast? with
        | none =>
          have e1 : aheadQ (p0 :: ps') hh v (p0 :: ps').length = [] := by simpa using hg
          rw [e1]
          obtain ⟨ta, txs, tx, td, ew, h1, h2, h3⟩ := get (i := 0) tt rfl
          obtain ⟨ha_, hxs, hxx, hd, ew', g1, g2, g3⟩ := get (i := 0) hh rfl
          have b0 := hbits p0 (List.mem_cons_self)
          refine iteT ⟨_, rfl, a, ws, 0, _, rfl, rfl, sq1, atI_nat ew, _, rfl, ta, txs, _, _, rfl, rfl, SqT.of h1, h2, _, rfl, _, rfl, a, ws, 0, _, rfl, rfl, sq1, atI_nat ew', _, rfl, ha_, hxs, _, _, rfl, rfl, SqT.of g1, g2, x, dx, _, _, rfl, hx1, T.ins_Amount g3, .inl rfl, ?_⟩
          refine ⟨x, .ref hxx, v, rfl, ⟨dx, hx1⟩, up bv, .amt ⟨hd, g3⟩, .inl ⟨_, .obj ⟨hd, g3⟩, up (b0.crd hh), fun u H3 s3 hu hU => ?_⟩⟩
          obtain ⟨du, hU'⟩ := id hU
          refine ⟨tx, td, _, _, rfl, s3 _ _ h3, T.ins_Amount hU', .inl rfl, tx, .ref u, _, rfl, ⟨td, s3 _ _ h3⟩, up (b0.crd tt), .amt hU, .inl ⟨_, .obj hU, (bv.sub (b0.crd hh)).mono (by decide), fun r H4 s4 hr hR => ?_⟩⟩
          refine k r H4 ((sm.trans s3).trans s4) ?_
          have e2 : ledQ (p0 :: ps') v hh tt = crd tt p0 + (v - crd hh p0) := by
            unfold ledQ
            simp only [hg]
          rw [e2]
          exact hR
        | some l =>
          have ml := List.mem_of_getLast? hg
          have ll : l < (p0 :: ps').length := by
            unfold aheadQ at ml
            exact List.mem_range.mp (List.mem_filter.mp ml).1
          have ep : (p0 :: ps')[l]? = some (p0 :: ps')[l] := List.getElem?_eq_getElem ll
          generalize hpl : (p0 :: ps')[l] = p at ep
          have ne : ((aheadQ (p0 :: ps') hh v (p0 :: ps').length).map fun j => V.int (j : Nat)).isEmpty = false := by
            cases z : aheadQ (p0 :: ps') hh v (p0 :: ps').length with
            | nil => rw [z] at ml; cases ml
            | cons _ _ => rfl
          rw [ne]
          have bp := hbits p (List.mem_of_getElem? ep)
          refine iteF ⟨_, rfl, _, rfl, D, _, _, .int (l : Nat), rfl, rfl, SqL.of hl1, at_last (by rw [List.getLast?_map, hg]; rfl), ?_⟩
          refine ⟨_, rfl, _, _, rfl, rfl, _, rfl, a, ws, rfl, sq1, rfl, _, rfl, ?_⟩
          obtain ⟨ta, txs, tx, td, ew, h1, h2, h3⟩ := get tt ep
          obtain ⟨ha_, hxs, hxx, hd, ew', g1, g2, g3⟩ := get hh ep
          have same : V.ref ha_ = V.ref ta := by
            rw [ew] at ew'
            exact (Option.some.inj ew').symm
          by_cases c : l + 1 = ws.length
          · rw [decide_eq_true (show V.int ((l : Nat) + 1 : Int) = V.int (ws.length : Nat) by rw [← c]; rfl)]
            refine iteT ⟨_, rfl, _, rfl, a, ws, _, _, rfl, rfl, sq1, atI_nat ew, _, rfl, ta, txs, _, _, rfl, rfl, SqT.of h1, h2, _, rfl, _, rfl, _, rfl, a, ws, _, _, rfl, rfl, sq1, atI_nat ew', _, rfl, ha_, hxs, _, _, rfl, rfl, SqT.of g1, g2, x, dx, _, _, rfl, hx1, T.ins_Amount g3, .inl rfl, ?_⟩
            refine ⟨x, .ref hxx, v, rfl, ⟨dx, hx1⟩, up bv, .amt ⟨hd, g3⟩, .inl ⟨_, .obj ⟨hd, g3⟩, up (bp.crd hh), fun u H3 s3 hu hU => ?_⟩⟩
            obtain ⟨du, hU'⟩ := id hU
            refine ⟨tx, td, _, _, rfl, s3 _ _ h3, T.ins_Amount hU', .inl rfl, tx, .ref u, _, rfl, ⟨td, s3 _ _ h3⟩, up (bp.crd tt), .amt hU, .inl ⟨_, .obj hU, (bv.sub (bp.crd hh)).mono (by decide), fun r H4 s4 hr hR => ?_⟩⟩
            refine k r H4 ((sm.trans s3).trans s4) ?_
            have en : (p0 :: ps')[l + 1]? = none := List.getElem?_eq_none (by omega)
            have e2 : ledQ (p0 :: ps') v hh tt = crd tt p + (v - crd hh p) := by
              unfold ledQ
              simp only [hg, ep, en]
            rw [e2]
            exact hR
          · rw [decide_eq_false (show ¬ V.int ((l : Nat) + 1 : Int) = V.int (ws.length : Nat) from fun z => c (by have := V.int.inj z; omega))]
            have l2 : l + 1 < (p0 :: ps').length := by omega
            have eq : (p0 :: ps')[l + 1]? = some (p0 :: ps')[l + 1] := List.getElem?_eq_getElem l2
            generalize hql : (p0 :: ps')[l + 1] = q at eq
            have bq := hbits q (List.mem_of_getElem? eq)
            obtain ⟨ua, uxs, ux, ud, ev, i1, i2, i3⟩ := get tt eq
            obtain ⟨va, vxs, vx, vd, ev', j1, j2, j3⟩ := get hh eq
            have same2 : V.ref va = V.ref ua := by
              rw [ev] at ev'
              exact (Option.some.inj ev').symm
            cases same
            cases same2
            have bw := Rising.step hris ep eq
            have nz : crd hh q - crd hh p ≠ 0 := by
              cases hh
              · have := bw.1
                show q.1 - p.1 ≠ 0
                grind
              · have := bw.2
                show q.2 - p.2 ≠ 0
                grind
            refine iteF ⟨_, rfl, _, rfl, a, ws, _, _, rfl, rfl, sq1, atI_nat ew, _, rfl, _, rfl, _, _, rfl, rfl, a, ws, _, _, rfl, rfl, sq1, (by rw [show ((l : Nat) + 1 : Int) = ((l + 1 : Nat) : Int) by omega]; exact atI_nat ev), _, _, rfl, ?_⟩
            have bd1 : Bits 801 (v - crd hh p) := bv.sub (bp.crd hh)
            have bd2 : Bits 801 (crd hh q - crd hh p) := (bq.crd hh).sub (bp.crd hh)
            have bd3 : Bits 801 (crd tt q - crd tt p) := (bq.crd tt).sub (bp.crd tt)
            have bd4 : Bits 1602 ((v - crd hh p) / (crd hh q - crd hh p)) := bd1.div bd2 nz
            have bd5 : Bits 2403 ((v - crd hh p) / (crd hh q - crd hh p) * (crd tt q - crd tt p)) := bd4.mul bd3
            refine ⟨_, rfl, _, rfl, _, rfl, _, _, _, _, rfl, rfl, SqT.of g1, g2, x, dx, _, _, rfl, hx1, T.ins_Amount g3, .inl rfl, x, .ref hxx, v, rfl, ⟨dx, hx1⟩, up bv, .amt ⟨hd, g3⟩, .inl ⟨_, .obj ⟨hd, g3⟩, up (bp.crd hh), fun u H3 s3 hu hU => ?_⟩⟩
            obtain ⟨du, hU'⟩ := id hU
            refine ⟨u, du, _, rfl, hU', rfl, ?_⟩
            refine ⟨_, rfl, _, rfl, _, _, _, _, rfl, rfl, SqT.of (s3 _ _ j1), j2, _, rfl, _, rfl, _, _, _, _, rfl, rfl, SqT.of (s3 _ _ g1), g2, vx, vd, _, _, rfl, s3 _ _ j3, T.ins_Amount (s3 _ _ g3), .inl rfl, vx, .ref hxx, _, rfl, ⟨vd, s3 _ _ j3⟩, up (bq.crd hh), .amt ⟨hd, s3 _ _ g3⟩, .inl ⟨_, .obj ⟨hd, s3 _ _ g3⟩, up (bp.crd hh), fun z H4 s4 hz hZ => ?_⟩⟩
            refine ⟨u, .ref z, _, rfl, hU.up s4, bd1.mono (by decide), .amt hZ, .inl ⟨_, .obj hZ, bd2.mono (by decide), nz, fun r1 H5 s5 hr1 hR1 => ?_⟩⟩
            have s35 := (s3.trans s4).trans s5
            refine ⟨_, rfl, _, rfl, _, _, _, _, rfl, rfl, SqT.of (s35 _ _ h1), h2, _, rfl, _, rfl, _, rfl, _, _, _, _, rfl, rfl, SqT.of (s35 _ _ i1), i2, _, rfl, _, rfl, _, _, _, _, rfl, rfl, SqT.of (s35 _ _ h1), h2, ux, ud, _, _, rfl, s35 _ _ i3, T.ins_Amount (s35 _ _ h3), .inl rfl, ux, .ref tx, _, rfl, ⟨ud, s35 _ _ i3⟩, up (bq.crd tt), .amt ⟨td, s35 _ _ h3⟩, .inl ⟨_, .obj ⟨td, s35 _ _ h3⟩, up (bp.crd tt), fun d1 H6 s6 hd1 hD1 => ?_⟩⟩
            obtain ⟨dr, hR1'⟩ := hR1.up s6
            obtain ⟨dd, hD1'⟩ := id hD1
            refine ⟨r1, dr, _, _, rfl, hR1', T.ins_Amount hD1', .inl rfl, r1, .ref d1, _, rfl, ⟨dr, hR1'⟩, bd4.mono (by decide), .amt hD1, .inl ⟨_, .obj hD1, bd3.mono (by decide), fun m H7 s7 hm hM => ?_⟩⟩
            obtain ⟨dm, hM'⟩ := id hM
            have s37 := (s35.trans s6).trans s7
            refine ⟨tx, td, _, _, rfl, s37 _ _ h3, T.ins_Amount hM', .inl rfl, tx, .ref m, _, rfl, ⟨td, s37 _ _ h3⟩, up (bp.crd tt), .amt hM, .inl ⟨_, .obj hM, bd5.mono (by decide), fun r H8 s8 hr hR => ?_⟩⟩
            refine k r H8 ((sm.trans s37).trans s8) ?_
            have e2 : ledQ (p0 :: ps') v hh tt = crd tt p + (v - crd hh p) / (crd hh q - crd hh p) * (crd tt q - crd tt p) := by
              unfold ledQ
              simp only [hg, ep, eq]
            rw [e2]
            exact hR
end
end K11

set_option maxHeartbeats 4000000
namespace K11
open PySem PySem.Spec PyProof.Rows L2 AT
section
variable {P : Program} {w : World} {K : PySem.W.Frag} {mg : Str → Option Value} {base : Heap}
def steepQ (ps : List (Rat × Rat)) : List Rat := [1] ++ slopes ps ++ [1]
/-- the places of the first n points at which the pace changes -/
def bendAt (ps : List (Rat × Rat)) (n : Nat) : List (Rat × Rat) := (List.range n).filterMap fun i => if (steepQ ps)[i]? ≠ (steepQ ps)[i + 1]? then ps[i]? else none
def bendQ (ps : List (Rat × Rat)) : List (Rat × Rat) := if bendAt ps ps.length = [] then [(0, ledQ ps 0 false true)] else bendAt ps ps.length
theorem bend_step (ps : List (Rat × Rat)) {i : Nat} {p : Rat × Rat} {x y : Rat} (h : ps[i]? = some p) (hx : (steepQ ps)[i]? = some x) (hy : (steepQ ps)[i + 1]? = some y) : bendAt ps (i + 1) = bendAt ps i ++ (if x = y then [] else [p]) := by
  unfold bendAt
  rw [List.range_succ, List.filterMap_append]
  congr 1
  by_cases z : x = y
  · simp [hx, hy, z]
  · simp [hx, hy, z, h]
theorem bend_len (ps : List (Rat × Rat)) (i : Nat) : (bendAt ps i).length ≤ i := by
  unfold bendAt
  exact Nat.le_trans (List.length_filterMap_le _ _) (by rw [List.length_range]; exact Nat.le_refl _)
theorem steep_len {ps : List (Rat × Rat)} (h : ps ≠ []) : (steepQ ps).length = ps.length + 1 := by
  unfold steepQ slopes
  have := List.length_pos_iff.mpr h
  simp only [List.length_append, List.length_zipWith, List.length_tail, List.length_cons, List.length_nil]
  omega
def spBends (K : PySem.W.Frag) : Sp := fun vs H Q _ => ∃ (a : Addr) (ws : List V) (b : Bool) (ps : List (Rat × Rat)), vs = [.ref a] ∧ H a = some (mkS ws b) ∧ Pts K H ws ps ∧ ps.length < 1000 ∧ (b = false → ps ≠ []) ∧ Rising ps ∧ (∀ p ∈ ps, BitsP 400 p) ∧
  ∀ D us H', Same H H' → H D = none → H' D = some (.lst us) → Pts K H' us (bendQ ps) → Q (.ref D) H'
theorem sc_bends : FnScope ["points", "steep", "at", "point", "found"] ["points"] (defScope s_bends) := ⟨rfl, rfl, rfl, by decide +kernel, rfl, by decide +kernel, by decide +kernel⟩
theorem ok_bends (T : Tx K mg base) : Ok P w K mg base 10 (d_bends.loc K) ["points"] (spBends K) := by
  refine mk_ok (k := 9) T.f_bends sc_bends (fun _ _ _ _ _ _ us hl => match us, hl with | [_], _ => rfl) (fun vs H Q E h => ?_) (fun cdv A outer s H vs Q E hr h => ?_)
  · obtain ⟨a, ws, b, ps, rfl, _⟩ := h
    rfl
  · obtain ⟨a, ws, b, ps, rfl, ha, hp, hlen, hb, hris, hbits, k⟩ := h
    refine ⟨_, (pss_cons (ps_set (i := 1) sc_bends.nd rfl (Or.inr rfl) (ok_call (ok_paces T) (hr.mono (by decide)) rfl T.g_paces passL (pa_cons (pv 0) pa_nil)))
      (pss_cons (ps_setLc (i := 4) (own := [("at", 2), ("point", 3)]) (g := (gTup K 2 (gCons (gName 2) (gCons (gName 3) gNil)))) (by rfl) sc_bends.nd rfl rfl (sw_true rfl rfl rfl (by decide +kernel)) (pi_enumA (by rfl) T.b_enumerate (pa_cons (pv 0) pa_nil)) (blkOk_by (own := [("at", 2), ("point", 3)]) (N := ["points", "steep", "at", "point", "found"]) (sc := defScope s_bends) (by decide +kernel)) (fun _ _ _ _ _ => (pg_tup rfl (pgs_cons (pg_name (i := 2) sc_bends.nd rfl (Or.inl rfl)) (pgs_cons (pg_name (i := 3) sc_bends.nd rfl (Or.inl rfl)) pgs_nil)))) (fun _ _ _ _ _ => (pts_one (pt_cmpR (show OpR _ _ (rNeO K _ _ _) from (op_neO T.eq_Amount (ok_Amount_eq_ T) (hr.mono (by decide)) passL)) (pe_ix (show IxR _ (rIxL K) from ix_list) (pv 1) (pv 2) (fun _ _ => rfl)) (pe_ix (show IxR _ (rIxL K) from ix_list) (pv 1) (pe_op op_add (pv 2) pe_int) (fun _ _ => rfl)) (nomark _)))) (fun _ _ _ _ _ => (pv 3)))
      (pss_one (ps_ret (pe_ifExp (pt_truth (pv 4) (by intro _; rfl)) (pv 4) (pe_lst (pa_cons (pe_tup (pa_cons (ok_makeD T.mkr_Amount (okd_Amount_init_ T) (hr.mono (by decide)) rfl T.g_Amount (passE rfl rfl rfl rfl) (pa_cons pe_int pa_nil)) (pa_cons (ok_call (ok_led T) (hr.mono (by decide)) rfl T.g_led passL (pa_cons (pv 0) (pa_cons (ok_makeD T.mkr_Amount (okd_Amount_init_ T) (hr.mono (by decide)) rfl T.g_Amount (passE rfl rfl rfl rfl) (pa_cons pe_int pa_nil)) (pa_cons pe_int (pa_cons pe_int pa_nil))))) pa_nil))) pa_nil))))))), ?_⟩
    have hl := hp.length
    refine ⟨_, rfl, a, ws, b, ps, rfl, ha, hp, hlen, hb, hris, (fun p m => ⟨(hbits p m).1.mono (by decide), (hbits p m).2.mono (by decide)⟩), fun S ss H1 s1 hS hS1 hq => ?_⟩
    have ha1 := s1 _ _ ha
    refine ⟨_, rfl, a, ws, rfl, (SqB.of ha1).or, fun J hJ D hD => ?_⟩
    obtain ⟨G, wk, hG⟩ := en_walk hJ
    have hHa : ∀ H', Same H1 H' → H' a = H1 a := fun H' s => by rw [s _ _ ha1, ha1]
    have hsz : sizeLine = 16777216 := sizeLine_eq
    refine lc_it wk (fun i H' => ∃ us, Same H1 H' ∧ H' D = some (.lst us) ∧ Pts K H' us (bendAt ps i)) ⟨[], AT.Same.up hD, upd_same, .nil⟩ (fun i H' hi ⟨us, sm, _⟩ => hG _ (hHa _ sm)) (fun i z H' H2 hi ⟨us, sm, hl1, hu⟩ hY => ?_) (fun H' ⟨us, sm, hl1, hu⟩ => ?_)
    · obtain ⟨Tp, x0, y0, rfl, hTp, rfl, e1, hy0⟩ := hY
      cases e1
      have hy0 : ws[i]? = some y0 := hy0
      have s2 := AT.Same.up (o := .tup [.int (i : Nat), y0]) hTp
      obtain ⟨p1, ep, pt1⟩ := hp.at hy0
      have np : ps ≠ [] := by rintro rfl; simp at ep
      have li : i < ps.length := (List.getElem?_eq_some_iff.mp ep).1
      have sl := steep_len np
      have ex : (steepQ ps)[i]? = some (steepQ ps)[i] := List.getElem?_eq_getElem (by omega)
      have ey : (steepQ ps)[i + 1]? = some (steepQ ps)[i + 1] := List.getElem?_eq_getElem (by omega)
      generalize (steepQ ps)[i] = x at ex
      generalize (steepQ ps)[i + 1] = y at ey
      obtain ⟨xa, exa, hxa⟩ := hq.get ex
      obtain ⟨ya, eya, hya⟩ := hq.get ey
      have s12 := sm.trans s2
      obtain ⟨dx, hxa'⟩ := hxa.up s12
      obtain ⟨dy, hya'⟩ := hya.up s12
      refine ⟨Tp, _, rfl, SqT.of upd_same, rfl, _, _, rfl, _, _, rfl, rfl, rfl, ?_⟩
      refine ⟨_, rfl, _, rfl, S, ss, _, _, rfl, rfl, SqL.of (s12 _ _ hS1), atI_nat exa, _, rfl, _, rfl, _, _, rfl, rfl, S, ss, _, _, rfl, rfl, SqL.of (s12 _ _ hS1), (by rw [show ((i : Nat) + 1 : Int) = ((i + 1 : Nat) : Int) by omega]; exact atI_nat eya), xa, dx, _, rfl, hxa', ⟨_, T.ins_Amount hya', .inl rfl⟩, xa, ya, x, y, rfl, ⟨dx, hxa'⟩, ⟨dy, hya'⟩, _, rfl, _, rfl, ?_⟩
      have st := bend_step ps ep ex ey
      have lb := bend_len ps i
      have lu := hu.length
      by_cases c : x = y
      · rw [decide_eq_true c]
        rw [if_pos c, List.append_nil] at st
        refine iteF ⟨us, s12, s2 _ _ hl1, ?_⟩
        rw [st]
        exact hu.up s2
      · rw [decide_eq_false c]
        rw [if_neg c] at st
        refine iteT ⟨_, rfl, us, s2 _ _ hl1, (by omega), us ++ [y0], AT.Same.new s12 hD, upd_same, ?_⟩
        rw [st]
        exact ((hu.up s2).app ((pt1.up s1).up s12)).set (s2 _ _ hl1)
    · rw [hl] at hu
      refine ⟨_, rfl, _, .inl ⟨us, SqL.of hl1, rfl⟩, ?_⟩
      cases hw : us.isEmpty with
      | false =>
        have ne : bendAt ps ps.length ≠ [] := by
          intro z
          rw [z] at hu
          cases hu
          simp at hw
        refine iteT ⟨_, rfl, k D us H' (s1.trans sm) (none_of s1 hD) hl1 ?_⟩
        unfold bendQ
        rw [if_neg ne]
        exact hu
      | true =>
        have e0 : us = [] := by simpa using hw
        have e1 : bendAt ps ps.length = [] := List.length_eq_zero_iff.mp (by rw [← hu.length, e0]; rfl)
        have fin : tLst (tCons (tTup (tCons (tMake (He.ga K "Amount") (spAmt K) [.int 1] E (tCons (tC (.int 0)) tNil)) (tCons (tCall (spLed K) [] E0 (tCons (tVar 0) (tCons (tMake (He.ga K "Amount") (spAmt K) [.int 1] E (tCons (tC (.int 0)) tNil)) (tCons (tC (.int 0)) (tCons (tC (.int 1)) tNil))))) tNil))) tNil) ([some (.ref a), some (.ref S), none, none, some (.ref D)] : L2.St) H' Q := by
          refine fun x dx hx hdx hne => ⟨x, dx, _, _, rfl, upd_same, .int _, .int _, .inl ⟨0, 1, rfl, rfl, by decide, by decide +kernel, rfl, ?_⟩⟩
          have sA := made_same (o1 := .ins (cA K) dx []) (o2 := .ins (cA K) dx (amtQ (Rat.divInt 0 1))) hx hdx
          have hX : IsQ K (upd (upd (upd H' dx (.own x)) x (.ins (cA K) dx [])) x (.ins (cA K) dx (amtQ (Rat.divInt 0 1)))) x (0 : Rat) := ⟨dx, by rw [upd_same, q_int]; rfl⟩
          generalize upd (upd (upd H' dx (.own x)) x (.ins (cA K) dx [])) x (.ins (cA K) dx (amtQ (Rat.divInt 0 1))) = HA at sA hX ⊢
          refine ⟨_, rfl, fun y dy hy hdy hne2 => ⟨y, dy, _, _, rfl, upd_same, .int _, .int _, .inl ⟨0, 1, rfl, rfl, by decide, by decide +kernel, rfl, ?_⟩⟩⟩
          have sB := made_same (o1 := .ins (cA K) dy []) (o2 := .ins (cA K) dy (amtQ (Rat.divInt 0 1))) hy hdy
          have hY : IsQ K (upd (upd (upd HA dy (.own y)) y (.ins (cA K) dy [])) y (.ins (cA K) dy (amtQ (Rat.divInt 0 1)))) y (0 : Rat) := ⟨dy, by rw [upd_same, q_int]; rfl⟩
          generalize upd (upd (upd HA dy (.own y)) y (.ins (cA K) dy [])) y (.ins (cA K) dy (amtQ (Rat.divInt 0 1))) = HB at sB hY ⊢
          have s0B : Same H HB := ((s1.trans sm).trans sA).trans sB
          refine ⟨a, ws, b, ps, y, 0, false, true, rfl, s0B _ _ ha, hp.up s0B, hlen, hris, hbits, hY, ⟨(by decide +kernel), (by decide +kernel)⟩, fun r H3 s3 hR => ?_⟩
          refine ⟨(by show 2 ≤ sizeLine; decide), fun t ht => ⟨(by show 1 ≤ sizeLine; decide), fun L hL => ?_⟩⟩
          have sC := AT.Same.up (o := .tup [.ref x, .ref r]) ht
          have sD := AT.Same.up (o := .lst [.ref t]) hL
          refine k L [.ref t] _ ((s0B.trans s3).trans (sC.trans sD)) (none_of ((s0B.trans s3).trans sC) hL) upd_same ?_
          unfold bendQ
          rw [if_pos e1]
          refine .cons ⟨t, x, r, rfl, sD _ _ upd_same, ((hX.up sB).up s3).up (sC.trans sD), hR.up (sC.trans sD)⟩ .nil
        exact iteF fin
/-! ### the map -/
abbrev cM (K : PySem.W.Frag) : Addr := He.ga K "TempoMap"
/-- at m stands a map with the points ps -/
def IsMap (K : PySem.W.Frag) (H : Hp) (m : Addr) (ps : List (Rat × Rat)) : Prop := ∃ dx t ws, H m = some (.ins (cM K) dx [("own_points", .ref t)]) ∧ H t = some (.tup ws) ∧ Pts K H ws ps
theorem IsMap.up {H H' : Hp} {m : Addr} {ps : List (Rat × Rat)} (h : IsMap K H m ps) (s : Same H H') : IsMap K H' m ps := by
  obtain ⟨dx, t, ws, h1, h2, h3⟩ := h
  exact ⟨dx, t, ws, s _ _ h1, s _ _ h2, h3.up s⟩
def spPoints (K : PySem.W.Frag) : Sp := fun vs H Q _ => ∃ m ps, vs = [.ref m] ∧ IsMap K H m ps ∧ ∀ D us H', Same H H' → H D = none → H' D = some (.lst us) → Pts K H' us ps → Q (.ref D) H'
theorem sc_TempoMap_points : FnScope ["self"] ["self"] (defScope s_TempoMap_points) := ⟨rfl, rfl, rfl, by decide +kernel, rfl, by decide +kernel, by decide +kernel⟩
theorem ok_TempoMap_points (T : Tx K mg base) : Ok P w K mg base 1 (d_TempoMap_points.loc K) ["self"] (spPoints K) := by
  refine mk_ok (k := 0) T.f_TempoMap_points sc_TempoMap_points (fun _ _ _ _ _ _ us hl => match us, hl with | [_], _ => rfl) (fun vs H Q E h => ?_) (fun cdv A outer s H vs Q E hr h => ?_)
  · obtain ⟨m, ps, rfl, _⟩ := h
    rfl
  · obtain ⟨m, ps, rfl, ⟨dx, t, ws, h1, h2, h3⟩, k⟩ := h
    refine ⟨_, (pss_one (ps_ret (pe_callTy call_list_of (by rfl) T.b_list (by decide +kernel) (pa_cons (pe_fld (pv 0) rfl) pa_nil)))), ?_⟩
    refine ⟨_, rfl, m, _, dx, _, _, rfl, h1, T.cls_TempoMap, T.no_TempoMap_own_points, rfl, t, ws, rfl, .inr (SqT.of h2), fun D hD => ?_⟩
    exact k D ws _ (AT.Same.up hD) hD upd_same (h3.up (AT.Same.up hD))
end
end K11

set_option maxHeartbeats 4000000
namespace K11
open PySem PySem.Spec PyProof.Rows L2 AT
section
variable {P : Program} {w : World} {K : PySem.W.Frag} {mg : Str → Option Value} {base : Heap}
theorem Pts.setI {H : Hp} {vs : List V} {ps : List (Rat × Rat)} {m C dx : Addr} {o : HO} (h : Pts K H vs ps) (hm : H m = some (.ins C dx [])) : Pts K (upd H m o) vs ps := by
  induction h with
  | nil => exact .nil
  | cons a b ih =>
    refine .cons ?_ ih
    obtain ⟨t, x, y, e, h1, ⟨d2, h2⟩, ⟨d3, h3⟩⟩ := a
    have n1 : t ≠ m := by rintro rfl; rw [h1] at hm; cases hm
    have n2 : x ≠ m := by rintro rfl; rw [h2] at hm; cases hm
    have n3 : y ≠ m := by rintro rfl; rw [h3] at hm; cases hm
    exact ⟨t, x, y, e, by rw [upd_ne n1]; exact h1, ⟨d2, by rw [upd_ne n2]; exact h2⟩, ⟨d3, by rw [upd_ne n3]; exact h3⟩⟩
/-- how the making of a map of the items xs ends -/
def MapEnd (K : PySem.W.Frag) (H : Hp) (m : Addr) (xs : List V) (ps : List (Rat × Rat)) (Q : VK) (E : XK) : Prop :=
  (ps.length = xs.length ∧ ∀ H' : Hp, (∀ b o, b ≠ m → H b = some o → H' b = some o) → IsMap K H' m (bendQ ps) → Q .non H') ∨
  (∃ v, xs[ps.length]? = some v ∧ NoItem K H v ∧ Rf K "InvalidPoint" "value" v H E) ∨
  (∃ v p q, xs[ps.length]? = some v ∧ Item K H v q ∧ BitsP 3000 q ∧ ps.getLast? = some p ∧ ¬ Below p q ∧ Rf K "Falling" "index" (.int (ps.length : Nat)) H E)
def spMap (K : PySem.W.Frag) : Sp := fun vs H Q E => ∃ m dx v, vs = [.ref m, v] ∧ H m = some (.ins (cM K) dx []) ∧ AnyV K H v ∧ (((¬ ∃ xs, Sq H v xs) ∧ Rf K "InvalidPart" "value" v H E) ∨
  ∃ xs ps, Sq H v xs ∧ xs.length < 1000 ∧ (∀ (i : Nat) (p : Rat × Rat), ps[i]? = some p → BitsP 400 p ∧ ∃ x, xs[i]? = some x ∧ Item K H x p) ∧ Rising ps ∧ MapEnd K H m xs ps Q E)
theorem sc_TempoMap_init_ : FnScope ["self", "points"] ["self", "points"] (defScope s_TempoMap_init_) := ⟨rfl, rfl, rfl, by decide +kernel, rfl, by decide +kernel, by decide +kernel⟩
theorem both_TempoMap (T : Tx K mg base) : Ok P w K mg base 12 (He.ma K (He.ga K "TempoMap") "__init__") ["self", "points"] (spMap K) ∧ OkD P w K mg base 12 (He.ma K (He.ga K "TempoMap") "__init__") ["self", "points"] [.ref (dflA (fun K => He.ma K (He.ga K "TempoMap") "__init__") 0 K)] (spMap K) := by
  refine mk_okD1 (k := 11) (n := 1) T.f_TempoMap_init_ sc_TempoMap_init_ rfl (fun _ _ _ _ _ _ _ us u hl => match us, hl with | [_], _ => ⟨_, rfl, rfl⟩) (fun _ _ _ _ _ _ _ us u hl => match us, hl with | [_, _], _ => ⟨_, rfl, rfl⟩) (fun vs H Q E h => ?_) (fun cdv A outer s H vs Q E hr h => ?_)
  · obtain ⟨m, dx, v, rfl, _⟩ := h
    rfl
  · obtain ⟨m, dx, v, rfl, hm, hv, hc⟩ := h
    refine ⟨_, (pss_one (ps_fld (pv 0) (pe_callTy call_tuple_of (by rfl) T.b_tuple (by decide +kernel) (pa_cons (ok_call (ok_bends T) (hr.mono (by decide)) rfl T.g_bends passL (pa_cons (ok_call (ok_checked_points T) (hr.mono (by decide)) rfl T.g_checked_points (passE rfl rfl rfl rfl) (pa_cons (pv 1) pa_nil)) pa_nil)) pa_nil)) rfl)), ?_⟩
    refine ⟨_, rfl, v, rfl, hv, ?_⟩
    rcases hc with ⟨hn, k⟩ | ⟨xs, ps, hx, hlen, hps, hris, hend⟩
    · exact .inl ⟨hn, k⟩
    · refine .inr ⟨xs, ps, hx, hlen, (fun i p e => ⟨⟨(hps i p e).1.1.mono (by decide), (hps i p e).1.2.mono (by decide)⟩, (hps i p e).2⟩), hris, ?_⟩
      rcases hend with ⟨e, k⟩ | z | z
      · refine .inl ⟨e, fun D us H1 s1 hD hl hp => ?_⟩
        have hbits : ∀ p ∈ ps, BitsP 400 p := fun p hm => by
          obtain ⟨i, hi⟩ := List.getElem?_of_mem hm
          exact (hps i p hi).1
        refine ⟨D, us, true, ps, rfl, hl, hp, (by omega), (fun z => nomatch z), hris, hbits, fun D2 us2 H2 s2 hD2 hl2 hp2 => ?_⟩
        refine ⟨D2, us2, rfl, .inl ⟨SqL.of hl2, fun t ht => ?_⟩⟩
        have s3 := AT.Same.up (o := .tup us2) ht
        have s03 := (s1.trans s2).trans s3
        refine ⟨_, rfl, m, _, dx, _, rfl, s03 _ _ hm, T.cls_TempoMap, T.no_TempoMap_own_points, (by decide), ?_⟩
        refine k _ (fun b o hb e => by rw [upd_ne hb]; exact s03 _ _ e) ⟨dx, t, us2, upd_same, ?_, ?_⟩
        · rw [upd_ne (by rintro rfl; rw [(s1.trans s2) _ _ hm] at ht; cases ht)]
          exact upd_same
        · exact (hp2.up s3).setI (s03 _ _ hm)
      · exact .inr (.inl z)
      · exact .inr (.inr z)
theorem ok_TempoMap_init_ (T : Tx K mg base) : Ok P w K mg base 12 (He.ma K (He.ga K "TempoMap") "__init__") ["self", "points"] (spMap K) := (both_TempoMap T).1
end
end K11

set_option maxHeartbeats 4000000
namespace K11
open PySem PySem.Spec PyProof.Rows L2 AT
/-! ### the law's draws -/
def BoxAt (H : Hp) (p : Addr) (n : Nat) : Prop := ∃ a b c : Int, H p = some (.lst [.int a, .int b, .int c]) ∧ 0 ≤ a ∧ 0 ≤ b ∧ b < 2147483629 ∧ 0 ≤ c ∧ c ≤ n
/-- all but the object at p is as it was -/
def SameX (p : Addr) (H H' : Hp) : Prop := ∀ b o, b ≠ p → H b = some o → H' b = some o
theorem SameX.refl (p : Addr) (H : Hp) : SameX p H H := fun _ _ _ e => e
theorem SameX.trans {p : Addr} {H H1 H2 : Hp} (a : SameX p H H1) (b : SameX p H1 H2) : SameX p H H2 := fun x o n e => b x o n (a x o n e)
theorem sameX_of {p : Addr} {H H' : Hp} (s : Same H H') : SameX p H H' := fun b o _ e => s b o e
theorem BoxAt.up {H H' : Hp} {p : Addr} {n : Nat} (h : BoxAt H p n) (s : Same H H') : BoxAt H' p n := by
  obtain ⟨a, b, c, e, r⟩ := h
  exact ⟨a, b, c, s _ _ e, r⟩
theorem BoxAt.mono {H : Hp} {p : Addr} {n m : Nat} (h : BoxAt H p n) (l : n ≤ m) : BoxAt H p m := by
  obtain ⟨a, b, c, e, h1, h2, h3, h4, h5⟩ := h
  exact ⟨a, b, c, e, h1, h2, h3, h4, by omega⟩
section
variable {P : Program} {w : World} {K : PySem.W.Frag} {mg : Str → Option Value} {base : Heap}
def spCell (K : PySem.W.Frag) : Sp := fun vs H Q _ => ∃ (a : Addr) (ns : List Int) (k : Nat), vs = [.ref a, .int k] ∧ SqL K H a (ns.map V.int) ∧ k < 100 ∧ ∀ c : Int, Q (.int c) H
theorem sc_w_cell : FnScope ["_law_script", "_law_index"] ["_law_script", "_law_index"] (defScope s_w_cell) := ⟨rfl, rfl, rfl, by decide +kernel, rfl, by decide +kernel, by decide +kernel⟩
theorem ok_w_cell (T : Tx K mg base) : Ok P w K mg base 1 (d_w_cell.loc K) ["_law_script", "_law_index"] (spCell K) := by
  refine mk_ok (k := 0) T.f_w_cell sc_w_cell (fun _ _ _ _ _ _ us hl => match us, hl with | [_, _], _ => rfl) (fun vs H Q E h => ?_) (fun cdv A outer s H vs Q E hr h => ?_)
  · obtain ⟨a, ns, k, rfl, _⟩ := h
    rfl
  · obtain ⟨a, ns, k, rfl, hS, hk, q⟩ := h
    refine ⟨_, (pss_cons (ps_if (pt_cmpR op_lt (pv 1) (pe_callB call_len_seq (by rfl) T.b_len (by decide +kernel) (pa_cons (pv 0) pa_nil)) (nomark _)) (pss_one (ps_ret (pe_ix ix_list (pv 0) (pv 1) (fun _ _ => rfl)))) pss_nil)
      (pss_one (ps_ret (pe_op op_add (pe_op op_mulW pe_int (pv 1)) pe_int)))), ?_⟩
    refine ⟨_, rfl, _, rfl, a, _, rfl, .inl hS, _, _, rfl, rfl, _, rfl, ?_⟩
    refine ite2 (fun h1 => ?_) (fun h1 => ?_)
    · have h1' : (k : Int) < ((ns.map V.int).length : Int) := of_decide_eq_true h1
      rw [List.length_map] at h1'
      have hx : (ns.map V.int)[k]? = some (.int (ns.getD k 0)) := by
        rw [List.getElem?_map, List.getElem?_eq_getElem (by omega), List.getD_eq_getElem?_getD, List.getElem?_eq_getElem (by omega)]
        rfl
      exact ⟨_, rfl, _, rfl, a, _, _, _, rfl, rfl, hS, atI_nat hx, q _⟩
    · exact ⟨_, rfl, _, _, rfl, rfl, wide_mul (a := 64) (b := 64) (by decide) (by rw [Int.natAbs_natCast]; exact Nat.lt_trans hk (by decide)) (by decide) (by decide) (by decide), _, _, rfl, rfl, q _⟩
def spBox : Sp := fun vs H Q _ => ∃ c : Int, vs = [.int c] ∧ ∀ p H', Same H H' → H p = none → BoxAt H' p 0 → Q (.ref p) H'
theorem sc_w_bag : FnScope ["_law_cell_here"] ["_law_cell_here"] (defScope s_w_bag) := ⟨rfl, rfl, rfl, by decide +kernel, rfl, by decide +kernel, by decide +kernel⟩
theorem ok_w_bag (T : Tx K mg base) : Ok P w K mg base 1 (d_w_bag.loc K) ["_law_cell_here"] spBox := by
  refine mk_ok (k := 0) T.f_w_bag sc_w_bag (fun _ _ _ _ _ _ us hl => match us, hl with | [_], _ => rfl) (fun vs H Q E h => ?_) (fun cdv A outer s H vs Q E hr h => ?_)
  · obtain ⟨c, rfl, _⟩ := h
    rfl
  · obtain ⟨c, rfl, k⟩ := h
    refine ⟨_, (pss_one (ps_ret (pe_lst (pa_cons (pe_callB (call_max2 rfl) (by rfl) T.b_max (by decide +kernel) (pa_cons pe_int (pa_cons (pe_op op_sub (pv 0) (pe_op op_pow pe_int pe_int)) pa_nil))) (pa_cons (pe_op op_mod (pv 0) pe_int) (pa_cons pe_int pa_nil)))))), ?_⟩
    refine ⟨_, rfl, _, _, rfl, rfl, ⟨by decide, by decide, by decide⟩, _, _, rfl, rfl, _, _, rfl, _, rfl, _, _, rfl, rfl, (show (0 : Int) < 2147483629 by decide), (by show 3 ≤ sizeLine; decide), fun p hp => ?_⟩
    exact k p _ (AT.Same.up hp) hp ⟨_, _, _, upd_same, by split <;> omega, Int.emod_nonneg _ (by decide), Int.emod_lt_of_pos _ (by decide), by decide, by decide⟩
def spTake : Sp := fun vs H Q _ => ∃ (p : Addr) (many : Int) (n : Nat), vs = [.ref p, .int many] ∧ BoxAt H p n ∧ n ≤ 100000 ∧ 0 < many ∧ many.natAbs < 2 ^ 1000 ∧ ∀ (r : Int) H', 0 ≤ r → r < many → SameX p H H' → BoxAt H' p (n + 1) → Q (.int r) H'
theorem sc_w_take : FnScope ["_law_bag_here", "_law_many", "_law_digit", "_law_mixed"] ["_law_bag_here", "_law_many"] (defScope s_w_take) := ⟨rfl, rfl, rfl, by decide +kernel, rfl, by decide +kernel, by decide +kernel⟩
theorem ok_w_take (T : Tx K mg base) : Ok P w K mg base 1 (d_w_take.loc K) ["_law_bag_here", "_law_many"] spTake := by
  refine mk_ok (k := 0) T.f_w_take sc_w_take (fun _ _ _ _ _ _ us hl => match us, hl with | [_, _], _ => rfl) (fun vs H Q E h => ?_) (fun cdv A outer s H vs Q E hr h => ?_)
  · obtain ⟨p, many, n, rfl, _⟩ := h
    rfl
  · obtain ⟨p, many, n, rfl, ⟨a, b, c, hp, ha, hb, hb2, hc, hcn⟩, hn, hm, hmb, k⟩ := h
    refine ⟨_, (pss_cons (ps_if (pt_cmpR op_gt (pe_ix ix_list (pv 0) pe_int (fun _ _ => rfl)) pe_int (nomark _)) (pss_cons (ps_set (i := 2) sc_w_take.nd rfl (Or.inl rfl) (pe_op op_mod (pe_ix ix_list (pv 0) pe_int (fun _ _ => rfl)) (pv 1)))
      (pss_cons (ps_asg (pe_op op_fdivW (pe_ix ix_list (pv 0) pe_int (fun _ _ => rfl)) (pv 1)) (pg_sub (pv 0) pe_int set_list))
      (pss_one (ps_ret (pv 2))))) pss_nil)
      (pss_cons (ps_asg (pe_op op_add (pe_ix ix_list (pv 0) pe_int (fun _ _ => rfl)) pe_int) (pg_sub (pv 0) pe_int set_list))
      (pss_cons (ps_set (i := 3) sc_w_take.nd rfl (Or.inl rfl) (pe_op op_mod (pe_op op_pow (pe_op op_add (pe_op op_add (pe_ix ix_list (pv 0) pe_int (fun _ _ => rfl)) (pe_op op_mulW pe_int (pe_ix ix_list (pv 0) pe_int (fun _ _ => rfl)))) pe_int) pe_int) pe_int))
      (pss_cons (ps_set (i := 3) sc_w_take.nd rfl (Or.inl rfl) (pe_op op_mod (pe_op op_pow (pe_op op_add (pv 3) (pe_op op_mulW pe_int (pe_ix ix_list (pv 0) pe_int (fun _ _ => rfl)))) pe_int) pe_int))
      (pss_one (ps_ret (pe_op op_mod (pe_op op_fdivW (pv 3) pe_int) (pv 1)))))))), ?_⟩
    have sx : ∀ o, SameX p H (upd H p o) := fun o x u hx e => by rw [upd_ne hx]; exact e
    refine ⟨_, rfl, p, _, 0, _, rfl, rfl, SqL.of hp, rfl, _, _, rfl, rfl, _, rfl, ?_⟩
    refine ite2 (fun h1 => ?_) (fun h1 => ?_)
    · have h1' : 0 < a := of_decide_eq_true h1
      refine ⟨_, rfl, p, _, 0, _, rfl, rfl, SqL.of hp, rfl, _, rfl, _, _, rfl, rfl, hm, ?_⟩
      refine ⟨_, rfl, p, _, 0, _, rfl, rfl, SqL.of hp, rfl, _, rfl, _, _, rfl, rfl, wide_div hm hmb (by decide) (by decide), _, rfl, p, _, 0, 0, rfl, rfl, hp, rfl, ?_⟩
      refine ⟨_, rfl, k _ _ (Int.emod_nonneg _ (by omega)) (Int.emod_lt_of_pos _ hm) (sx _) ⟨a / many, b, c, upd_same, Int.ediv_nonneg ha (by omega), hb, hb2, hc, by omega⟩⟩
    · refine ⟨_, rfl, p, _, 2, _, rfl, rfl, SqL.of hp, rfl, _, _, rfl, rfl, _, rfl, p, _, 2, 2, rfl, rfl, hp, rfl, ?_⟩
      have hp2 : upd H p (.lst [.int a, .int b, .int (c + 1)]) p = some (.lst [.int a, .int b, .int (c + 1)]) := upd_same
      refine ⟨_, rfl, p, _, 1, _, rfl, rfl, SqL.of hp2, rfl, _, rfl, p, _, 2, _, rfl, rfl, SqL.of hp2, rfl, _, _, rfl, rfl, wide_mul (a := 64) (b := 64) (by decide) (by omega) (by decide) (by decide) (by decide), _, _, rfl, rfl, _, _, rfl, rfl, _, _, rfl, rfl, ⟨by decide, by decide, by omega⟩, _, _, rfl, rfl, (show (0 : Int) < 2147483647 by decide), ?_⟩
      generalize hx : ((b + 512927377 * (c + 1) + 433) ^ (5 : Int).toNat) % 2147483647 = x
      have hx1 : 0 ≤ x := hx ▸ Int.emod_nonneg _ (by decide)
      have hx2 : x < 2147483647 := hx ▸ Int.emod_lt_of_pos _ (by decide)
      refine ⟨_, rfl, _, rfl, p, _, 2, _, rfl, rfl, SqL.of hp2, rfl, _, _, rfl, rfl, wide_mul (a := 64) (b := 64) (by decide) (by omega) (by decide) (by decide) (by decide), _, _, rfl, rfl, _, _, rfl, rfl, ⟨by decide, by decide, by omega⟩, _, _, rfl, rfl, (show (0 : Int) < 2147483587 by decide), ?_⟩
      generalize ((x + 103217 * (c + 1)) ^ (3 : Int).toNat) % 2147483587 = y
      refine ⟨_, rfl, _, _, rfl, rfl, wide_div (b := 10) (by decide) (by decide) (by decide) (by decide), _, rfl, _, _, rfl, rfl, hm, ?_⟩
      exact k _ _ (Int.emod_nonneg _ (by omega)) (Int.emod_lt_of_pos _ hm) (sx _) ⟨a, b, c + 1, upd_same, ha, hb, hb2, by omega, by omega⟩
end
end K11

set_option maxHeartbeats 4000000
namespace K11
open PySem PySem.Spec PyProof.Rows L2 AT
/-! ### the law's own fractions: pairs in lowest terms -/
def pairQ (q : Rat) : HO := .tup [.int q.num, .int q.den]
theorem sg_num {t b : Int} (s : Int) (hs : s = if b < 0 then -1 else 1) (h : b ≠ 0) : (s * t).fdiv (Int.gcd t b : Nat) = (Rat.divInt t b).num := by
  rw [Rat.num_divInt, Int.gcd_comm b t, Int.fdiv_eq_ediv_of_nonneg _ (by omega)]
  have e : b.sign = s := by
    rw [hs]
    split
    · rename_i z; exact Int.sign_eq_neg_one_of_neg z
    · exact Int.sign_eq_one_of_pos (by omega)
  rw [e]
theorem sg_den {t b : Int} (s : Int) (hs : s = if b < 0 then -1 else 1) (h : b ≠ 0) : (s * b).fdiv (Int.gcd t b : Nat) = ((Rat.divInt t b).den : Int) := by
  rw [Rat.den_divInt, if_neg h, Int.gcd_comm b t, Int.fdiv_eq_ediv_of_nonneg _ (by omega)]
  have e : s * b = (b.natAbs : Int) := by
    rw [hs]
    split <;> omega
  rw [e]
  simp
section
variable {P : Program} {w : World} {K : PySem.W.Frag} {mg : Str → Option Value} {base : Heap}
def spFrac : Sp := fun vs H Q _ => ∃ t b : Int, vs = [.int t, .int b] ∧ b ≠ 0 ∧ t.natAbs < 2 ^ 1000 ∧ b.natAbs < 2 ^ 1000 ∧ ∀ q H', Same H H' → H q = none → H' q = some (pairQ (Rat.divInt t b)) → Q (.ref q) H'
theorem sc_w_frac : FnScope ["_law_top", "_law_bottom", "_law_one", "_law_other", "_law_sign"] ["_law_top", "_law_bottom"] (defScope s_w_frac) := ⟨rfl, rfl, rfl, by decide +kernel, rfl, by decide +kernel, by decide +kernel⟩
theorem ok_w_frac (T : Tx K mg base) : Ok P w K mg base 1 (d_w_frac.loc K) ["_law_top", "_law_bottom"] spFrac := by
  refine mk_ok (k := 0) T.f_w_frac sc_w_frac (fun _ _ _ _ _ _ us hl => match us, hl with | [_, _], _ => rfl) (fun vs H Q E h => ?_) (fun cdv A outer s H vs Q E hr h => ?_)
  · obtain ⟨t, b, rfl, _⟩ := h
    rfl
  · obtain ⟨t, b, rfl, hb0, htd, hbd, k⟩ := h
    refine ⟨_, (pss_cons (ps_par (by rfl) sc_w_frac.nd (i := 2) (j := 3) rfl rfl (by decide) rfl rfl (pa_cons (pe_callB call_abs (by rfl) T.b_abs (by decide +kernel) (pa_cons (pv 0) pa_nil)) (pa_cons (pe_callB call_abs (by rfl) T.b_abs (by decide +kernel) (pa_cons (pv 1) pa_nil)) pa_nil)) (by rfl))
      (pss_cons (ps_while (passes_of rfl) (pt_cmpR op_gt (pv 3) pe_int (nomark _)) (pss_one (ps_par (by rfl) sc_w_frac.nd (i := 2) (j := 3) rfl rfl (by decide) rfl rfl (pa_cons (pv 3) (pa_cons (pe_op op_mod (pv 2) (pv 3)) pa_nil)) (by rfl))))
      (pss_cons (ps_set (i := 4) sc_w_frac.nd rfl (Or.inl rfl) (pe_ifExp (pt_cmpR op_lt (pv 1) pe_int (nomark _)) (pe_un un_neg pe_int) pe_int))
      (pss_one (ps_ret (pe_tup (pa_cons (pe_op op_fdivZ (pe_op op_mulW (pv 4) (pv 0)) (pv 2)) (pa_cons (pe_op op_fdivZ (pe_op op_mulW (pv 4) (pv 1)) (pv 2)) pa_nil)))))))), ?_⟩
    refine ⟨_, rfl, t, rfl, _, rfl, b, rfl, _, _, rfl, ?_⟩
    refine ⟨fun m σ H' => ∃ a' b' : Int, σ = ([some (.int t), some (.int b), some (.int a'), some (.int b'), none] : L2.St) ∧ H' = H ∧ 0 ≤ a' ∧ 0 ≤ b' ∧ Int.gcd a' b' = Int.gcd t b ∧ m = b'.toNat, ⟨_, _, _, rfl, rfl, (by split <;> omega), (by split <;> omega), abs_gcd t b, rfl⟩, ?_⟩
    rintro m σ H' ⟨a', b', rfl, rfl, ha', hb', hg, rfl⟩
    refine ⟨_, rfl, _, _, rfl, rfl, _, rfl, ?_⟩
    refine ite2 (fun h1 => ?_) (fun h1 => ?_)
    · have h1' : 0 < b' := of_decide_eq_true h1
      refine ⟨fun σ2 H2 => ∃ a2 b2 : Int, σ2 = ([some (.int t), some (.int b), some (.int a2), some (.int b2), none] : L2.St) ∧ H2 = H' ∧ 0 ≤ a2 ∧ 0 ≤ b2 ∧ Int.gcd a2 b2 = Int.gcd t b ∧ b2 < b', ?_, ?_⟩
      · rintro σ2 H2 ⟨a2, b2, rfl, rfl, h2, h3, h4, h5⟩
        exact ⟨b2.toNat, by omega, a2, b2, rfl, rfl, h2, h3, h4, rfl⟩
      · refine ⟨_, rfl, _, rfl, _, rfl, _, _, rfl, rfl, h1', _, _, rfl, ?_⟩
        exact ⟨b', a' % b', rfl, rfl, hb', Int.emod_nonneg _ (by omega), by rw [gcd_turn ha' h1', hg], Int.emod_lt_of_pos _ h1'⟩
    · have h0 : b' = 0 := by
        have := of_decide_eq_false (by simpa using h1 : decide (0 < b') = false)
        omega
      subst h0
      have e : a' = (Int.gcd t b : Nat) := by rw [← hg, Int.gcd_zero_right]; omega
      subst e
      have hgp := gcd_pos (t := t) hb0
      have hle := gcd_le (t := t) hb0
      have hlog : (Int.gcd t b).log2 < 9000 := log_lt (by decide) (Nat.lt_of_le_of_lt hle (Nat.lt_trans hbd (Nat.pow_lt_pow_right (by decide) (by decide))))
      have cd : ∀ i : Int, CDivZ i (Int.gcd t b : Nat) := fun i => ⟨by omega, by rw [Int.natAbs_natCast]; exact hlog⟩
      have one : ∀ s : Int, s = 1 ∨ s = -1 → s.natAbs < 2 ^ 10 := by rintro s (rfl | rfl) <;> decide
      have cm : ∀ s i : Int, (s = 1 ∨ s = -1) → i.natAbs < 2 ^ 1000 → CMulW s i := fun s i hs hi => wide_mul (one s hs) hi (by decide) (by decide) (by decide)
      have fin : ∀ s : Int, (s = if b < 0 then -1 else 1) → tRet (tTup (tCons (tOp (rI CDivZ fun i j => .int (i.fdiv j)) (tOp (rI CMulW fun i j => .int (i * j)) (tVar 4) (tVar 0)) (tVar 2)) (tCons (tOp (rI CDivZ fun i j => .int (i.fdiv j)) (tOp (rI CMulW fun i j => .int (i * j)) (tVar 4) (tVar 1)) (tVar 2)) tNil))) { nx := fun _ H' => Q .non H', rt := Q } ([some (.int t), some (.int b), some (.int (Int.gcd t b : Nat)), some (.int 0), some (.int s)] : L2.St) H' := by
        intro s hs
        have s1 : s = 1 ∨ s = -1 := by rw [hs]; split <;> simp
        refine ⟨_, rfl, _, rfl, _, _, rfl, rfl, cm s t s1 htd, _, rfl, _, _, rfl, rfl, cd _, _, rfl, _, rfl, _, _, rfl, rfl, cm s b s1 hbd, _, rfl, _, _, rfl, rfl, cd _, (by show 2 ≤ sizeLine; decide), fun q hq => k q _ (AT.Same.up hq) hq ?_⟩
        show upd H' q (.tup [.int ((s * t).fdiv (Int.gcd t b : Nat)), .int ((s * b).fdiv (Int.gcd t b : Nat))]) q = _
        rw [upd_same, sg_num s hs hb0, sg_den s hs hb0]
        rfl
      refine ⟨_, rfl, _, _, rfl, rfl, _, rfl, ?_⟩
      refine ite2 (fun h2 => ?_) (fun h2 => ?_)
      · have h2' : b < 0 := of_decide_eq_true h2
        exact ⟨_, rfl, fin (-1) (by rw [if_pos h2'])⟩
      · have h2' : ¬ b < 0 := of_decide_eq_false (by simpa using h2)
        exact fin 1 (by rw [if_neg h2'])
/-- a pair that stands for q -/
def PQ (H : Hp) (v : V) (q : Rat) : Prop := ∃ a, v = .ref a ∧ H a = some (pairQ q)
theorem PQ.up {H H' : Hp} {v : V} {q : Rat} (h : PQ H v q) (s : Same H H') : PQ H' v q := h.imp fun _ z => ⟨z.1, s _ _ z.2⟩
theorem mul4 {i j : Int} (h : i.natAbs < 2 ^ 400) (g : j.natAbs < 2 ^ 400) : CMulW i j := wide_mul h g (by decide) (by decide) (by decide)
theorem den_of {k : Nat} {q : Rat} (h : Bits k q) : ((q.den : Nat) : Int).natAbs < 2 ^ k := den_bits h
def spTwo (op : Rat → Rat → Rat) : Sp := fun vs H Q _ => ∃ v1 v2 x y, vs = [v1, v2] ∧ PQ H v1 x ∧ PQ H v2 y ∧ Bits 400 x ∧ Bits 400 y ∧ ∀ v H', Same H H' → PQ H' v (op x y) → Q v H'
theorem sc_w_sum : FnScope ["_law_one", "_law_other"] ["_law_one", "_law_other"] (defScope s_w_sum) := ⟨rfl, rfl, rfl, by decide +kernel, rfl, by decide +kernel, by decide +kernel⟩
theorem ok_w_sum (T : Tx K mg base) : Ok P w K mg base 2 (d_w_sum.loc K) ["_law_one", "_law_other"] (spTwo fun x y => x + y) := by
  refine mk_ok (k := 1) T.f_w_sum sc_w_sum (fun _ _ _ _ _ _ us hl => match us, hl with | [_, _], _ => rfl) (fun vs H Q E h => ?_) (fun cdv A outer s H vs Q E hr h => ?_)
  · obtain ⟨v1, v2, x, y, rfl, _⟩ := h
    rfl
  · obtain ⟨_, _, x, y, rfl, ⟨a, rfl, ha⟩, ⟨b, rfl, hb⟩, bx, by_, k⟩ := h
    refine ⟨_, (pss_one (ps_ret (ok_call (ok_w_frac T) (hr.mono (by decide)) rfl T.g_w_frac passL (pa_cons (pe_op op_add (pe_op op_mulW (pe_ix ix_tup (pv 0) pe_int (fun _ _ => rfl)) (pe_ix ix_tup (pv 1) pe_int (fun _ _ => rfl))) (pe_op op_mulW (pe_ix ix_tup (pv 1) pe_int (fun _ _ => rfl)) (pe_ix ix_tup (pv 0) pe_int (fun _ _ => rfl)))) (pa_cons (pe_op op_mulW (pe_ix ix_tup (pv 0) pe_int (fun _ _ => rfl)) (pe_ix ix_tup (pv 1) pe_int (fun _ _ => rfl))) pa_nil))))), ?_⟩
    have m1 := mul_bits bx.1 (den_bits by_)
    have m2 := mul_bits by_.1 (den_bits bx)
    have m3 := mul_bits (den_bits bx) (den_bits by_)
    refine ⟨_, rfl, a, _, 0, _, rfl, rfl, SqT.of ha, rfl, _, rfl, b, _, 1, _, rfl, rfl, SqT.of hb, rfl, _, _, rfl, rfl, mul4 bx.1 (den_bits by_), _, rfl, b, _, 0, _, rfl, rfl, SqT.of hb, rfl, _, rfl, a, _, 1, _, rfl, rfl, SqT.of ha, rfl, _, _, rfl, rfl, mul4 by_.1 (den_bits bx), _, _, rfl, rfl, ?_⟩
    refine ⟨_, rfl, a, _, 1, _, rfl, rfl, SqT.of ha, rfl, _, rfl, b, _, 1, _, rfl, rfl, SqT.of hb, rfl, _, _, rfl, rfl, mul4 (den_bits bx) (den_bits by_), _, _, rfl, Int.mul_ne_zero (den_ne x) (den_ne y), ?_, ?_, fun q H' s hq e => ?_⟩
    · have : (2 : Nat) ^ (400 + 400) + 2 ^ (400 + 400) < 2 ^ 1000 := by decide +kernel
      show (x.num * (y.den : Int) + y.num * (x.den : Int)).natAbs < _
      omega
    · exact Nat.lt_trans m3 (by decide +kernel)
    · refine k _ _ s ⟨q, rfl, ?_⟩
      rw [e]
      exact congrArg (fun z => some (pairQ z)) (q_add x y)
theorem sc_w_rest : FnScope ["_law_one", "_law_other"] ["_law_one", "_law_other"] (defScope s_w_rest) := ⟨rfl, rfl, rfl, by decide +kernel, rfl, by decide +kernel, by decide +kernel⟩
theorem ok_w_rest (T : Tx K mg base) : Ok P w K mg base 2 (d_w_rest.loc K) ["_law_one", "_law_other"] (spTwo fun x y => x - y) := by
  refine mk_ok (k := 1) T.f_w_rest sc_w_rest (fun _ _ _ _ _ _ us hl => match us, hl with | [_, _], _ => rfl) (fun vs H Q E h => ?_) (fun cdv A outer s H vs Q E hr h => ?_)
  · obtain ⟨v1, v2, x, y, rfl, _⟩ := h
    rfl
  · obtain ⟨_, _, x, y, rfl, ⟨a, rfl, ha⟩, ⟨b, rfl, hb⟩, bx, by_, k⟩ := h
    refine ⟨_, (pss_one (ps_ret (ok_call (ok_w_frac T) (hr.mono (by decide)) rfl T.g_w_frac passL (pa_cons (pe_op op_sub (pe_op op_mulW (pe_ix ix_tup (pv 0) pe_int (fun _ _ => rfl)) (pe_ix ix_tup (pv 1) pe_int (fun _ _ => rfl))) (pe_op op_mulW (pe_ix ix_tup (pv 1) pe_int (fun _ _ => rfl)) (pe_ix ix_tup (pv 0) pe_int (fun _ _ => rfl)))) (pa_cons (pe_op op_mulW (pe_ix ix_tup (pv 0) pe_int (fun _ _ => rfl)) (pe_ix ix_tup (pv 1) pe_int (fun _ _ => rfl))) pa_nil))))), ?_⟩
    have m1 := mul_bits bx.1 (den_bits by_)
    have m2 := mul_bits by_.1 (den_bits bx)
    have m3 := mul_bits (den_bits bx) (den_bits by_)
    refine ⟨_, rfl, a, _, 0, _, rfl, rfl, SqT.of ha, rfl, _, rfl, b, _, 1, _, rfl, rfl, SqT.of hb, rfl, _, _, rfl, rfl, mul4 bx.1 (den_bits by_), _, rfl, b, _, 0, _, rfl, rfl, SqT.of hb, rfl, _, rfl, a, _, 1, _, rfl, rfl, SqT.of ha, rfl, _, _, rfl, rfl, mul4 by_.1 (den_bits bx), _, _, rfl, rfl, ?_⟩
    refine ⟨_, rfl, a, _, 1, _, rfl, rfl, SqT.of ha, rfl, _, rfl, b, _, 1, _, rfl, rfl, SqT.of hb, rfl, _, _, rfl, rfl, mul4 (den_bits bx) (den_bits by_), _, _, rfl, Int.mul_ne_zero (den_ne x) (den_ne y), ?_, ?_, fun q H' s hq e => ?_⟩
    · have : (2 : Nat) ^ (400 + 400) + 2 ^ (400 + 400) < 2 ^ 1000 := by decide +kernel
      show (x.num * (y.den : Int) - y.num * (x.den : Int)).natAbs < _
      omega
    · exact Nat.lt_trans m3 (by decide +kernel)
    · refine k _ _ s ⟨q, rfl, ?_⟩
      rw [e]
      exact congrArg (fun z => some (pairQ z)) (q_sub x y)
end
end K11

set_option maxHeartbeats 4000000
namespace K11
open PySem PySem.Spec PyProof.Rows L2 AT
/-! ### fractions with a small bottom -/
def Fine (m : Nat) (q : Rat) : Prop := ∃ k : Int, q = (k : Rat) / 84 ∧ k.natAbs ≤ 84 * m
theorem Fine.add {m n : Nat} {x y : Rat} (h : Fine m x) (g : Fine n y) : Fine (m + n) (x + y) := by
  obtain ⟨k, rfl, hk⟩ := h
  obtain ⟨l, rfl, hl⟩ := g
  exact ⟨k + l, by rw [Rat.intCast_add]; grind, by omega⟩
theorem Fine.sub {m n : Nat} {x y : Rat} (h : Fine m x) (g : Fine n y) : Fine (m + n) (x - y) := by
  obtain ⟨k, rfl, hk⟩ := h
  obtain ⟨l, rfl, hl⟩ := g
  exact ⟨k - l, by rw [Rat.intCast_sub]; grind, by omega⟩
theorem Fine.mono {m n : Nat} {x : Rat} (h : Fine m x) (l : m ≤ n) : Fine n x := by
  obtain ⟨k, e, hk⟩ := h
  exact ⟨k, e, by omega⟩
theorem fine_eq (k : Int) : (k : Rat) / 84 = Rat.divInt k 84 := by
  rw [Rat.divInt_eq_div]
  rfl
theorem Fine.bits {m : Nat} {x : Rat} (h : Fine m x) (hm : m ≤ 100000) : Bits 60 x := by
  obtain ⟨k, rfl, hk⟩ := h
  rw [fine_eq]
  refine bits_of (by decide) ?_ (by decide)
  have : (2 : Nat) ^ 60 = 1152921504606846976 := by decide
  omega
theorem Fine.lt {m n : Nat} {x : Rat} (h : Fine m x) (l : m < n) : x < (n : Rat) := by
  obtain ⟨k, rfl, hk⟩ := h
  have h1 : k < 84 * (n : Int) := by omega
  have h2 : (k : Rat) < ((84 * (n : Int) : Int) : Rat) := Rat.intCast_lt_intCast.mpr h1
  rw [Rat.intCast_mul] at h2
  have h3 : (((n : Int) : Rat)) = (n : Rat) := rfl
  rw [h3] at h2
  grind
theorem fine_frac {t b : Int} (hb : b = 1 ∨ b = 2 ∨ b = 3 ∨ b = 4 ∨ b = 7) (m : Nat) (ht : t.natAbs ≤ m) : Fine m (Rat.divInt t b) := by
  rw [Rat.divInt_eq_div]
  rcases hb with rfl | rfl | rfl | rfl | rfl
  · exact ⟨t * 84, by rw [Rat.intCast_mul]; grind, by omega⟩
  · exact ⟨t * 42, by rw [Rat.intCast_mul]; grind, by omega⟩
  · exact ⟨t * 28, by rw [Rat.intCast_mul]; grind, by omega⟩
  · exact ⟨t * 21, by rw [Rat.intCast_mul]; grind, by omega⟩
  · exact ⟨t * 12, by rw [Rat.intCast_mul]; grind, by omega⟩
section
variable {P : Program} {w : World} {K : PySem.W.Frag} {mg : Str → Option Value} {base : Heap}
theorem PQ.upX {H H' : Hp} {v : V} {q : Rat} {p : Addr} {n : Nat} (h : PQ H v q) (b : BoxAt H p n) (s : SameX p H H') : PQ H' v q := by
  obtain ⟨a, e, z⟩ := h
  refine ⟨a, e, s _ _ ?_ z⟩
  rintro rfl
  obtain ⟨_, _, _, e2, _⟩ := b
  rw [z] at e2
  cases e2
theorem big {x : Int} (h : x.natAbs ≤ 1000000000000000000000000000000) : x.natAbs < 2 ^ 1000 := Nat.lt_of_le_of_lt h (by decide +kernel)
theorem box_ne {H : Hp} {p q : Addr} {n : Nat} (hb : BoxAt H p n) (hq : H q = none) : q ≠ p := by
  obtain ⟨a, b, c, e, _⟩ := hb
  rintro rfl
  rw [hq] at e
  cases e
def spDraw (f : Rat → Prop) : Sp := fun vs H Q _ => ∃ (p : Addr) (n : Nat), vs = [.ref p] ∧ BoxAt H p n ∧ n ≤ 10000 ∧ ∀ v q H', SameX p H H' → BoxAt H' p (n + 3) → PQ H' v q → f q → Q v H'
theorem pick4 {r : Int} (h0 : 0 ≤ r) (h1 : r < 4) : ∃ b : Int, atI [V.int 1, V.int 2, V.int 3, V.int 4] r = some (.int b) ∧ (b = 1 ∨ b = 2 ∨ b = 3 ∨ b = 4 ∨ b = 7) := by
  obtain rfl | rfl | rfl | rfl : r = 0 ∨ r = 1 ∨ r = 2 ∨ r = 3 := by omega
  all_goals exact ⟨_, rfl, by decide⟩
theorem pick6 {r : Int} (h0 : 0 ≤ r) (h1 : r < 6) : ∃ b : Int, atI [V.int 1, V.int 1, V.int 2, V.int 3, V.int 4, V.int 7] r = some (.int b) ∧ (b = 1 ∨ b = 2 ∨ b = 3 ∨ b = 4 ∨ b = 7) := by
  obtain rfl | rfl | rfl | rfl | rfl | rfl : r = 0 ∨ r = 1 ∨ r = 2 ∨ r = 3 ∨ r = 4 ∨ r = 5 := by omega
  all_goals exact ⟨_, rfl, by decide⟩
theorem sc_w_fraction : FnScope ["_law_bag_here", "_law_way"] ["_law_bag_here"] (defScope s_w_fraction) := ⟨rfl, rfl, rfl, by decide +kernel, rfl, by decide +kernel, by decide +kernel⟩
theorem ok_w_fraction (T : Tx K mg base) : Ok P w K mg base 2 (d_w_fraction.loc K) ["_law_bag_here"] (spDraw (Fine 900)) := by
  refine mk_ok (k := 1) T.f_w_fraction sc_w_fraction (fun _ _ _ _ _ _ us hl => match us, hl with | [_], _ => rfl) (fun vs H Q E h => ?_) (fun cdv A outer s H vs Q E hr h => ?_)
  · obtain ⟨p, n, rfl, _⟩ := h
    rfl
  · obtain ⟨p, n, rfl, hb, hn, k⟩ := h
    refine ⟨_, (pss_cons (ps_set (i := 1) sc_w_fraction.nd rfl (Or.inl rfl) (ok_call (ok_w_take T) (hr.mono (by decide)) rfl T.g_w_take passL (pa_cons (pv 0) (pa_cons pe_int pa_nil))))
      (pss_cons (ps_if (pt_cmpR op_eq (pv 1) pe_int (nomark _)) (pss_one (ps_ret (ok_call (ok_w_frac T) (hr.mono (by decide)) rfl T.g_w_frac passL (pa_cons (pe_op op_sub (ok_call (ok_w_take T) (hr.mono (by decide)) rfl T.g_w_take passL (pa_cons (pv 0) (pa_cons pe_int pa_nil))) pe_int) (pa_cons (pe_ix ix_list (pe_lst (pa_cons pe_int (pa_cons pe_int (pa_cons pe_int (pa_cons pe_int pa_nil))))) (ok_call (ok_w_take T) (hr.mono (by decide)) rfl T.g_w_take passL (pa_cons (pv 0) (pa_cons pe_int pa_nil))) (fun _ _ => rfl)) pa_nil))))) pss_nil)
      (pss_one (ps_ret (ok_call (ok_w_frac T) (hr.mono (by decide)) rfl T.g_w_frac passL (pa_cons (pe_op op_sub (ok_call (ok_w_take T) (hr.mono (by decide)) rfl T.g_w_take passL (pa_cons (pv 0) (pa_cons pe_int pa_nil))) pe_int) (pa_cons (pe_ix ix_list (pe_lst (pa_cons pe_int (pa_cons pe_int (pa_cons pe_int (pa_cons pe_int (pa_cons pe_int (pa_cons pe_int pa_nil))))))) (ok_call (ok_w_take T) (hr.mono (by decide)) rfl T.g_w_take passL (pa_cons (pv 0) (pa_cons pe_int pa_nil))) (fun _ _ => rfl)) pa_nil))))))), ?_⟩
    refine ⟨_, rfl, p, _, _, rfl, hb, (by omega), (by decide), (by decide +kernel), fun r1 H1 a1 a2 x1 b1 => ?_⟩
    refine ⟨_, rfl, rfl, _, rfl, ?_⟩
    by_cases c : r1 = 0
    · subst c
      rw [decide_eq_true rfl]
      refine iteT ⟨_, rfl, p, _, _, rfl, b1, (by omega), (by decide), (by decide +kernel), fun r2 H2 c1 c2 x2 b2 => ?_⟩
      refine ⟨_, _, rfl, rfl, (by show 4 ≤ sizeLine; decide), fun q hq => ?_⟩
      refine ⟨_, rfl, p, _, _, rfl, b2.up (AT.Same.up hq), (by omega), (by decide), (by decide +kernel), fun r3 H3 d1 d2 x3 b3 => ?_⟩
      obtain ⟨bb, eb, hbb⟩ := pick4 d1 d2
      have nb : bb ≠ 0 := by rcases hbb with z | z | z | z | z <;> omega
      refine ⟨q, _, r3, _, rfl, rfl, SqL.of (x3 _ _ (box_ne b2 hq) upd_same), eb, r2 - 900, bb, rfl, nb, big (by omega), big (by omega), fun u H4 s4 hu e4 => ?_⟩
      exact k _ _ H4 (((x1.trans x2).trans (sameX_of (AT.Same.up hq))).trans (x3.trans (sameX_of s4))) (b3.up s4) ⟨u, rfl, e4⟩ (fine_frac hbb 900 (by omega))
    · rw [decide_eq_false (fun z => c (V.int.inj z))]
      refine iteF ⟨_, rfl, p, _, _, rfl, b1, (by omega), (by decide), (by decide +kernel), fun r2 H2 c1 c2 x2 b2 => ?_⟩
      refine ⟨_, _, rfl, rfl, (by show 6 ≤ sizeLine; decide), fun q hq => ?_⟩
      refine ⟨_, rfl, p, _, _, rfl, b2.up (AT.Same.up hq), (by omega), (by decide), (by decide +kernel), fun r3 H3 d1 d2 x3 b3 => ?_⟩
      obtain ⟨bb, eb, hbb⟩ := pick6 d1 d2
      have nb : bb ≠ 0 := by rcases hbb with z | z | z | z | z <;> omega
      refine ⟨q, _, r3, _, rfl, rfl, SqL.of (x3 _ _ (box_ne b2 hq) upd_same), eb, r2 - 6, bb, rfl, nb, big (by omega), big (by omega), fun u H4 s4 hu e4 => ?_⟩
      exact k _ _ H4 (((x1.trans x2).trans (sameX_of (AT.Same.up hq))).trans (x3.trans (sameX_of s4))) (b3.up s4) ⟨u, rfl, e4⟩ (fine_frac hbb 900 (by omega))
theorem num_le {q : Rat} (h : ¬ 0 < q.num) : q ≤ 0 := by
  rcases (Rat.le_total : q ≤ 0 ∨ 0 ≤ q) with z | z
  · exact z
  · have := Rat.num_nonneg.mpr z
    have e : q.num = 0 := by omega
    rw [Rat.num_eq_zero.mp e]
    exact Rat.le_refl
theorem num_pos {q : Rat} (h : 0 < q.num) : 0 < q := by
  have h1 : 0 ≤ q := Rat.num_nonneg.mp (by omega)
  have h2 : q ≠ 0 := by
    rintro rfl
    exact absurd h (by decide)
  grind
theorem step_val {q : Rat} {m : Nat} (h : Fine m q) (hq : ¬ 0 < q.num) : Fine (m + 1) (Rat.divInt (1 - q.num) q.den) ∧ 0 < Rat.divInt (1 - q.num) q.den := by
  have hd : (0 : Rat) < (q.den : Rat) := Rat.natCast_pos.mpr (by have := q.den_nz; omega)
  have ec : (((q.den : Nat) : Int) : Rat) = (q.den : Rat) := rfl
  have e1 : Rat.divInt (1 - q.num) q.den = 1 / (q.den : Rat) - q := by
    have h1 : q = (q.num : Rat) / (q.den : Rat) := by
      have z := q_self q
      rw [Rat.divInt_eq_div, ec] at z
      exact z.symm
    rw [Rat.divInt_eq_div, Rat.intCast_sub, ec]
    have h2 : ((1 : Int) : Rat) = 1 := rfl
    rw [h2]
    generalize (q.num : Rat) = N at h1 ⊢
    generalize (q.den : Rat) = D at h1 hd ⊢
    subst h1
    grind
  have hle := num_le hq
  obtain ⟨k, e, hk⟩ := h
  have dg : q.den * Int.gcd 84 k = 84 := by
    have z : q.den = 84 / Int.gcd 84 k := by
      rw [e, fine_eq, Rat.den_divInt]
      rfl
    rw [z]
    exact Nat.div_mul_cancel (by have := Int.gcd_dvd_natAbs_left 84 k; simpa using this)
  have gl : Int.gcd 84 k ≤ 84 := Nat.le_of_dvd (by decide) ⟨q.den, by rw [Nat.mul_comm]; exact dg.symm⟩
  have dr : (q.den : Rat) * ((Int.gcd 84 k : Nat) : Rat) = 84 := by
    rw [← Rat.natCast_mul, dg]
    rfl
  have e3 : 1 / (q.den : Rat) = ((Int.gcd 84 k : Nat) : Rat) / 84 := by
    generalize ((Int.gcd 84 k : Nat) : Rat) = G at dr ⊢
    generalize (q.den : Rat) = D at dr hd ⊢
    grind
  rw [e1]
  refine ⟨⟨(Int.gcd 84 k : Nat) - k, ?_, by omega⟩, ?_⟩
  · rw [e3, e, Rat.intCast_sub]
    have : (((Int.gcd 84 k : Nat) : Int) : Rat) = ((Int.gcd 84 k : Nat) : Rat) := rfl
    rw [this]
    grind
  · have hp : 0 < 1 / (q.den : Rat) := by
      generalize (q.den : Rat) = D at hd
      have : 0 < D⁻¹ := Rat.inv_pos.mpr hd
      grind
    grind
theorem sc_w_step : FnScope ["_law_bag_here", "_law_found"] ["_law_bag_here"] (defScope s_w_step) := ⟨rfl, rfl, rfl, by decide +kernel, rfl, by decide +kernel, by decide +kernel⟩
theorem ok_w_step (T : Tx K mg base) : Ok P w K mg base 3 (d_w_step.loc K) ["_law_bag_here"] (spDraw fun q => Fine 901 q ∧ 0 < q) := by
  refine mk_ok (k := 2) T.f_w_step sc_w_step (fun _ _ _ _ _ _ us hl => match us, hl with | [_], _ => rfl) (fun vs H Q E h => ?_) (fun cdv A outer s H vs Q E hr h => ?_)
  · obtain ⟨p, n, rfl, _⟩ := h
    rfl
  · obtain ⟨p, n, rfl, hb, hn, k⟩ := h
    refine ⟨_, (pss_cons (ps_set (i := 1) sc_w_step.nd rfl (Or.inl rfl) (ok_call (ok_w_fraction T) (hr.mono (by decide)) rfl T.g_w_fraction passL (pa_cons (pv 0) pa_nil)))
      (pss_one (ps_ret (pe_ifExp (pt_cmpR op_gt (pe_ix ix_tup (pv 1) pe_int (fun _ _ => rfl)) pe_int (nomark _)) (pv 1) (ok_call (ok_w_frac T) (hr.mono (by decide)) rfl T.g_w_frac passL (pa_cons (pe_op op_sub pe_int (pe_ix ix_tup (pv 1) pe_int (fun _ _ => rfl))) (pa_cons (pe_ix ix_tup (pv 1) pe_int (fun _ _ => rfl)) pa_nil))))))), ?_⟩
    refine ⟨_, rfl, p, n, rfl, hb, hn, fun v q H1 x1 b1 hq fq => ?_⟩
    obtain ⟨a, rfl, ha⟩ := id hq
    refine ⟨_, rfl, a, _, 0, _, rfl, rfl, SqT.of ha, rfl, _, _, rfl, rfl, _, rfl, ?_⟩
    refine ite2 (fun h1 => ?_) (fun h1 => ?_)
    · have h1' : 0 < q.num := of_decide_eq_true h1
      exact ⟨_, rfl, k _ q H1 x1 b1 hq ⟨fq.mono (by decide), num_pos h1'⟩⟩
    · have h1' : ¬ 0 < q.num := of_decide_eq_false (by simpa using h1)
      have bq := fq.bits (by decide)
      refine ⟨_, rfl, a, _, 0, _, rfl, rfl, SqT.of ha, rfl, _, _, rfl, rfl, _, rfl, a, _, 1, _, rfl, rfl, SqT.of ha, rfl, 1 - q.num, q.den, rfl, den_ne q, ?_, ?_, fun u H2 s2 hu e2 => ?_⟩
      · have := bq.1
        have z : (2 : Nat) ^ 60 + 1 < 2 ^ 1000 := by decide +kernel
        omega
      · exact Nat.lt_trans (den_bits bq) (by decide +kernel)
      · exact k _ _ H2 (x1.trans (sameX_of s2)) (b1.up s2) ⟨u, rfl, e2⟩ (step_val fq h1')
end
end K11

set_option maxHeartbeats 4000000
namespace K11
open PySem PySem.Spec PyProof.Rows L2 AT
/-! ### the law's own points -/
def LP (H : Hp) (v : V) (p : Rat × Rat) : Prop := ∃ t x y, v = .ref t ∧ H t = some (.tup [x, y]) ∧ PQ H x p.1 ∧ PQ H y p.2
inductive LPs (H : Hp) : List V → List (Rat × Rat) → Prop
  | nil : LPs H [] []
  | cons {v : V} {p : Rat × Rat} {vs : List V} {ps : List (Rat × Rat)} : LP H v p → LPs H vs ps → LPs H (v :: vs) (p :: ps)
/-- the tuples stay -/
def SameT (H H' : Hp) : Prop := ∀ b xs, H b = some (.tup xs) → H' b = some (.tup xs)
theorem SameT.trans {H H1 H2 : Hp} (a : SameT H H1) (b : SameT H1 H2) : SameT H H2 := fun x xs e => b x xs (a x xs e)
theorem sameT_of {H H' : Hp} (s : Same H H') : SameT H H' := fun b xs e => s _ _ e
theorem sameT_box {H H' : Hp} {p : Addr} {n : Nat} (b : BoxAt H p n) (s : SameX p H H') : SameT H H' := fun x xs e => s _ _ (by
  rintro rfl
  obtain ⟨_, _, _, e2, _⟩ := b
  rw [e] at e2
  cases e2) e
theorem sameT_set {H : Hp} {D : Addr} {ys zs : List V} (h : H D = some (.lst ys)) : SameT H (upd H D (.lst zs)) := fun x xs e => by
  rw [upd_ne (by rintro rfl; rw [e] at h; cases h)]
  exact e
theorem PQ.upT {H H' : Hp} {v : V} {q : Rat} (h : PQ H v q) (s : SameT H H') : PQ H' v q := h.imp fun _ z => ⟨z.1, s _ _ z.2⟩
theorem LP.upT {H H' : Hp} {v : V} {p : Rat × Rat} (h : LP H v p) (s : SameT H H') : LP H' v p := by
  obtain ⟨t, x, y, e, h1, h2, h3⟩ := h
  exact ⟨t, x, y, e, s _ _ h1, h2.upT s, h3.upT s⟩
theorem LPs.upT {H H' : Hp} {vs : List V} {ps : List (Rat × Rat)} (h : LPs H vs ps) (s : SameT H H') : LPs H' vs ps := by
  induction h with
  | nil => exact .nil
  | cons a b ih => exact .cons (a.upT s) ih
theorem LPs.app {H : Hp} {vs : List V} {ps : List (Rat × Rat)} {v : V} {p : Rat × Rat} (h : LPs H vs ps) (g : LP H v p) : LPs H (vs ++ [v]) (ps ++ [p]) := by
  induction h with
  | nil => exact .cons g .nil
  | cons a b ih => exact .cons a ih
theorem LPs.length {H : Hp} {vs : List V} {ps : List (Rat × Rat)} (h : LPs H vs ps) : vs.length = ps.length := by
  induction h with
  | nil => rfl
  | cons a b ih => simp [ih]
theorem SameX.new {p D : Addr} {H H' : Hp} {o : HO} (s : SameX p H H') (hD : H D = none) : SameX p H (upd H' D o) := fun b u hb e => by
  rw [upd_ne (ne_of_none e hD)]
  exact s b u hb e
theorem BoxAt.new {p D : Addr} {H : Hp} {n : Nat} {o : HO} (h : BoxAt H p n) (hD : D ≠ p) : BoxAt (upd H D o) p n := by
  obtain ⟨a, b, c, e, r⟩ := h
  exact ⟨a, b, c, by rw [upd_ne (Ne.symm hD)]; exact e, r⟩
theorem rising_app : ∀ {ps : List (Rat × Rat)} {q : Rat × Rat}, Rising ps → (∀ l, ps.getLast? = some l → Below l q) → Rising (ps ++ [q])
  | [], _, _, _ => trivial
  | [p], q, _, h => ⟨h p rfl, trivial⟩
  | p :: r :: l, q, h, g => ⟨h.1, rising_app (ps := r :: l) h.2 fun x e => g x (by rw [List.getLast?_cons_cons]; exact e)⟩
def FineP (m : Nat) (p : Rat × Rat) : Prop := Fine m p.1 ∧ Fine m p.2
section
variable {P : Program} {w : World} {K : PySem.W.Frag} {mg : Str → Option Value} {base : Heap}
def spPts : Sp := fun vs H Q _ => ∃ (p : Addr) (n : Nat) (cap : Nat), vs = [.ref p, .int cap] ∧ BoxAt H p n ∧ n ≤ 1000 ∧ cap ≤ 10 ∧ ∀ D vs ps H', SameX p H H' → H D = none → BoxAt H' p (n + 500) → H' D = some (.lst vs) → LPs H' vs ps → Rising ps → ps.length ≤ cap → (∀ q ∈ ps, FineP 20000 q) → Q (.ref D) H'
def PvP (p D : Addr) (H : Hp) (n cap i : Nat) (σ' : L2.St) (H' : Hp) : Prop := ∃ (vb vc : V) (ws : List V) (ps : List (Rat × Rat)) (b c : Rat) (o5 o6 : Option V), σ' = ([some (.ref p), some (.int cap), some (.ref D), some vb, some vc, o5, o6] : L2.St) ∧ SameX p H H' ∧ BoxAt H' p (n + 7 + 20 * i) ∧ H' D = some (.lst ws) ∧ LPs H' ws ps ∧ ps.length = i ∧ Rising ps ∧ (∀ q ∈ ps, FineP 20000 q) ∧ PQ H' vb b ∧ PQ H' vc c ∧ Fine (900 + 901 * i) b ∧ Fine (900 + 901 * i) c ∧ ∀ l, ps.getLast? = some l → Below l (b, c)
theorem below_add {b c x y : Rat} (hx : 0 < x) (hy : 0 < y) : Below (b, c) (b + x, c + y) := ⟨by show b < b + x; grind, by show c < c + y; grind⟩
theorem sc_w_points : FnScope ["_law_bag_here", "_law_cap", "_law_found", "_law_beat", "_law_second", "_law_index", "_law_way"] ["_law_bag_here", "_law_cap"] (defScope s_w_points) := ⟨rfl, rfl, rfl, by decide +kernel, rfl, by decide +kernel, by decide +kernel⟩
theorem ok_w_points (T : Tx K mg base) : Ok P w K mg base 4 (d_w_points.loc K) ["_law_bag_here", "_law_cap"] spPts := by
  refine mk_ok (k := 3) T.f_w_points sc_w_points (fun _ _ _ _ _ _ us hl => match us, hl with | [_, _], _ => rfl) (fun vs H Q E h => ?_) (fun cdv A outer s H vs Q E hr h => ?_)
  · obtain ⟨p, n, cap, rfl, _⟩ := h
    rfl
  · obtain ⟨p, n, cap, rfl, hb, hn, hcap, k⟩ := h
    refine ⟨_, (pss_cons (ps_par3 (by rfl) sc_w_points.nd (i := 2) (j := 3) (l := 4) rfl rfl rfl (by decide) (by decide) (by decide) rfl rfl rfl (pa_cons (pe_lst pa_nil) (pa_cons (ok_call (ok_w_fraction T) (hr.mono (by decide)) rfl T.g_w_fraction passL (pa_cons (pv 0) pa_nil)) (pa_cons (ok_call (ok_w_fraction T) (hr.mono (by decide)) rfl T.g_w_fraction passL (pa_cons (pv 0) pa_nil)) pa_nil))) (by rfl))
      (pss_cons (ps_for (passes_of rfl) rfl (pi_range1 (by rfl) T.b_range (pa_cons (ok_call (ok_w_take T) (hr.mono (by decide)) rfl T.g_w_take passL (pa_cons (pv 0) (pa_cons (pe_op op_add (pv 1) pe_int) pa_nil))) pa_nil)) (pg_name (i := 5) sc_w_points.nd rfl (Or.inl rfl)) (pss_cons (ps_expr (pe_bm PySem.F.plainAttrs_list PySem.F.slot_list_append PySem.F.type_list_append mt_append (pv 2) (pa_cons (pe_tup (pa_cons (pv 3) (pa_cons (pv 4) pa_nil))) pa_nil)))
      (pss_cons (ps_set (i := 3) sc_w_points.nd rfl (Or.inl rfl) (ok_call (ok_w_sum T) (hr.mono (by decide)) rfl T.g_w_sum passL (pa_cons (pv 3) (pa_cons (ok_call (ok_w_step T) (hr.mono (by decide)) rfl T.g_w_step passL (pa_cons (pv 0) pa_nil)) pa_nil))))
      (pss_cons (ps_set (i := 6) sc_w_points.nd rfl (Or.inl rfl) (ok_call (ok_w_take T) (hr.mono (by decide)) rfl T.g_w_take passL (pa_cons (pv 0) (pa_cons pe_int pa_nil))))
      (pss_one (ps_set (i := 4) sc_w_points.nd rfl (Or.inl rfl) (pe_ifExp (pt_cmpR op_gt (pv 6) pe_int (nomark _)) (ok_call (ok_w_sum T) (hr.mono (by decide)) rfl T.g_w_sum passL (pa_cons (pv 4) (pa_cons (ok_call (ok_w_step T) (hr.mono (by decide)) rfl T.g_w_step passL (pa_cons (pv 0) pa_nil)) pa_nil))) (ok_call (ok_w_sum T) (hr.mono (by decide)) rfl T.g_w_sum passL (pa_cons (pv 4) (pa_cons (ok_call (ok_w_rest T) (hr.mono (by decide)) rfl T.g_w_rest passL (pa_cons (pv 3) (pa_cons (pe_ix ix_tup (pe_ix ix_list (pv 2) (pe_un un_neg pe_int) (fun _ _ => rfl)) pe_int (fun _ _ => rfl)) pa_nil))) pa_nil))))))))))
      (pss_one (ps_ret (pv 2))))), ?_⟩
    have hsz : sizeLine = 16777216 := sizeLine_eq
    refine ⟨Nat.zero_le _, fun D hD => ?_⟩
    have hDp := box_ne hb hD
    refine ⟨_, rfl, p, n, rfl, hb.new hDp, (by omega), fun v1 q1 H1 x1 b1 pq1 f1 => ?_⟩
    refine ⟨_, rfl, p, _, rfl, b1, (by omega), fun v2 q2 H2 x2 b2 pq2 f2 => ?_⟩
    have hD3 : H2 D = some (.lst []) := x2 _ _ hDp (x1 _ _ hDp upd_same)
    have sx3 : SameX p H H2 := ((SameX.new (SameX.refl p H) hD).trans x1).trans x2
    have pq1' := pq1.upX b1 x2
    refine ⟨_, _, _, rfl, ?_⟩
    have b3 := b2
    refine ⟨_, rfl, _, rfl, _, _, rfl, rfl, p, _, _, rfl, b3, (by omega), (by omega), big (by omega), fun r H4 c1 c2 x4 b4 => ?_⟩
    refine ⟨r, rfl, (by omega), (by omega), for_range (lo := 0) (n := r.toNat) (PvP p D H n cap) ?_ ?_ ?_⟩
    · refine ⟨v1, v2, [], [], q1, q2, _, _, rfl, sx3.trans x4, b4.mono (by omega), x4 _ _ hDp hD3, .nil, rfl, trivial, (fun _ h => nomatch h), pq1'.upX b3 x4, pq2.upX b3 x4, f1.mono (by omega), f2.mono (by omega), (fun _ h => nomatch h)⟩
    · rintro i σ' H' hi ⟨vb, vc, ws, ps, b, c, o5, o6, rfl, sx, bx, hl, lp, lps, hris, hfine, pb, pc, fb, fc, hlast⟩
      have i10 : i < 10 := by omega
      have lw := lp.length
      refine ⟨_, rfl, tyV_lst hl, _, rfl, _, rfl, (by show 2 ≤ sizeLine; decide), fun tn htn => ?_⟩
      have sA := AT.Same.up (o := .tup [vb, vc]) htn
      have hlA := sA _ _ hl
      refine ⟨D, ws, _, rfl, rfl, hlA, (by omega), ?_⟩
      have tA : SameT H' (upd (upd H' tn (.tup [vb, vc])) D (.lst (ws ++ [.ref tn]))) := (sameT_of sA).trans (sameT_set hlA)
      have bA : BoxAt (upd (upd H' tn (.tup [vb, vc])) D (.lst (ws ++ [.ref tn]))) p (n + 7 + 20 * i) := (bx.up sA).new hDp
      have xA : SameX p H (upd (upd H' tn (.tup [vb, vc])) D (.lst (ws ++ [.ref tn]))) := SameX.new (sx.trans (sameX_of sA)) hD
      have ntD : tn ≠ D := by rintro rfl; rw [hl] at htn; cases htn
      have hlB : upd (upd H' tn (.tup [vb, vc])) D (.lst (ws ++ [.ref tn])) D = some (.lst (ws ++ [.ref tn])) := upd_same
      have htB : upd (upd H' tn (.tup [vb, vc])) D (.lst (ws ++ [.ref tn])) tn = some (.tup [vb, vc]) := by rw [upd_ne ntD]; exact upd_same
      generalize upd (upd H' tn (.tup [vb, vc])) D (.lst (ws ++ [.ref tn])) = HA at tA bA xA hlB htB ⊢
      have lpA : LPs HA (ws ++ [.ref tn]) (ps ++ [(b, c)]) := (lp.upT tA).app ⟨tn, vb, vc, rfl, htB, pb.upT tA, pc.upT tA⟩
      have bb : Bits 400 b := (fb.bits (by omega)).mono (by decide)
      have bc : Bits 400 c := (fc.bits (by omega)).mono (by decide)
      -- beat
      refine ⟨_, rfl, _, rfl, p, _, rfl, bA, (by omega), fun v3 st HB xB bB p3 f3 => ?_⟩
      obtain ⟨f3, z3⟩ := f3
      have b3' : Bits 400 st := (f3.bits (by decide)).mono (by decide)
      refine ⟨vb, v3, b, st, rfl, (pb.upT tA).upX bA xB, p3, bb, b3', fun v4 HC sC p4 => ?_⟩
      have tC : SameT HA HC := (sameT_box bA xB).trans (sameT_of sC)
      have xC : SameX p HA HC := xB.trans (sameX_of sC)
      have bC := bB.up sC
      have f4 : Fine (900 + 901 * i + 901) (b + st) := fb.add f3
      -- way
      refine ⟨_, rfl, p, _, _, rfl, bC, (by omega), (by decide), (by decide +kernel), fun rw HD d1 d2 xD bD => ?_⟩
      have tD : SameT HA HD := tC.trans (sameT_box bC xD)
      have xD' : SameX p HA HD := xC.trans xD
      have p4D : PQ HD v4 (b + st) := p4.upX bC xD
      have hlD : HD D = some (.lst (ws ++ [.ref tn])) := xD' _ _ hDp hlB
      have fin : ∀ (v5 : V) (s5 : Rat) (HE : Hp) (o5 : Option V), SameT HD HE → SameX p HD HE → BoxAt HE p (n + 7 + 20 * (i + 1)) → PQ HE v5 (c + s5) → Fine 901 s5 → 0 < s5 → PvP p D H n cap (i + 1) ([some (.ref p), some (.int cap), some (.ref D), some v4, some v5, o5, some (.int rw)] : L2.St) HE := by
        intro v5 s5 HE o5 tE xE bE p5 f5 z5
        refine ⟨v4, v5, ws ++ [.ref tn], ps ++ [(b, c)], b + st, c + s5, o5, _, rfl, (xA.trans xD').trans xE, bE, xE _ _ hDp hlD, lpA.upT (tD.trans tE), (by rw [List.length_append, lps]; rfl), rising_app hris hlast, ?_, p4D.upT tE, p5, f4.mono (by omega), (fc.add f5).mono (by omega), ?_⟩
        · intro q hq
          rcases List.mem_append.mp hq with z | z
          · exact hfine q z
          · rw [List.mem_singleton.mp z]
            exact ⟨fb.mono (by omega), fc.mono (by omega)⟩
        · intro l hl
          rw [List.getLast?_append] at hl
          simp at hl
          subst hl
          exact below_add z3 z5
      refine ⟨_, rfl, _, _, rfl, rfl, _, rfl, ?_⟩
      refine ite2 (fun h1 => ?_) (fun h1 => ?_)
      · refine ⟨_, rfl, _, rfl, p, _, rfl, bD, (by omega), fun v5 s5 HE xE bE p5 f5 => ?_⟩
        obtain ⟨f5, z5⟩ := f5
        refine ⟨vc, v5, c, s5, rfl, (pc.upT (tA.trans tD)).upX bD xE, p5, bc, (f5.bits (by decide)).mono (by decide), fun v6 HF sF p6 => ?_⟩
        exact fin v6 s5 HF _ ((sameT_box bD xE).trans (sameT_of sF)) (xE.trans (sameX_of sF)) ((bE.up sF).mono (by omega)) p6 f5 z5
      · refine ⟨_, rfl, _, rfl, _, rfl, _, rfl, D, _, _, _, rfl, rfl, SqL.of hlD, at_last (x := .ref tn) (by rw [List.getLast?_append]; rfl), tn, _, 0, _, rfl, rfl, SqT.of (tD _ _ htB), rfl, v4, vb, b + st, b, rfl, p4D, pb.upT (tA.trans tD), (f4.bits (by omega)).mono (by decide), bb, fun v5 HE sE p5 => ?_⟩
        have e5 : b + st - b = st := by grind
        have p5 : PQ HE v5 (b + st - b) := p5
        rw [e5] at p5
        refine ⟨vc, v5, c, st, rfl, (pc.upT (tA.trans tD)).up sE, p5, bc, b3', fun v6 HF sF p6 => ?_⟩
        exact fin v6 st HF _ (sameT_of (sE.trans sF)) (sameX_of (sE.trans sF)) ((bD.up (sE.trans sF)).mono (by omega)) p6 f3 z3
    · rintro σ' H' ⟨vb, vc, ws, ps, b, c, o5, o6, rfl, sx, bx, hl, lp, lps, hris, hfine, pb, pc, fb, fc, hlast⟩
      exact ⟨_, rfl, k D ws ps H' sx hD (bx.mono (by omega)) hl lp hris (by omega) hfine⟩
end
end K11

set_option maxHeartbeats 4000000
namespace K11
open PySem PySem.Spec PyProof.Rows L2 AT
section
variable {P : Program} {w : World} {K : PySem.W.Frag} {mg : Str → Option Value} {base : Heap}
theorem bend_ne (ps : List (Rat × Rat)) : bendQ ps ≠ [] := by
  unfold bendQ
  split
  · simp
  · assumption
theorem NoItem.up {H H' : Hp} {v : V} (h : NoItem K H v) (s : Same H H') : NoItem K H' v := by
  obtain ⟨av, h | ⟨xs, h1, h2⟩ | ⟨x, y, h1, a1, a2, h2 | ⟨h2, h3⟩⟩⟩ := h
  · exact ⟨av.up s, .inl (noSq_up av h s)⟩
  · exact ⟨av.up s, .inr (.inl ⟨xs, h1.up s, h2⟩)⟩
  · exact ⟨av.up s, .inr (.inr ⟨x, y, h1.up s, a1.up s, a2.up s, .inl (noA_up a1 h2 s)⟩)⟩
  · exact ⟨av.up s, .inr (.inr ⟨x, y, h1.up s, a1.up s, a2.up s, .inr ⟨isA_up h2 s, noA_up a2 h3 s⟩⟩)⟩
/-- what is told of the items xs -/
def Told (K : PySem.W.Frag) (H : Hp) (v : V) (r : List V) : Prop :=
  ((¬ ∃ xs, Sq H v xs) ∧ r = [.str "part", v, .bl true]) ∨
  ∃ xs ps, Sq H v xs ∧ xs.length < 1000 ∧ (∀ (i : Nat) (p : Rat × Rat), ps[i]? = some p → BitsP 400 p ∧ ∃ x, xs[i]? = some x ∧ Item K H x p) ∧ Rising ps ∧
    ((ps.length = xs.length ∧ r = [.str "told", .bl true]) ∨ (∃ x, xs[ps.length]? = some x ∧ NoItem K H x ∧ r = [.str "point", x, .bl true]) ∨
      (∃ x p q, xs[ps.length]? = some x ∧ Item K H x q ∧ BitsP 3000 q ∧ ps.getLast? = some p ∧ ¬ Below p q ∧ r = [.str "falling", .int (ps.length : Nat), .bl true]))
def spCaught (K : PySem.W.Frag) : Sp := fun vs H Q _ => ∃ v r, vs = [v] ∧ AnyV K H v ∧ Told K H v r ∧ ∀ q H', Same H H' → H q = none → H' q = some (.lst r) → Q (.ref q) H'
theorem sc_w_caught : FnScope ["_law_points_here", "e"] ["_law_points_here"] (defScope s_w_caught) := ⟨rfl, rfl, rfl, by decide +kernel, rfl, by decide +kernel, by decide +kernel⟩
theorem ok_w_caught (T : Tx K mg base) : Ok P w K mg base 14 (d_w_caught.loc K) ["_law_points_here"] (spCaught K) := by
  refine mk_ok (k := 13) T.f_w_caught sc_w_caught (fun _ _ _ _ _ _ us hl => match us, hl with | [_], _ => rfl) (fun vs H Q E h => ?_) (fun cdv A outer s H vs Q E hr h => ?_)
  · obtain ⟨v, r, rfl, _⟩ := h
    rfl
  · obtain ⟨v, r, rfl, hv, ht, k⟩ := h
    refine ⟨_, (pss_one (ps_try_mas (tb := _) rfl rfl takes0 (fun W pn xe tk _ => (pss_one (ps_ret (pe_lst (pa_cons pe_str (pa_cons (pe_cmpR (show OpR _ _ (rNeL K) from op_neL hr.units) (ok_meth0 T.cls_TempoMap T.m_TempoMap_points (ok_TempoMap_points T) (hr.mono (by decide)) passL (ok_makeS T.mkr_TempoMap (ok_TempoMap_init_ T) (hr.mono (by decide)) rfl T.g_TempoMap tk (pa_cons (pv 0) pa_nil)) ) (pe_lst pa_nil) (nomark _)) pa_nil)))))) (.cons sc_w_caught.nd (i := 1) rfl rfl ⟨rfl, by decide, .inl T.g_InvalidPart⟩ (fun a oe cls d pn hz hf => (pss_one (ps_ret (pe_lst (pa_cons pe_str (pa_cons (pe_xf T.xc_InvalidPart.xf T.xc_InvalidPart.no hz hf (pv 1)) (pa_cons (pe_callB (call_isX (d := 0) T.xk_InvalidPart hz hf) (by rfl) T.b_isinstance (by decide +kernel) (pa_cons (pv 1) (pa_cons (pe_gr T.g_CueError) pa_nil))) pa_nil))))))) (.cons sc_w_caught.nd (i := 1) rfl rfl ⟨rfl, by decide, .inl T.g_InvalidPoint⟩ (fun a oe cls d pn hz hf => (pss_one (ps_ret (pe_lst (pa_cons pe_str (pa_cons (pe_xf T.xc_InvalidPoint.xf T.xc_InvalidPoint.no hz hf (pv 1)) (pa_cons (pe_callB (call_isX (d := 0) T.xk_InvalidPoint hz hf) (by rfl) T.b_isinstance (by decide +kernel) (pa_cons (pv 1) (pa_cons (pe_gr T.g_CueError) pa_nil))) pa_nil))))))) (.cons sc_w_caught.nd (i := 1) rfl rfl ⟨rfl, by decide, .inl T.g_Falling⟩ (fun a oe cls d pn hz hf => (pss_one (ps_ret (pe_lst (pa_cons pe_str (pa_cons (pe_xf T.xc_Falling.xf T.xc_Falling.no hz hf (pv 1)) (pa_cons (pe_callB (call_isX (d := 0) T.xk_Falling hz hf) (by rfl) T.b_isinstance (by decide +kernel) (pa_cons (pv 1) (pa_cons (pe_gr T.g_CueError) pa_nil))) pa_nil))))))) .nil))))), ?_⟩
    refine ⟨_, rfl, fun m dx hm hdx hne => ?_⟩
    have s1 : Same H (upd (upd H dx (.own m)) m (.ins (cM K) dx [])) := AT.Same.new (AT.Same.up hdx) hm
    have hm1 : upd (upd H dx (.own m)) m (.ins (cM K) dx []) m = some (.ins (cM K) dx []) := upd_same
    refine ⟨m, dx, v, rfl, hm1, hv.up s1, ?_⟩
    generalize upd (upd H dx (.own m)) m (.ins (cM K) dx []) = H1 at s1 hm1 ⊢
    rcases ht with ⟨hn, rfl⟩ | ⟨xs, ps, hx, hlen, hps, hris, hend⟩
    · refine .inl ⟨noSq_up hv hn s1, fun H2 d s2 hd hx => ⟨true, T.ex_InvalidPart_InvalidPart, fun _ a ha => ?_, nofun⟩⟩
      exact ⟨_, rfl, rfl, rfl, d, _, v, rfl, hx, rfl, _, rfl, rfl, d, rfl, _, _, _, _, rfl, .own _, T.kb_InvalidPart, hx, (by show 3 ≤ sizeLine; decide), fun q hq => k q _ ((s1.trans s2).trans (AT.Same.up hq)) (none_of (s1.trans s2) hq) upd_same⟩
    · refine .inr ⟨xs, ps, hx.up s1, hlen, (fun i p e => ⟨(hps i p e).1, (hps i p e).2.imp fun x z => ⟨z.1, z.2.up s1⟩⟩), hris, ?_⟩
      rcases hend with ⟨e, rfl⟩ | ⟨x, e, ni, rfl⟩ | ⟨x, p, q, e, it, bq, lp, nb, rfl⟩
      · refine .inl ⟨e, fun H2 keep im => ⟨rfl, ?_⟩⟩
        have s2 : Same H H2 := fun b o z => keep b o (ne_of_none z hm) (s1 _ _ z)
        obtain ⟨dm, tm, wm, h1, h2, h3⟩ := id im
        refine ⟨m, dm, _, rfl, h1, rfl, m, _, rfl, im, fun D us H3 s3 hD hl hp => ?_⟩
        refine ⟨Nat.zero_le _, fun z hz => ?_⟩
        have s4 := AT.Same.up (o := .lst []) hz
        refine ⟨D, z, us, [], rfl, rfl, SqL.of (s4 _ _ hl), SqL.of upd_same, ?_, (by show 2 ≤ sizeLine; decide), fun q hq => ?_⟩
        · intro z0
          have z1 := hp.length
          rw [z0] at z1
          exact bend_ne ps (List.length_eq_zero_iff.mp z1.symm)
        · exact k q _ (((s2.trans s3).trans s4).trans (AT.Same.up hq)) (none_of ((s2.trans s3).trans s4) hq) upd_same
      · refine .inr (.inl ⟨x, e, ni.up s1, fun H2 d s2 hd hx => ⟨false, T.ex_InvalidPoint_InvalidPart, nofun, fun _ => ⟨true, T.ex_InvalidPoint_InvalidPoint, fun _ a ha => ?_, nofun⟩⟩⟩)
        exact ⟨_, rfl, rfl, rfl, d, _, x, rfl, hx, rfl, _, rfl, rfl, d, rfl, _, _, _, _, rfl, .own _, T.kb_InvalidPoint, hx, (by show 3 ≤ sizeLine; decide), fun q hq => k q _ ((s1.trans s2).trans (AT.Same.up hq)) (none_of (s1.trans s2) hq) upd_same⟩
      · refine .inr (.inr ⟨x, p, q, e, it.up s1, bq, lp, nb, fun H2 d s2 hd hx => ⟨false, T.ex_Falling_InvalidPart, nofun, fun _ => ⟨false, T.ex_Falling_InvalidPoint, nofun, fun _ => ⟨true, T.ex_Falling_Falling, fun _ a ha => ?_, nofun⟩⟩⟩⟩)
        exact ⟨_, rfl, rfl, rfl, d, _, _, rfl, hx, rfl, _, rfl, rfl, d, rfl, _, _, _, _, rfl, .own _, T.kb_Falling, hx, (by show 3 ≤ sizeLine; decide), fun q hq => k q _ ((s1.trans s2).trans (AT.Same.up hq)) (none_of (s1.trans s2) hq) upd_same⟩
end
end K11

set_option maxHeartbeats 4000000
namespace K11
open PySem PySem.Spec PyProof.Rows L2 AT
section
variable {P : Program} {w : World} {K : PySem.W.Frag} {mg : Str → Option Value} {base : Heap}
/-- a row [x, y] of two amounts -/
def Row (K : PySem.W.Frag) (H : Hp) (v : V) (p : Rat × Rat) : Prop := ∃ r x y : Addr, v = .ref r ∧ H r = some (.lst [.ref x, .ref y]) ∧ IsQ K H x p.1 ∧ IsQ K H y p.2
/-- all objects but these are as they were -/
def SameO (bad : List Addr) (H H' : Hp) : Prop := ∀ b o, b ∉ bad → H b = some o → H' b = some o
theorem or_way {c : Bool} {A R : Prop} (hc : c = true ∨ (c = false ∧ (A → R))) (h : A) : if c = true then A else R := by
  rcases hc with rfl | ⟨rfl, f⟩
  · exact h
  · exact f h
theorem ixn_nat {n j : Nat} (h : j < n) : ixN n (j : Int) = some j := by
  unfold ixN
  rw [if_pos (by omega), if_pos (by omega)]
  simp
theorem Row.upO {bad : List Addr} {H H' : Hp} {v : V} {p : Rat × Rat} (h : Row K H v p) (s : SameO bad H H') (hb : ∀ b ∈ bad, ∃ xs, H b = some (.lst xs) ∧ ∀ x y, xs ≠ [.ref x, .ref y]) : Row K H' v p := by
  obtain ⟨r, x, y, e, h1, ⟨d2, h2⟩, ⟨d3, h3⟩⟩ := h
  have n1 : r ∉ bad := fun m => by obtain ⟨xs, e, ne⟩ := hb r m; rw [h1] at e; cases e; exact ne _ _ rfl
  have n2 : x ∉ bad := fun m => by obtain ⟨xs, e, _⟩ := hb x m; rw [h2] at e; cases e
  have n3 : y ∉ bad := fun m => by obtain ⟨xs, e, _⟩ := hb y m; rw [h3] at e; cases e
  exact ⟨r, x, y, e, s _ _ n1 h1, ⟨d2, s _ _ n2 h2⟩, ⟨d3, s _ _ n3 h3⟩⟩
theorem Row.up {H H' : Hp} {v : V} {p : Rat × Rat} (h : Row K H v p) (s : Same H H') : Row K H' v p := by
  obtain ⟨r, x, y, e, h1, h2, h3⟩ := h
  exact ⟨r, x, y, e, s _ _ h1, h2.up s, h3.up s⟩
theorem no_dct {H : Hp} {a : Addr} {kvs : List (Key × V)} (e : H a = some (.dK kvs)) : ¬ ∃ xs, Sq H (.ref a) xs := by
  rintro ⟨xs, b, q, z⟩
  cases q
  rw [e] at z
  rcases z with z | z <;> cases z
def Spo (K : PySem.W.Frag) (H H' : Hp) (ps : List (Rat × Rat)) (k : Nat) (v : V) (D : Addr) : Prop :=
  (NoItem K H' v ∧ H' D = some (.lst [.str "point", v, .bl true]) ∧ v ≠ .ref D ∧ (∀ a, v = .ref a → H a = none) ∧ ∀ a ys, v = .ref a → H' a = some (.lst ys) → ys.length ≤ 3) ∨
  (∃ i qB q, k = i + 1 ∧ ps[i]? = some qB ∧ Item K H' v q ∧ BitsP 3000 q ∧ ¬ Below qB q ∧ H' D = some (.lst [.str "falling", .int k, .bl true]))
def spSpoil (K : PySem.W.Frag) : Sp := fun vs H Q _ => ∃ (p L : Addr) (n k : Nat) (xs : List V) (ps : List (Rat × Rat)), vs = [.ref p, .ref L, .int k] ∧ BoxAt H p n ∧ n ≤ 1000 ∧ H L = some (.lst xs) ∧ k < xs.length ∧
  (∀ i, i ≤ k → ∃ v q, xs[i]? = some v ∧ ps[i]? = some q ∧ Row K H v q ∧ BitsP 400 q) ∧ p ≠ L ∧
  ∀ D v H', SameO [p, L] H H' → BoxAt H' p (n + 2) → H' L = some (.lst (xs.set k v)) → H D = none → Spo K H H' ps k v D → Q (.ref D) H'
theorem sc_w_spoilt : FnScope ["_law_bag_here", "_law_passed", "_law_at", "_law_one", "_law_two", "_law_way", "_law_odds", "_law_before", "_law_less_here"] ["_law_bag_here", "_law_passed", "_law_at"] (defScope s_w_spoilt) := ⟨rfl, rfl, rfl, by decide +kernel, rfl, by decide +kernel, by decide +kernel⟩
theorem ok_w_spoilt (T : Tx K mg base) : Ok P w K mg base 8 (d_w_spoilt.loc K) ["_law_bag_here", "_law_passed", "_law_at"] (spSpoil K) := by
  refine mk_ok (k := 7) T.f_w_spoilt sc_w_spoilt (fun _ _ _ _ _ _ us hl => match us, hl with | [_, _, _], _ => rfl) (fun vs H Q E h => ?_) (fun cdv A outer s H vs Q E hr h => ?_)
  · obtain ⟨p, L, n, k, xs, ps, rfl, _⟩ := h
    rfl
  · obtain ⟨p, L, n, k, xs, ps, rfl, hb, hn, hL, hk, hrow, hpL, kk⟩ := h
    refine ⟨_, (pss_cons (ps_asg (pe_ix ix_list (pv 1) (pv 2) (fun _ _ => rfl)) (pg_lst rfl (pgs_cons (pg_name (i := 3) sc_w_spoilt.nd rfl (Or.inl rfl)) (pgs_cons (pg_name (i := 4) sc_w_spoilt.nd rfl (Or.inl rfl)) pgs_nil))))
      (pss_cons (ps_set (i := 5) sc_w_spoilt.nd rfl (Or.inl rfl) (ok_call (ok_w_take T) (hr.mono (by decide)) rfl T.g_w_take passL (pa_cons (pv 0) (pa_cons pe_int pa_nil))))
      (pss_cons (ps_if (PW.pt (pw_or (pt_cmpR op_lt (pv 5) pe_int (nomark _)) (pw_or1 (pt_cmpR op_eq (pv 2) pe_int (nomark _))))) (pss_cons (ps_set (i := 6) sc_w_spoilt.nd rfl (Or.inl rfl) (pe_lst (pa_cons pe_non (pa_cons pe_int (pa_cons pe_str (pa_cons (pe_lst (pa_cons (pv 3) pa_nil)) (pa_cons (pe_lst (pa_cons (pv 3) (pa_cons (pv 4) (pa_cons pe_int pa_nil)))) (pa_cons pe_dnewK (pa_cons (pe_lst (pa_cons (pv 3) (pa_cons pe_non pa_nil))) (pa_cons (pe_lst (pa_cons pe_bl (pa_cons (pv 4) pa_nil))) (pa_cons (pe_lst (pa_cons pe_str (pa_cons (pv 4) pa_nil))) (pa_cons (pe_lst (pa_cons (pv 3) (pa_cons pe_str pa_nil))) (pa_cons (pe_disp (pps_cons pe_int pe_int (pps_cons pe_int pe_int pps_nil)) (by rfl) (by rfl) (fun z => by cases z) (by decide)) pa_nil)))))))))))))
      (pss_cons (ps_asg (pe_ix ix_list (pv 6) (ok_call (ok_w_take T) (hr.mono (by decide)) rfl T.g_w_take passL (pa_cons (pv 0) (pa_cons pe_int pa_nil))) (fun _ _ => rfl)) (pg_sub (pv 1) (pv 2) set_list))
      (pss_one (ps_ret (pe_lst (pa_cons pe_str (pa_cons (pe_ix ix_list (pv 1) (pv 2) (fun _ _ => rfl)) (pa_cons pe_bl pa_nil)))))))) pss_nil)
      (pss_cons (ps_set (i := 7) sc_w_spoilt.nd rfl (Or.inl rfl) (pe_ix ix_list (pv 1) (pe_op op_sub (pv 2) pe_int) (fun _ _ => rfl)))
      (pss_cons (ps_set (i := 8) sc_w_spoilt.nd rfl (Or.inl rfl) (pe_ix ix_list (pe_lst (pa_cons (ok_makeD T.mkr_Amount (okd_Amount_init_ T) (hr.mono (by decide)) rfl T.g_Amount (passE rfl rfl rfl rfl) (pa_cons pe_int pa_nil)) (pa_cons (ok_make T.mkr_Amount (ok_Amount_init_ T) (hr.mono (by decide)) rfl T.g_Amount (passE rfl rfl rfl rfl) (pa_cons pe_int (pa_cons pe_int pa_nil))) (pa_cons (ok_makeD T.mkr_Amount (okd_Amount_init_ T) (hr.mono (by decide)) rfl T.g_Amount (passE rfl rfl rfl rfl) (pa_cons pe_int pa_nil)) pa_nil)))) (ok_call (ok_w_take T) (hr.mono (by decide)) rfl T.g_w_take passL (pa_cons (pv 0) (pa_cons pe_int pa_nil))) (fun _ _ => rfl)))
      (pss_cons (ps_if (pt_cmpR op_eq (pv 5) pe_int (nomark _)) (pss_one (ps_asg (pe_lst (pa_cons (pe_op (op_own T.op_Amount_sub (ok_Amount_sub_ T) (hr.mono (by decide)) (passE rfl rfl rfl rfl)) (pe_ix ix_list (pv 7) pe_int (fun _ _ => rfl)) (pv 8)) (pa_cons (pv 4) pa_nil))) (pg_sub (pv 1) (pv 2) set_list))) (pss_one (ps_if (pt_cmpR op_eq (pv 5) pe_int (nomark _)) (pss_one (ps_asg (pe_lst (pa_cons (pv 3) (pa_cons (pe_op (op_own T.op_Amount_sub (ok_Amount_sub_ T) (hr.mono (by decide)) (passE rfl rfl rfl rfl)) (pe_ix ix_list (pv 7) pe_int (fun _ _ => rfl)) (pv 8)) pa_nil))) (pg_sub (pv 1) (pv 2) set_list))) (pss_one (ps_asg (pe_lst (pa_cons (pe_op (op_own T.op_Amount_sub (ok_Amount_sub_ T) (hr.mono (by decide)) (passE rfl rfl rfl rfl)) (pe_ix ix_list (pv 7) pe_int (fun _ _ => rfl)) (pv 8)) (pa_cons (pe_op (op_own T.op_Amount_sub (ok_Amount_sub_ T) (hr.mono (by decide)) (passE rfl rfl rfl rfl)) (pe_ix ix_list (pv 7) pe_int (fun _ _ => rfl)) (pv 8)) pa_nil))) (pg_sub (pv 1) (pv 2) set_list))))))
      (pss_one (ps_ret (pe_lst (pa_cons pe_str (pa_cons (pv 2) (pa_cons pe_bl pa_nil)))))))))))), ?_⟩
    obtain ⟨v0, q0, hv0, hq0, ⟨r, x, y, rfl, hr0, hx, hy⟩, bq0⟩ := hrow k (Nat.le_refl _)
    refine ⟨_, rfl, _, rfl, L, _, _, _, rfl, rfl, SqL.of hL, atI_nat hv0, r, _, rfl, SqL.of hr0, rfl, _, _, rfl, _, _, rfl, rfl, ?_⟩
    refine ⟨_, rfl, p, _, _, rfl, hb, (by omega), (by decide), (by decide +kernel), fun w0 H1 w1 w2 x1 b1 => ?_⟩
    have xL : ∀ {b : Addr} {o : HO}, b ∉ [p, L] → H b = some o → H1 b = some o := fun nb e => x1 _ _ (fun z => nb (by simp [z])) e
    have hL1 : H1 L = some (.lst xs) := x1 _ _ (Ne.symm hpL) hL
    have nin : ∀ {b : Addr} {C d : Addr} {fs : List (Str × V)}, H b = some (.ins C d fs) → b ∉ [p, L] := by
      intro b C d fs e hm
      simp only [List.mem_cons, List.not_mem_nil, or_false] at hm
      rcases hm with rfl | rfl
      · obtain ⟨_, _, _, e2, _⟩ := hb
        rw [e] at e2; cases e2
      · rw [e] at hL; cases hL
    have hx1 : IsQ K H1 x q0.1 := hx.imp fun _ e => xL (nin e) e
    have hy1 : IsQ K H1 y q0.2 := hy.imp fun _ e => xL (nin e) e
    have nx : x ∉ [p, L] := nin hx.choose_spec
    have ny : y ∉ [p, L] := nin hy.choose_spec
    have s01 : SameO [p, L] H H1 := fun b o nb e => xL nb e
    have newH : ∀ {H' : Hp} {D : Addr}, SameO [p, L] H H' → (∃ m, BoxAt H' p m) → (∃ ys, H' L = some (.lst ys)) → H' D = none → H D = none := by
      intro H' D sm ⟨m, bm⟩ ⟨ys, hys⟩ hD
      cases e : H D with
      | none => rfl
      | some o =>
        by_cases hm : D ∈ [p, L]
        · simp only [List.mem_cons, List.not_mem_nil, or_false] at hm
          rcases hm with rfl | rfl
          · obtain ⟨_, _, _, e2, _⟩ := bm
            rw [hD] at e2; cases e2
          · rw [hD] at hys; cases hys
        · rw [sm _ _ hm e] at hD; cases hD
    by_cases hc : w0 < 2 ∨ k = 0
    · refine ⟨_, rfl, _, _, rfl, rfl, _, rfl, or_way ?_ (iteT ?_)⟩
      · by_cases h1 : w0 < 2
        · exact .inl (decide_eq_true h1)
        · refine .inr ⟨decide_eq_false h1, fun o => ⟨_, rfl, rfl, _, rfl, ?_⟩⟩
          rw [decide_eq_true (show V.int (k : Int) = V.int 0 by rw [hc.resolve_left h1]; rfl)]
          exact o
      refine ⟨_, rfl, (by show 1 ≤ sizeLine; decide), fun o1 g1 => ⟨_, rfl, _, rfl, (by show 3 ≤ sizeLine; decide), fun o2 g2 => fun d1 g3 => ⟨_, rfl, (by show 2 ≤ sizeLine; decide), fun o3 g4 => ⟨_, rfl, (by show 2 ≤ sizeLine; decide), fun o4 g5 => ⟨_, rfl, (by show 2 ≤ sizeLine; decide), fun o5 g6 => ⟨_, rfl, (by show 2 ≤ sizeLine; decide), fun o6 g7 => fun d2 g8 => ⟨upd_same, [(.inl 0, .int 1), (.inl 2, .int 3)], rfl, by decide, (by show 11 ≤ sizeLine; decide), fun O gO => ?_⟩⟩⟩⟩⟩⟩⟩
      have v0 : ∃ H0 : Hp, H0 = upd (upd (upd (upd (upd (upd (upd (upd (upd (upd H1 o1 (.lst [.ref x])) o2 (.lst [.ref x, .ref y, .int 0])) d1 (.dK [])) o3 (.lst [.ref x, .non])) o4 (.lst [.bl true, .ref y])) o5 (.lst [.str "1", .ref y])) o6 (.lst [.ref x, .str "0"])) d2 (.dK [])) d2 (.dK (mergeK [] [(.inl 0, .int 1), (.inl 2, .int 3)]))) O (.lst [.non, .int 7, .str "12", .ref o1, .ref o2, .ref d1, .ref o3, .ref o4, .ref o5, .ref o6, .ref d2]) := ⟨_, rfl⟩
      obtain ⟨H0, e0⟩ := v0
      have y8 : Same _ H0 := (e0 ▸ AT.Same.up gO)
      have w8 : H0 d2 = _ := y8 _ _ upd_same
      have y7 := (AT.Same.new (o := .dK (mergeK [] [(.inl 0, .int 1), (.inl 2, .int 3)])) (AT.Same.up (o := .dK []) g8) g8).trans y8
      have w7 : H0 o6 = _ := y7 _ _ upd_same
      have y6 := (AT.Same.up g7).trans y7
      have w6 : H0 o5 = _ := y6 _ _ upd_same
      have y5 := (AT.Same.up g6).trans y6
      have w5 : H0 o4 = _ := y5 _ _ upd_same
      have y4 := (AT.Same.up g5).trans y5
      have w4 : H0 o3 = _ := y4 _ _ upd_same
      have y3 := (AT.Same.up g4).trans y4
      have w3 : H0 d1 = _ := y3 _ _ upd_same
      have y2 := (AT.Same.up g3).trans y3
      have w2' : H0 o2 = _ := y2 _ _ upd_same
      have y1 := (AT.Same.up g2).trans y2
      have w1' : H0 o1 = _ := y1 _ _ upd_same
      have s1 := (AT.Same.up (o := .lst [.ref x]) g1).trans y1
      have wO : H0 O = some (.lst [.non, .int 7, .str "12", .ref o1, .ref o2, .ref d1, .ref o3, .ref o4, .ref o5, .ref o6, .ref d2]) := by rw [e0]; exact upd_same
      have f2 := none_of (AT.Same.up (o := .lst [.ref x]) g1) g2
      have z2 := (AT.Same.up (o := .lst [.ref x]) g1).trans (AT.Same.up (o := .lst [.ref x, .ref y, .int 0]) g2)
      have f3 := none_of z2 g3
      have z3 := z2.trans (AT.Same.up (o := .dK []) g3)
      have f4 := none_of z3 g4
      have z4 := z3.trans (AT.Same.up (o := .lst [.ref x, .non]) g4)
      have f5 := none_of z4 g5
      have z5 := z4.trans (AT.Same.up (o := .lst [.bl true, .ref y]) g5)
      have f6 := none_of z5 g6
      have z6 := z5.trans (AT.Same.up (o := .lst [.str "1", .ref y]) g6)
      have f7 := none_of z6 g7
      have z7 := z6.trans (AT.Same.up (o := .lst [.ref x, .str "0"]) g7)
      have f8 := none_of z7 g8
      have nw : ∀ {b : Addr}, H1 b = none → b ∉ [p, L] := by
        intro b e hm
        simp only [List.mem_cons, List.not_mem_nil, or_false] at hm
        rcases hm with rfl | rfl
        · obtain ⟨_, _, _, e2, _⟩ := b1
          rw [e] at e2; cases e2
        · rw [e] at hL1; cases hL1
      have hx0 := hx1.up s1
      have hy0 := hy1.up s1
      have odd : ∀ (i : Nat) (v : V), ([.non, .int 7, .str "12", .ref o1, .ref o2, .ref d1, .ref o3, .ref o4, .ref o5, .ref o6, .ref d2] : List V)[i]? = some v → (∀ H', SameO [p, L] H0 H' → NoItem K H' v ∧ ∀ a ys, v = .ref a → H' a = some (.lst ys) → ys.length ≤ 3) ∧ (∀ a, v = .ref a → H1 a = none) := by
        intro i v hi
        have hm := List.mem_of_getElem? hi
        have ax : ∀ {H' : Hp}, SameO [p, L] H0 H' → isA K H' (.ref x) := fun sm => ⟨_, .obj (hx0.imp fun _ e => sm _ _ nx e)⟩
        have ay : ∀ {H' : Hp}, SameO [p, L] H0 H' → isA K H' (.ref y) := fun sm => ⟨_, .obj (hy0.imp fun _ e => sm _ _ ny e)⟩
        have any : ∀ {H' : Hp} {v : V}, isA K H' v → AnyV K H' v := fun h => h.choose_spec.any
        simp only [List.mem_cons, List.not_mem_nil, or_false] at hm
        rcases hm with rfl | rfl | rfl | rfl | rfl | rfl | rfl | rfl | rfl | rfl | rfl
        · exact ⟨fun H' _ => ⟨⟨.non, .inl fun ⟨_, _, q, _⟩ => nomatch q⟩, fun a ys e => nomatch e⟩, fun a e => nomatch e⟩
        · exact ⟨fun H' _ => ⟨⟨.int _, .inl fun ⟨_, _, q, _⟩ => nomatch q⟩, fun a ys e => nomatch e⟩, fun a e => nomatch e⟩
        · exact ⟨fun H' _ => ⟨⟨.str _, .inl fun ⟨_, _, q, _⟩ => nomatch q⟩, fun a ys e => nomatch e⟩, fun a e => nomatch e⟩
        · exact ⟨fun H' sm => ⟨⟨.lst (sm _ _ (nw g1) w1'), .inr (.inl ⟨_, ⟨_, rfl, .inl (sm _ _ (nw g1) w1')⟩, by simp⟩)⟩, fun a ys e1 e2 => by cases e1; rw [sm _ _ (nw g1) w1'] at e2; cases e2; try simp⟩, fun a e => by cases e; exact g1⟩
        · exact ⟨fun H' sm => ⟨⟨.lst (sm _ _ (nw f2) w2'), .inr (.inl ⟨_, ⟨_, rfl, .inl (sm _ _ (nw f2) w2')⟩, by simp⟩)⟩, fun a ys e1 e2 => by cases e1; rw [sm _ _ (nw f2) w2'] at e2; cases e2; try simp⟩, fun a e => by cases e; exact f2⟩
        · exact ⟨fun H' sm => ⟨⟨.dct (sm _ _ (nw f3) w3), .inl (no_dct (sm _ _ (nw f3) w3))⟩, fun a ys e1 e2 => by cases e1; rw [sm _ _ (nw f3) w3] at e2; cases e2; try simp⟩, fun a e => by cases e; exact f3⟩
        · exact ⟨fun H' sm => ⟨⟨.lst (sm _ _ (nw f4) w4), .inr (.inr ⟨_, _, ⟨_, rfl, .inl (sm _ _ (nw f4) w4)⟩, any (ax sm), .non, .inr ⟨ax sm, fun ⟨_, q⟩ => nomatch q⟩⟩)⟩, fun a ys e1 e2 => by cases e1; rw [sm _ _ (nw f4) w4] at e2; cases e2; try simp⟩, fun a e => by cases e; exact f4⟩
        · exact ⟨fun H' sm => ⟨⟨.lst (sm _ _ (nw f5) w5), .inr (.inr ⟨_, _, ⟨_, rfl, .inl (sm _ _ (nw f5) w5)⟩, .bl _, any (ay sm), .inl fun ⟨_, q⟩ => nomatch q⟩)⟩, fun a ys e1 e2 => by cases e1; rw [sm _ _ (nw f5) w5] at e2; cases e2; try simp⟩, fun a e => by cases e; exact f5⟩
        · exact ⟨fun H' sm => ⟨⟨.lst (sm _ _ (nw f6) w6), .inr (.inr ⟨_, _, ⟨_, rfl, .inl (sm _ _ (nw f6) w6)⟩, .str _, any (ay sm), .inl fun ⟨_, q⟩ => nomatch q⟩)⟩, fun a ys e1 e2 => by cases e1; rw [sm _ _ (nw f6) w6] at e2; cases e2; try simp⟩, fun a e => by cases e; exact f6⟩
        · exact ⟨fun H' sm => ⟨⟨.lst (sm _ _ (nw f7) w7), .inr (.inr ⟨_, _, ⟨_, rfl, .inl (sm _ _ (nw f7) w7)⟩, any (ax sm), .str _, .inr ⟨ax sm, fun ⟨_, q⟩ => nomatch q⟩⟩)⟩, fun a ys e1 e2 => by cases e1; rw [sm _ _ (nw f7) w7] at e2; cases e2; try simp⟩, fun a e => by cases e; exact f7⟩
        · exact ⟨fun H' sm => ⟨⟨.dct (sm _ _ (nw f8) w8), .inl (no_dct (sm _ _ (nw f8) w8))⟩, fun a ys e1 e2 => by cases e1; rw [sm _ _ (nw f8) w8] at e2; cases e2; try simp⟩, fun a e => by cases e; exact f8⟩
      rw [← e0]
      clear e0 y8 y7 y6 y5 y4 y3 y2 y1 z2 z3 z4 z5 z6 z7 w8 w7 w6 w5 w4 w3 w2' w1' g1 g2 g3 g4 g5 g6 g7 g8 gO f2 f3 f4 f5 f6 f7 f8
      have b0 := b1.up s1
      have hOp : O ≠ p := by
        rintro rfl
        obtain ⟨_, _, _, e2, _⟩ := b0
        rw [wO] at e2; cases e2
      refine ⟨_, rfl, _, rfl, p, _, _, rfl, b0, (by omega), (by decide), (by decide +kernel), fun r2 H3 c1 c2 x3 b3 => ?_⟩
      obtain ⟨j, rfl⟩ := Int.eq_ofNat_of_zero_le c1
      have hj : j < 11 := by omega
      have hv : ∃ v, ([.non, .int 7, .str "12", .ref o1, .ref o2, .ref d1, .ref o3, .ref o4, .ref o5, .ref o6, .ref d2] : List V)[j]? = some v := ⟨_, List.getElem?_eq_getElem (by exact hj)⟩
      obtain ⟨v, hv⟩ := hv
      obtain ⟨nv, fv⟩ := odd j v hv
      have hL3 : H3 L = some (.lst xs) := x3 _ _ (Ne.symm hpL) (s1 _ _ hL1)
      refine ⟨O, _, _, v, rfl, rfl, SqL.of (x3 _ _ hOp wO), atI_nat hv, _, rfl, _, rfl, L, xs, _, k, rfl, rfl, hL3, ixn_nat hk, ?_⟩
      refine ⟨_, rfl, _, rfl, L, _, _, v, rfl, rfl, SqL.of upd_same, atI_nat (by rw [List.getElem?_set_self hk]), (by show 3 ≤ sizeLine; decide), fun D hD => ?_⟩
      have hDL : D ≠ L := by rintro rfl; rw [upd_same] at hD; cases hD
      rw [upd_ne hDL] at hD
      have hDp : D ≠ p := by
        rintro rfl
        obtain ⟨_, _, _, e2, _⟩ := b3
        rw [hD] at e2; cases e2
      have s03 : SameO [p, L] H0 H3 := fun b o nb e => x3 _ _ (fun z => nb (by simp [z])) e
      have s35 : SameO [p, L] H3 (upd (upd H3 L (.lst (xs.set k v))) D (.lst [.str "point", v, .bl true])) := fun b o nb e => by
        rw [upd_ne (ne_of_none e hD), upd_ne (fun z => nb (by simp [z]))]
        exact e
      have s05 : SameO [p, L] H0 _ := fun b o nb e => s35 b o nb (s03 b o nb e)
      have sH3 : SameO [p, L] H H3 := fun b o nb e => s03 b o nb (s1 _ _ (s01 b o nb e))
      refine kk D v _ (fun b o nb e => s35 b o nb (sH3 b o nb e)) ((b3.new (Ne.symm hpL)).new hDp) (by rw [upd_ne (Ne.symm hDL), upd_same]) (newH sH3 ⟨_, b3⟩ ⟨_, hL3⟩ hD) (.inl ⟨(nv _ s05).1, upd_same, ?_, fun a e => newH s01 ⟨_, b1⟩ ⟨_, hL1⟩ (fv a e), (nv _ s05).2⟩)
      rintro rfl
      have z := (nv H3 s03).1.1
      cases z with
      | lst e => rw [hD] at e; cases e
      | tup e => rw [hD] at e; cases e
      | dct e => rw [hD] at e; cases e
      | amt e => obtain ⟨_, e⟩ := e; rw [hD] at e; cases e
    · have h1 : ¬ w0 < 2 := fun z => hc (.inl z)
      have h2 : k ≠ 0 := fun z => hc (.inr z)
      refine ⟨_, rfl, _, _, rfl, rfl, _, rfl, ?_⟩
      rw [decide_eq_false h1]
      refine iteF ⟨_, rfl, rfl, _, rfl, ?_⟩
      rw [decide_eq_false (fun z => h2 (by have := V.int.inj z; omega))]
      obtain ⟨i, rfl⟩ : ∃ i, k = i + 1 := ⟨k - 1, by omega⟩
      obtain ⟨vB, qB, hvB, hqB, ⟨rB, xB, yB, rfl, hrB, hxB, hyB⟩, bqB⟩ := hrow i (by omega)
      have hrB1 : H1 rB = some (.lst [.ref xB, .ref yB]) := by
        refine x1 _ _ ?_ hrB
        rintro rfl
        obtain ⟨_, _, _, e2, _⟩ := hb
        rw [hrB] at e2; cases e2
      have hxB1 : IsQ K H1 xB qB.1 := hxB.imp fun _ e => xL (nin e) e
      have hyB1 : IsQ K H1 yB qB.2 := hyB.imp fun _ e => xL (nin e) e
      have nxB : xB ∉ [p, L] := nin hxB.choose_spec
      have nyB : yB ∉ [p, L] := nin hyB.choose_spec
      refine iteF ⟨_, rfl, _, rfl, _, _, rfl, rfl, L, _, _, _, rfl, rfl, SqL.of hL1, (by rw [show ((i + 1 : Nat) : Int) - 1 = (i : Int) by omega]; exact atI_nat hvB), ?_⟩
      -- the three amounts
      refine fun a1 e1 ga1 ge1 _ => ⟨a1, e1, _, _, rfl, upd_same, .int _, .int _, .inl ⟨0, 1, rfl, rfl, by decide, by decide +kernel, rfl, ?_⟩⟩
      refine fun a2 e2 ga2 ge2 _ => ⟨a2, e2, _, _, rfl, upd_same, .int _, .int _, .inl ⟨1, 3, rfl, rfl, by decide, by decide +kernel, rfl, ?_⟩⟩
      refine fun a3 e3 ga3 ge3 _ => ⟨a3, e3, _, _, rfl, upd_same, .int _, .int _, .inl ⟨50, 1, rfl, rfl, by decide, by decide +kernel, rfl, ?_⟩⟩
      refine ⟨(by show 3 ≤ sizeLine; decide), fun M gM => ?_⟩
      have mk : ∀ (Hx : Hp) (a e : Addr) (q : Rat), ∃ Hy : Hp, Hy = upd (upd (upd Hx e (.own a)) a (.ins (cA K) e [])) a (.ins (cA K) e (amtQ q)) := fun _ _ _ _ => ⟨_, rfl⟩
      obtain ⟨HA, eA⟩ := mk H1 a1 e1 (Rat.divInt 0 1)
      have sA : Same H1 HA := eA ▸ made_same ga1 ge1
      have qA : IsQ K HA a1 (Rat.divInt 0 1) := ⟨e1, by rw [eA]; exact upd_same⟩
      obtain ⟨HB, eB⟩ := mk HA a2 e2 (Rat.divInt 1 3)
      have sB : Same HA HB := eB ▸ made_same (by rw [eA]; exact ga2) (by rw [eA]; exact ge2)
      have qB2 : IsQ K HB a2 (Rat.divInt 1 3) := ⟨e2, by rw [eB]; exact upd_same⟩
      obtain ⟨HC, eC⟩ := mk HB a3 e3 (Rat.divInt 50 1)
      have sC : Same HB HC := eC ▸ made_same (by rw [eB, eA]; exact ga3) (by rw [eB, eA]; exact ge3)
      have qC : IsQ K HC a3 (Rat.divInt 50 1) := ⟨e3, by rw [eC]; exact upd_same⟩
      obtain ⟨H0, e0⟩ : ∃ H0 : Hp, H0 = upd HC M (.lst [.ref a1, .ref a2, .ref a3]) := ⟨_, rfl⟩
      have sM : Same HC H0 := e0 ▸ AT.Same.up (by rw [eC, eB, eA]; exact gM)
      have wM : H0 M = some (.lst [.ref a1, .ref a2, .ref a3]) := by rw [e0]; exact upd_same
      have s1 : Same H1 H0 := ((sA.trans sB).trans sC).trans sM
      have lss : ∀ (j : Nat) (v : V), ([.ref a1, .ref a2, .ref a3] : List V)[j]? = some v → ∃ z qz, v = .ref z ∧ IsQ K H0 z qz ∧ Bits 20 qz ∧ 0 ≤ qz := by
        intro j v hj
        have hm := List.mem_of_getElem? hj
        simp only [List.mem_cons, List.not_mem_nil, or_false] at hm
        rcases hm with rfl | rfl | rfl
        · exact ⟨_, _, rfl, qA.up ((sB.trans sC).trans sM), ⟨by decide +kernel, by decide +kernel⟩, by decide +kernel⟩
        · exact ⟨_, _, rfl, qB2.up (sC.trans sM), ⟨by decide +kernel, by decide +kernel⟩, by decide +kernel⟩
        · exact ⟨_, _, rfl, qC.up sM, ⟨by decide +kernel, by decide +kernel⟩, by decide +kernel⟩
      have b0 := b1.up s1
      have hMp : M ≠ p := by
        rintro rfl
        obtain ⟨_, _, _, e2, _⟩ := b0
        rw [wM] at e2; cases e2
      have fin : ∀ (rr X Y : Addr) (q : Rat × Rat) (H4 : Hp), SameO [p, L] H H4 → BoxAt H4 p (n + 2) → H4 L = some (.lst xs) → H4 rr = some (.lst [.ref X, .ref Y]) → rr ≠ L → rr ≠ p → IsQ K H4 X q.1 → IsQ K H4 Y q.2 → ¬ Below qB q → BitsP 3000 q →
          ∀ D, upd H4 L (.lst (xs.set (i + 1) (.ref rr))) D = none → Q (.ref D) (upd (upd H4 L (.lst (xs.set (i + 1) (.ref rr)))) D (.lst [.str "falling", .int ((i + 1 : Nat) : Int), .bl true])) := by
        intro rr X Y q H4 sm bx hL4 hrr nrL nrp hX hY hnb hbq D hD
        have hDL : D ≠ L := by rintro rfl; rw [upd_same] at hD; cases hD
        rw [upd_ne hDL] at hD
        have hDp : D ≠ p := by
          rintro rfl
          obtain ⟨_, _, _, e2, _⟩ := bx
          rw [hD] at e2; cases e2
        have s35 : SameO [L] H4 (upd (upd H4 L (.lst (xs.set (i + 1) (.ref rr)))) D (.lst [.str "falling", .int ((i + 1 : Nat) : Int), .bl true])) := fun b o nb e => by
          rw [upd_ne (ne_of_none e hD), upd_ne (fun z => nb (by simp [z]))]
          exact e
        have nqL : ∀ {a : Addr} {z : Rat}, IsQ K H4 a z → a ∉ [L] := by
          rintro a z ⟨d, e⟩ hm
          rw [List.mem_singleton] at hm
          subst hm
          rw [hL4] at e; cases e
        refine kk D (.ref rr) _ (fun b o nb e => s35 b o (fun z => nb (by simp_all)) (sm b o nb e)) ((bx.new (Ne.symm hpL)).new hDp) (by rw [upd_ne (Ne.symm hDL), upd_same]) (newH sm ⟨_, bx⟩ ⟨_, hL4⟩ hD) (.inr ⟨i, qB, q, rfl, hqB, ⟨_, _, ⟨rr, rfl, .inl (s35 _ _ (by simpa using nrL) hrr)⟩, .obj (hX.imp fun _ e => s35 _ _ (nqL hX) e), .obj (hY.imp fun _ e => s35 _ _ (nqL hY) e)⟩, hbq, hnb, upd_same⟩)
      have nbox : ∀ {Hx : Hp} {b : Addr} {m : Nat}, BoxAt Hx p m → Hx b = none → b ≠ p := by
        rintro Hx b m ⟨_, _, _, e2, _⟩ e rfl
        rw [e] at e2; cases e2
      have nel : ∀ {Hx : Hp} {b : Addr} {ys : List V}, Hx L = some (.lst ys) → Hx b = none → b ≠ L := by
        rintro Hx b m e2 e rfl
        rw [e] at e2; cases e2
      subst e0 eC eB eA
      refine ⟨_, rfl, p, _, _, rfl, b0, (by omega), (by decide), (by decide +kernel), fun r2 H3 c1 c2 x3 b3 => ?_⟩
      obtain ⟨j, rfl⟩ := Int.eq_ofNat_of_zero_le c1
      have hj : j < 3 := by omega
      obtain ⟨v, hv⟩ : ∃ v, ([.ref a1, .ref a2, .ref a3] : List V)[j]? = some v := ⟨_, List.getElem?_eq_getElem (by exact hj)⟩
      obtain ⟨z, qz, rfl, hz, bz, z0⟩ := lss j v hv
      have hL3 : H3 L = some (.lst xs) := x3 _ _ (Ne.symm hpL) (s1 _ _ hL1)
      refine ⟨M, _, _, _, rfl, rfl, SqL.of (x3 _ _ hMp wM), atI_nat hv, ?_⟩
      have nqp : ∀ {Hx : Hp} {a : Addr} {y : Rat} {m : Nat}, BoxAt Hx p m → IsQ K Hx a y → a ≠ p := by
        rintro Hx a y m ⟨_, _, _, e2, _⟩ ⟨d, e⟩ rfl
        rw [e] at e2; cases e2
      have up3 : ∀ {a : Addr} {y : Rat}, IsQ K H1 a y → IsQ K H3 a y := fun h => (h.up s1).imp fun _ e => x3 _ _ (nqp b0 (h.up s1)) e
      have hz3 : IsQ K H3 z qz := hz.imp fun _ e => x3 _ _ (nqp b0 hz) e
      have hx3 := up3 hx1
      have hy3 := up3 hy1
      have hxB3 := up3 hxB1
      have hyB3 := up3 hyB1
      have hrB3 : H3 rB = some (.lst [.ref xB, .ref yB]) := x3 _ _ (by
        rintro rfl
        obtain ⟨_, _, _, e2, _⟩ := b1
        rw [hrB1] at e2; cases e2) (s1 _ _ hrB1)
      have sH3 : SameO [p, L] H H3 := fun b o nb e => x3 _ _ (fun z => nb (by simp [z])) (s1 _ _ (s01 b o nb e))
      clear hz lss wM s1 b0 ga1 ge1 ga2 ge2 ga3 ge3 gM x3 hMp
      obtain ⟨dxB, exB⟩ := id hxB3
      obtain ⟨dyB, eyB⟩ := id hyB3
      obtain ⟨dz, ez⟩ := id hz3
      have up : ∀ {m : Nat} {q : Rat}, Bits m q → m ≤ 3000 → Bits 3000 q := fun h l => h.mono l
      have sb1 : Bits 421 (qB.1 - qz) := bqB.1.sub bz
      have sb2 : Bits 421 (qB.2 - qz) := bqB.2.sub bz
      have fin2 : ∀ (X Y : Addr) (q : Rat × Rat) (H4 : Hp), Same H3 H4 → IsQ K H4 X q.1 → IsQ K H4 Y q.2 → ¬ Below qB q → BitsP 3000 q → ∀ rr, H4 rr = none → ∀ D, upd (upd H4 rr (.lst [.ref X, .ref Y])) L (.lst (xs.set (i + 1) (.ref rr))) D = none →
          Q (.ref D) (upd (upd (upd H4 rr (.lst [.ref X, .ref Y])) L (.lst (xs.set (i + 1) (.ref rr)))) D (.lst [.str "falling", .int ((i + 1 : Nat) : Int), .bl true])) := by
        intro X Y q H4 s4 hX hY hnb hbq rr grr D hD
        have s5 := AT.Same.up (o := .lst [.ref X, .ref Y]) grr
        have s35 := s4.trans s5
        exact fin rr X Y q _ (fun b o nb e => s35 _ _ (sH3 b o nb e)) (b3.up s35) (s35 _ _ hL3) upd_same (nel (s4 _ _ hL3) grr) (nbox (b3.up s4) grr) (hX.up s5) (hY.up s5) hnb hbq D hD
      have hL5 : ∀ {H4 : Hp} {rr : Addr} {o : HO}, Same H3 H4 → H4 rr = none → upd H4 rr o L = some (.lst xs) := fun s4 grr => (s4.trans (AT.Same.up grr)) _ _ hL3
      have bq3 : BitsP 3000 q0 := ⟨up bq0.1 (by decide), up bq0.2 (by decide)⟩
      refine ⟨_, rfl, rfl, _, rfl, ?_⟩
      refine ite2 (fun h3 => ?_) (fun h3 => ?_)
      · refine ⟨_, rfl, rB, _, 0, _, rfl, rfl, SqL.of hrB3, rfl, _, rfl, xB, dxB, _, _, rfl, exB, T.ins_Amount ez, .inl rfl, xB, .ref z, qB.1, rfl, hxB3, up bqB.1 (by decide), .amt hz3, .inl ⟨qz, .obj hz3, up bz (by decide), fun X H4 s4 gX hX => ?_⟩⟩
        refine ⟨_, rfl, (by show 2 ≤ sizeLine; decide), fun rr grr => ⟨_, rfl, _, rfl, L, xs, _, i + 1, rfl, rfl, hL5 s4 grr, ixn_nat hk, _, rfl, (by show 3 ≤ sizeLine; decide), fun D hD => ?_⟩⟩
        exact fin2 X y (qB.1 - qz, q0.2) H4 s4 hX (hy3.up s4) (fun h => by have : qB.1 < qB.1 - qz := h.1; grind) ⟨up sb1 (by decide), bq3.2⟩ rr grr D hD
      · refine ⟨_, rfl, rfl, _, rfl, ?_⟩
        refine ite2 (fun h4 => ?_) (fun h4 => ?_)
        · refine ⟨_, rfl, _, rfl, rB, _, 1, _, rfl, rfl, SqL.of hrB3, rfl, _, rfl, yB, dyB, _, _, rfl, eyB, T.ins_Amount ez, .inl rfl, yB, .ref z, qB.2, rfl, hyB3, up bqB.2 (by decide), .amt hz3, .inl ⟨qz, .obj hz3, up bz (by decide), fun Y H4 s4 gY hY => ?_⟩⟩
          refine ⟨(by show 2 ≤ sizeLine; decide), fun rr grr => ⟨_, rfl, _, rfl, L, xs, _, i + 1, rfl, rfl, hL5 s4 grr, ixn_nat hk, _, rfl, (by show 3 ≤ sizeLine; decide), fun D hD => ?_⟩⟩
          exact fin2 x Y (q0.1, qB.2 - qz) H4 s4 (hx3.up s4) hY (fun h => by have : qB.2 < qB.2 - qz := h.2; grind) ⟨bq3.1, up sb2 (by decide)⟩ rr grr D hD
        · refine ⟨_, rfl, rB, _, 0, _, rfl, rfl, SqL.of hrB3, rfl, _, rfl, xB, dxB, _, _, rfl, exB, T.ins_Amount ez, .inl rfl, xB, .ref z, qB.1, rfl, hxB3, up bqB.1 (by decide), .amt hz3, .inl ⟨qz, .obj hz3, up bz (by decide), fun X H4 s4 gX hX => ?_⟩⟩
          refine ⟨_, rfl, rB, _, 1, _, rfl, rfl, SqL.of (s4 _ _ hrB3), rfl, _, rfl, yB, dyB, _, _, rfl, s4 _ _ eyB, T.ins_Amount (s4 _ _ ez), .inl rfl, yB, .ref z, qB.2, rfl, hyB3.up s4, up bqB.2 (by decide), .amt (hz3.up s4), .inl ⟨qz, .obj (hz3.up s4), up bz (by decide), fun Y H5 s5 gY hY => ?_⟩⟩
          refine ⟨(by show 2 ≤ sizeLine; decide), fun rr grr => ⟨_, rfl, _, rfl, L, xs, _, i + 1, rfl, rfl, hL5 (s4.trans s5) grr, ixn_nat hk, _, rfl, (by show 3 ≤ sizeLine; decide), fun D hD => ?_⟩⟩
          exact fin2 X Y (qB.1 - qz, qB.2 - qz) H5 (s4.trans s5) (hX.up s5) hY (fun h => by have : qB.2 < qB.2 - qz := h.2; grind) ⟨up sb1 (by decide), up sb2 (by decide)⟩ rr grr D hD
end
end K11

set_option maxHeartbeats 4000000
namespace K11
open PySem PySem.Spec PyProof.Rows L2 AT
theorem same_x {p : Addr} {H H1 H2 : Hp} (s : Same H H1) (hp : H p = none) (x : SameX p H1 H2) : Same H H2 := fun b o e => x b o (ne_of_none e hp) (s b o e)
theorem same_o {bad : List Addr} {H H1 H2 : Hp} (s : Same H H1) (hb : ∀ b ∈ bad, H b = none) (x : SameO bad H1 H2) : Same H H2 := fun b o e => x b o (fun m => by rw [hb b m] at e; cases e) (s b o e)
theorem same_sql {K : PySem.W.Frag} {H H' : Hp} {a : Addr} {xs : List V} (e : Same H H') (h : SqL K H a xs) : SqL K H' a xs := by
  rcases h with (h | ⟨o, h⟩) | h
  · exact .inl (.inl (e _ _ h))
  · exact .inl (.inr ⟨o, e _ _ h⟩)
  · exact .inr h
theorem eq_self (v : V) (h : (∃ a, v = .ref a) ∨ flatV v = true) : EqPair v v true := by
  rcases h with ⟨a, rfl⟩ | h
  · exact .inl ⟨a, rfl, rfl, rfl⟩
  · refine .inr ⟨h, h, ?_⟩
    cases v <;> first | (simp [eqV]; done) | (simp [flatV] at h; done)
theorem rising_take : ∀ (k : Nat) {ps : List (Rat × Rat)}, Rising ps → Rising (ps.take k)
  | 0, _, _ => by simp [Rising]
  | _, [], _ => by simp [Rising]
  | 1, _ :: _, _ => by simp [Rising]
  | k + 2, [_], _ => by simp [Rising]
  | k + 2, p :: q :: r, h => ⟨h.1, rising_take (k + 1) (ps := q :: r) h.2⟩
section
variable {P : Program} {w : World} {K : PySem.W.Frag} {mg : Str → Option Value} {base : Heap}
theorem Row.upB {bad : List Addr} {H H' : Hp} {v : V} {p : Rat × Rat} (h : Row K H v p) (s : SameO bad H H') (hb : ∀ b ∈ bad, v ≠ .ref b ∧ ∃ xs, H b = some (.lst xs)) : Row K H' v p := by
  obtain ⟨r, x, y, e, h1, ⟨d2, h2⟩, ⟨d3, h3⟩⟩ := h
  have n1 : r ∉ bad := fun m => (hb r m).1 e
  have n2 : x ∉ bad := fun m => by obtain ⟨_, xs, e⟩ := hb x m; rw [h2] at e; cases e
  have n3 : y ∉ bad := fun m => by obtain ⟨_, xs, e⟩ := hb y m; rw [h3] at e; cases e
  exact ⟨r, x, y, e, s _ _ n1 h1, ⟨d2, s _ _ n2 h2⟩, ⟨d3, s _ _ n3 h3⟩⟩
theorem Row.item {H : Hp} {v : V} {p : Rat × Rat} (h : Row K H v p) : Item K H v p := by
  obtain ⟨r, x, y, e, h1, h2, h3⟩ := h
  exact ⟨_, _, ⟨r, e, .inl h1⟩, .obj h2, .obj h3⟩
/-- the rows gs stand for the points ps -/
def Rws (K : PySem.W.Frag) (H : Hp) (gs : List V) (ps : List (Rat × Rat)) : Prop := gs.length = ps.length ∧ ∀ (i : Nat) v q, gs[i]? = some v → ps[i]? = some q → Row K H v q
def Off (gs : List V) (b : Addr) : Prop := ∀ v ∈ gs, v ≠ .ref b
theorem Rws.up {H H' : Hp} {gs : List V} {ps : List (Rat × Rat)} (h : Rws K H gs ps) (s : Same H H') : Rws K H' gs ps := ⟨h.1, fun i v q e1 e2 => (h.2 i v q e1 e2).up s⟩
theorem Rws.upB {bad : List Addr} {H H' : Hp} {gs : List V} {ps : List (Rat × Rat)} (h : Rws K H gs ps) (s : SameO bad H H') (hb : ∀ b ∈ bad, Off gs b ∧ ∃ xs, H b = some (.lst xs)) : Rws K H' gs ps :=
  ⟨h.1, fun i v q e1 e2 => (h.2 i v q e1 e2).upB s fun b m => ⟨(hb b m).1 v (List.mem_of_getElem? e1), (hb b m).2⟩⟩
theorem Rws.off {H : Hp} {gs : List V} {ps : List (Rat × Rat)} {b : Addr} (h : Rws K H gs ps) (hb : H b = none) : Off gs b := by
  rintro v hv rfl
  obtain ⟨i, hi⟩ := List.getElem?_of_mem hv
  have l := (List.getElem?_eq_some_iff.mp hi).1
  obtain ⟨r, x, y, e, h1, _⟩ := h.2 i _ _ hi (List.getElem?_eq_getElem (by rw [← h.1]; exact l))
  cases e
  rw [hb] at h1; cases h1
theorem Rws.offB {H : Hp} {gs : List V} {ps : List (Rat × Rat)} {p : Addr} {n : Nat} (h : Rws K H gs ps) (hb : BoxAt H p n) : Off gs p := by
  rintro v hv rfl
  obtain ⟨i, hi⟩ := List.getElem?_of_mem hv
  have l := (List.getElem?_eq_some_iff.mp hi).1
  obtain ⟨r, x, y, e, h1, _⟩ := h.2 i _ _ hi (List.getElem?_eq_getElem (by rw [← h.1]; exact l))
  cases e
  obtain ⟨_, _, _, e2, _⟩ := hb
  rw [e2] at h1; cases h1
/-- what is due of the items xs, spoilt at k -/
def Due (K : PySem.W.Frag) (H : Hp) (xs : List V) (ps : List (Rat × Rat)) (k : Nat) (r : List V) : Prop :=
  xs.length < 1000 ∧ (∀ i, i < k → ∃ x p, xs[i]? = some x ∧ ps[i]? = some p ∧ Item K H x p ∧ BitsP 400 p) ∧
  ∃ v, xs[k]? = some v ∧ ((NoItem K H v ∧ r = [.str "point", v, .bl true]) ∨ ∃ i qB q, k = i + 1 ∧ ps[i]? = some qB ∧ Item K H v q ∧ BitsP 3000 q ∧ ¬ Below qB q ∧ r = [.str "falling", .int k, .bl true])
theorem Due.up {H H' : Hp} {xs : List V} {ps : List (Rat × Rat)} {k : Nat} {r : List V} (h : Due K H xs ps k r) (s : Same H H') : Due K H' xs ps k r := by
  obtain ⟨h1, h2, v, h3, h4⟩ := h
  refine ⟨h1, fun i hi => ?_, v, h3, ?_⟩
  · obtain ⟨x, p, e1, e2, e3, e4⟩ := h2 i hi
    exact ⟨x, p, e1, e2, e3.up s, e4⟩
  · rcases h4 with ⟨a, b⟩ | ⟨i, qB, q, a, b, c, d⟩
    · exact .inl ⟨a.up s, b⟩
    · exact .inr ⟨i, qB, q, a, b, c.up s, d⟩
theorem Due.told {H : Hp} {v : V} {xs : List V} {ps : List (Rat × Rat)} {k : Nat} {r : List V} (h : Due K H xs ps k r) (hr : Rising ps) (hk : k ≤ ps.length) (hs : Sq H v xs) : Told K H v r := by
  obtain ⟨h1, h2, x, h3, h4⟩ := h
  have hl : (ps.take k).length = k := by rw [List.length_take]; omega
  refine .inr ⟨xs, ps.take k, hs, h1, fun i p e => ?_, rising_take k hr, ?_⟩
  · have hi : i < k := by
      have := (List.getElem?_eq_some_iff.mp e).1
      omega
    obtain ⟨x, p', e1, e2, e3, e4⟩ := h2 i hi
    rw [List.getElem?_take_of_lt hi, e2] at e
    cases e
    exact ⟨e4, x, e1, e3⟩
  · rw [hl]
    rcases h4 with ⟨a, b⟩ | ⟨i, qB, q, a, b, c, d, e, f⟩
    · exact .inr (.inl ⟨x, h3, a, b⟩)
    · refine .inr (.inr ⟨x, qB, q, h3, c, d, ?_, e, f⟩)
      subst a
      have hi : i < ps.length := (List.getElem?_eq_some_iff.mp b).1
      rw [List.getLast?_eq_getElem?, hl, List.getElem?_take_of_lt (by omega)]
      exact b
theorem isi_lst (T : Tx K mg base) {H : Hp} {v : V} (h : AnyV K H v) : ∃ t b, TyX K H v t ∧ PySem.W.kitOne K t (.type "list") = some b ∧ (b = true → ∃ a xs, v = .ref a ∧ H a = some (.lst xs)) := by
  cases h with
  | non  => exact ⟨_, _, .base .non, kit_ty (r := false) (by decide +kernel), nofun⟩
  | bl b => exact ⟨_, _, .base (.bl b), kit_ty (r := false) (by decide +kernel), nofun⟩
  | int i => exact ⟨_, _, .base (.int i), kit_ty (r := false) (by decide +kernel), nofun⟩
  | str x => exact ⟨_, _, .base (.str x), kit_ty (r := false) (by decide +kernel), nofun⟩
  | lst e => exact ⟨_, _, .base (.lst e), kit_ty (r := true) (by decide +kernel), fun _ => ⟨_, _, rfl, e⟩⟩
  | tup e => exact ⟨_, _, .base (.tup e), kit_ty (r := false) (by decide +kernel), nofun⟩
  | dct e => exact ⟨_, _, .base (.dK e), kit_ty (r := false) (by decide +kernel), nofun⟩
  | amt e => obtain ⟨dx, e⟩ := e; exact ⟨_, _, T.ins_Amount e, T.k_Amount_list, nofun⟩
theorem rws_told {H : Hp} {v : V} {gs : List V} {ps : List (Rat × Rat)} (h : Rws K H gs ps) (hs : Sq H v gs) (hr : Rising ps) (hb : ∀ q ∈ ps, BitsP 400 q) (hl : ps.length < 1000) : Told K H v [.str "told", .bl true] := by
  refine .inr ⟨gs, ps, hs, by rw [h.1]; exact hl, fun i p e => ⟨hb p (List.mem_of_getElem? e), ?_⟩, hr, .inl ⟨h.1.symm, rfl⟩⟩
  have hi : i < gs.length := by rw [h.1]; exact (List.getElem?_eq_some_iff.mp e).1
  exact ⟨gs[i], List.getElem?_eq_getElem hi, (h.2 i _ _ (List.getElem?_eq_getElem hi) e).item⟩
theorem ne_lists {H : Hp} {a b : Addr} {r : List V} (ha : H a = some (.lst r)) (hb : H b = some (.lst r)) (h : ∀ v ∈ r, (∃ a, v = .ref a) ∨ flatV v = true) : AlikeL K (.ref a) (.ref b) H (fun _ => true) r.length :=
  ⟨a, b, r, r, rfl, rfl, SqL.of ha, SqL.of hb, rfl, rfl, fun i x y e1 e2 => by
    rw [e1] at e2
    cases e2
    exact eq_self x (h x (List.mem_of_getElem? e1))⟩
theorem any_ok {H : Hp} {v : V} (h : AnyV K H v) : (∃ a, v = .ref a) ∨ flatV v = true := by
  cases h <;> first | exact .inl ⟨_, rfl⟩ | exact .inr rfl
end
end K11

set_option maxHeartbeats 4000000
namespace K11
open PySem PySem.Spec PyProof.Rows L2 AT
section
variable {P : Program} {w : World} {K : PySem.W.Frag} {mg : Str → Option Value} {base : Heap}
theorem LPs.at {H : Hp} {vs : List V} {ps : List (Rat × Rat)} (h : LPs H vs ps) : ∀ {i : Nat} {v : V}, vs[i]? = some v → ∃ p, ps[i]? = some p ∧ LP H v p := by
  induction h with
  | nil => intro i v e; simp at e
  | cons a b ih =>
    intro i v e
    cases i with
    | zero => simp at e; subst e; exact ⟨_, rfl, a⟩
    | succ i => simpa using ih (by simpa using e)
theorem Rws.snoc {H : Hp} {gs : List V} {ps : List (Rat × Rat)} {v : V} {q : Rat × Rat} (h : Rws K H gs ps) (g : Row K H v q) : Rws K H (gs ++ [v]) (ps ++ [q]) := by
  refine ⟨by simp [h.1], fun i v' q' e1 e2 => ?_⟩
  by_cases hi : i < gs.length
  · rw [List.getElem?_append_left hi] at e1
    rw [List.getElem?_append_left (by rw [← h.1]; exact hi)] at e2
    exact h.2 i _ _ e1 e2
  · rw [List.getElem?_append_right (by omega)] at e1
    rw [List.getElem?_append_right (by rw [← h.1]; omega)] at e2
    have hl : i - gs.length = 0 := by
      have := (List.getElem?_eq_some_iff.mp e1).1
      simp at this
      omega
    rw [hl] at e1
    rw [← h.1, hl] at e2
    simp at e1 e2
    rw [← e1, ← e2]
    exact g
theorem sameO_upd {H : Hp} {G : Addr} {o : HO} : SameO [G] H (upd H G o) := fun b u nb e => by
  rw [upd_ne (fun z => nb (by simp [z]))]
  exact e
def spLaw (K : PySem.W.Frag) : Sp := fun vs H Q _ => ∃ (a : Addr) (ns : List Int), vs = [.ref a] ∧ SqL K H a (ns.map V.int) ∧ ∀ H', Q (.bl true) H'
theorem sc_law : FnScope ["_law_script", "_law_index", "_law_bag_here", "_law_points_here", "_law_one", "_law_two", "_law_good", "_law_passed", "_law_at", "_law_far", "_law_due", "_law_given_here", "_law_found", "_law_odd"] ["_law_script"] (defScope s_law) := ⟨rfl, rfl, rfl, by decide +kernel, rfl, by decide +kernel, by decide +kernel⟩
theorem ok_law (T : Tx K mg base) : Ok P w K mg base 15 (d_law.loc K) ["_law_script"] (spLaw K) := by
  refine mk_ok (k := 14) T.f_law sc_law (fun _ _ _ _ _ _ us hl => match us, hl with | [_], _ => rfl) (fun vs H Q E h => ?_) (fun cdv A outer s H vs Q E hr h => ?_)
  · obtain ⟨a, ns, rfl, _⟩ := h
    rfl
  · obtain ⟨a, ns, rfl, hS, k⟩ := h
    refine ⟨_, (pss_cons (ps_for (passes_of rfl) rfl (pi_range1 (by rfl) T.b_range (pa_cons (pe_callB (call_max2 rfl) (by rfl) T.b_max (by decide +kernel) (pa_cons pe_int (pa_cons (pe_callB (call_min2 rfl) (by rfl) T.b_min (by decide +kernel) (pa_cons pe_int (pa_cons (pe_callB call_len_seq (by rfl) T.b_len (by decide +kernel) (pa_cons (pv 0) pa_nil)) pa_nil))) pa_nil))) pa_nil)) (pg_name (i := 1) sc_law.nd rfl (Or.inl rfl)) (pss_cons (ps_set (i := 2) sc_law.nd rfl (Or.inl rfl) (ok_call (ok_w_bag T) (hr.mono (by decide)) rfl T.g_w_bag passL (pa_cons (ok_call (ok_w_cell T) (hr.mono (by decide)) rfl T.g_w_cell passL (pa_cons (pv 0) (pa_cons (pv 1) pa_nil))) pa_nil)))
      (pss_cons (ps_set (i := 3) sc_law.nd rfl (Or.inl rfl) (pe_op op_cat (ok_call (ok_w_points T) (hr.mono (by decide)) rfl T.g_w_points passL (pa_cons (pv 2) (pa_cons pe_int pa_nil))) (pe_lst (pa_cons (pe_tup (pa_cons (pe_tup (pa_cons pe_int (pa_cons pe_int pa_nil))) (pa_cons (pe_tup (pa_cons pe_int (pa_cons pe_int pa_nil))) pa_nil))) pa_nil))))
      (pss_cons (ps_setLc (i := 6) (own := [("_law_one", 4), ("_law_two", 5)]) (g := (gTup K 2 (gCons (gName 4) (gCons (gName 5) gNil)))) (tt := tYes) (by rfl) sc_law.nd rfl rfl (sw_true rfl rfl rfl (by decide +kernel)) (pi_list (pv 3)) (blkOk_by (own := [("_law_one", 4), ("_law_two", 5)]) (N := ["_law_script", "_law_index", "_law_bag_here", "_law_points_here", "_law_one", "_law_two", "_law_good", "_law_passed", "_law_at", "_law_far", "_law_due", "_law_given_here", "_law_found", "_law_odd"]) (sc := defScope s_law) (by decide +kernel)) (fun _ _ _ _ _ => (pg_tup rfl (pgs_cons (pg_name (i := 4) sc_law.nd rfl (Or.inl rfl)) (pgs_cons (pg_name (i := 5) sc_law.nd rfl (Or.inl rfl)) pgs_nil)))) (fun _ _ _ _ _ => pts_nil) (fun _ _ _ _ _ => (pe_lst (pa_cons (ok_make T.mkr_Amount (ok_Amount_init_ T) (hr.mono (by decide)) rfl T.g_Amount passL (pa_cons (pe_ix (show IxR _ (rIxT K) from ix_tup) (pv 4) pe_int (fun _ _ => rfl)) (pa_cons (pe_ix (show IxR _ (rIxT K) from ix_tup) (pv 4) pe_int (fun _ _ => rfl)) pa_nil))) (pa_cons (ok_make T.mkr_Amount (ok_Amount_init_ T) (hr.mono (by decide)) rfl T.g_Amount passL (pa_cons (pe_ix (show IxR _ (rIxT K) from ix_tup) (pv 5) pe_int (fun _ _ => rfl)) (pa_cons (pe_ix (show IxR _ (rIxT K) from ix_tup) (pv 5) pe_int (fun _ _ => rfl)) pa_nil))) pa_nil)))))
      (pss_cons (ps_par (by rfl) sc_law.nd (i := 7) (j := 8) rfl rfl (by decide) rfl rfl (pa_cons (pe_callTy call_list_of (by rfl) T.b_list (by decide +kernel) (pa_cons (pv 6) pa_nil)) (pa_cons (ok_call (ok_w_take T) (hr.mono (by decide)) rfl T.g_w_take passL (pa_cons (pv 2) (pa_cons (pe_callB call_len_seq (by rfl) T.b_len (by decide +kernel) (pa_cons (pv 3) pa_nil)) pa_nil))) pa_nil)) (by rfl))
      (Evl.pss_cut (ps_if (PW.pt (pw_and (pt_cmpR op_lt (pe_op op_add (pv 8) pe_int) (pe_callB call_len_seq (by rfl) T.b_len (by decide +kernel) (pa_cons (pv 3) pa_nil)) (nomark _)) (pw_and1 (pt_cmpR op_eq (ok_call (ok_w_take T) (hr.mono (by decide)) rfl T.g_w_take passL (pa_cons (pv 2) (pa_cons pe_int pa_nil))) pe_int (nomark _))))) (pss_cons (ps_set (i := 9) sc_law.nd rfl (Or.inl rfl) (pe_op op_add (pe_op op_add (pv 8) pe_int) (ok_call (ok_w_take T) (hr.mono (by decide)) rfl T.g_w_take passL (pa_cons (pv 2) (pa_cons (pe_op op_sub (pe_op op_sub (pe_callB call_len_seq (by rfl) T.b_len (by decide +kernel) (pa_cons (pv 3) pa_nil)) (pv 8)) pe_int) pa_nil)))))
      (pss_one (ps_expr (ok_call (ok_w_spoilt T) (hr.mono (by decide)) rfl T.g_w_spoilt passL (pa_cons (pv 2) (pa_cons (pv 7) (pa_cons (pv 9) pa_nil))))))) pss_nil)
      (pss_cons (ps_set (i := 10) sc_law.nd rfl (Or.inl rfl) (ok_call (ok_w_spoilt T) (hr.mono (by decide)) rfl T.g_w_spoilt passL (pa_cons (pv 2) (pa_cons (pv 7) (pa_cons (pv 8) pa_nil)))))
      (pss_cons (ps_for (passes_of rfl) rfl (pi_list (pe_lst (pa_cons (pv 7) (pa_cons (pe_callTy call_tuple_of (by rfl) T.b_tuple (by decide +kernel) (pa_cons (pv 7) pa_nil)) pa_nil)))) (pg_name (i := 11) sc_law.nd rfl (Or.inl rfl)) (pss_one (ps_if (pt_cmpR (show OpR _ _ (rNeI K) from op_neI hr.units) (ok_call (ok_w_caught T) (hr.mono (by decide)) rfl T.g_w_caught passL (pa_cons (pv 11) pa_nil)) (pv 10) (nomark _)) (pss_one (ps_ret pe_bl)) pss_nil)))
      (Evl.pss_cut (ps_if (pt_val (pe_callB call_isi (by rfl) T.b_isinstance (by decide +kernel) (pa_cons (pe_ix ix_list (pv 10) pe_int (fun _ _ => rfl)) (pa_cons (pe_bltn (v := .ty "list") rfl T.b_list (by decide +kernel) rfl) pa_nil)))) (pss_cons (ps_set (i := 12) sc_law.nd rfl (Or.inl rfl) (ok_call (ok_w_caught T) (hr.mono (by decide)) rfl T.g_w_caught passL (pa_cons (pv 7) pa_nil)))
      (pss_cons (ps_expr (pe_bm PySem.F.plainAttrs_list PySem.F.slot_list_append PySem.F.type_list_append mt_append (pe_ix ix_list (pv 10) pe_int (fun _ _ => rfl)) (pa_cons pe_str pa_nil)))
      (pss_one (ps_if (pt_cmpR (show OpR _ _ (rNeLS K) from op_neLS hr.units) (pe_ix ix_list (pv 12) pe_int (fun _ _ => rfl)) (pe_ix ix_list (pv 10) pe_int (fun _ _ => rfl)) (nomark _)) (pss_one (ps_ret pe_bl)) pss_nil)))) pss_nil)
      (pss_cons (ps_if (pt_cmpR (show OpR _ _ (rNeI K) from op_neI hr.units) (ok_call (ok_w_caught T) (hr.mono (by decide)) rfl T.g_w_caught passL (pa_cons (pv 6) pa_nil)) (pe_lst (pa_cons pe_str (pa_cons pe_bl pa_nil))) (nomark _)) (pss_one (ps_ret pe_bl)) pss_nil)
      (pss_one (ps_for (passes_of rfl) rfl (pi_list (pe_lst (pa_cons pe_non (pa_cons pe_bl (pa_cons pe_int (pa_cons pe_str (pa_cons pe_dnewK (pa_cons (ok_makeD T.mkr_Amount (okd_Amount_init_ T) (hr.mono (by decide)) rfl T.g_Amount (passE rfl rfl rfl rfl) (pa_cons pe_int pa_nil)) pa_nil)))))))) (pg_name (i := 13) sc_law.nd rfl (Or.inl rfl)) (pss_cons (ps_set (i := 12) sc_law.nd rfl (Or.inl rfl) (ok_call (ok_w_caught T) (hr.mono (by decide)) rfl T.g_w_caught passL (pa_cons (pv 13) pa_nil)))
      (pss_one (ps_if (PW.pt (pw_or (pt_cmpR op_ne (pe_ix ix_list (pv 12) pe_int (fun _ _ => rfl)) pe_str (nomark _)) (pw_or (pt_cmpR (OpR.or op_ne (OpR.or (op_ne_dictA hr.units0) (op_neO T.eq_Amount (ok_Amount_eq_ T) (hr.mono (by decide)) passL))) (pe_ix ix_list (pv 12) pe_int (fun _ _ => rfl)) (pv 13) (nomark _)) (pw_or1 (pt_cmpR op_ntB (pe_ix ix_list (pv 12) pe_int (fun _ _ => rfl)) pe_bl (nomark _)))))) (pss_one (ps_ret pe_bl)) pss_nil)))))))))))))))
      (pss_one (ps_ret pe_bl))), ?_⟩
    have hsz : sizeLine = 16777216 := sizeLine_eq
    refine ⟨_, rfl, a, _, rfl, .inl hS, _, _, rfl, _, _, rfl, ?_⟩
    have hm : ∃ m : Int, m = (if (if ((ns.map V.int).length : Int) < 8 then ((ns.map V.int).length : Int) else 8) > 3 then (if ((ns.map V.int).length : Int) < 8 then ((ns.map V.int).length : Int) else 8) else 3) ∧ 0 ≤ m ∧ m ≤ 8 := by
      refine ⟨_, rfl, ?_, ?_⟩ <;> split <;> split <;> omega
    obtain ⟨m, em, m0, m8⟩ := hm
    refine ⟨m, (by rw [em]), (by omega), (by omega), for_range (lo := 0) (n := m.toNat) (fun i σ' H' => ∃ (o1 o2 o3 o6 o7 o8 o9 o10 o11 o12 o13 : Option V), σ' = ([some (.ref a), o1, o2, o3, none, none, o6, o7, o8, o9, o10, o11, o12, o13] : L2.St) ∧ Same H H') ⟨_, _, _, _, _, _, _, _, _, _, _, rfl, Same.refl _⟩ ?_ ?_⟩
    · rintro i σ' H' hi ⟨o1, o2, o3, o6, o7, o8, o9, o10, o11, o12, o13, rfl, s1⟩
      refine ⟨_, rfl, _, rfl, a, ns, i, (by rw [Int.zero_add]; rfl), same_sql s1 hS, (by omega), fun c => ?_⟩
      refine ⟨c, rfl, fun p H1 s2 hp b1 => ?_⟩
      refine ⟨_, rfl, p, 0, 7, rfl, b1, (by decide), (by decide), fun D vs ps H2 x2 hD b2 hl2 lp hris hlen hfine => ?_⟩
      have hDp : D ≠ p := box_ne b1 hD
      refine ⟨(by show 2 ≤ sizeLine; decide), fun t1 g1 => ⟨(by show 2 ≤ sizeLine; decide), fun t2 g2 => ⟨(by show 2 ≤ sizeLine; decide), fun t3 g3 => ⟨(by show 1 ≤ sizeLine; decide), fun t4 g4 => ?_⟩⟩⟩⟩
      obtain ⟨HB, eB⟩ : ∃ HB : Hp, HB = upd (upd (upd (upd H2 t1 (.tup [.int 60000, .int 1])) t2 (.tup [.int 60000, .int 1])) t3 (.tup [.ref t1, .ref t2])) t4 (.lst [.ref t3]) := ⟨_, rfl⟩
      have y3 : Same _ HB := eB ▸ AT.Same.up g4
      have w3 : HB t3 = some (.tup [.ref t1, .ref t2]) := y3 _ _ upd_same
      have y2 := (AT.Same.up g3).trans y3
      have w2 : HB t2 = some (.tup [.int 60000, .int 1]) := y2 _ _ upd_same
      have y1 := (AT.Same.up g2).trans y2
      have w1 : HB t1 = some (.tup [.int 60000, .int 1]) := y1 _ _ upd_same
      have s2B : Same H2 HB := (AT.Same.up g1).trans y1
      have w4 : HB t4 = some (.lst [.ref t3]) := by rw [eB]; exact upd_same
      have hlen2 := lp.length
      rw [← eB]
      refine ⟨D, t4, vs, [.ref t3], rfl, rfl, s2B _ _ hl2, w4, (by simp; omega), fun pp gpp => ?_⟩
      obtain ⟨H3, e3⟩ : ∃ H3 : Hp, H3 = upd HB pp (.lst (vs ++ [.ref t3])) := ⟨_, rfl⟩
      have sB3 : Same HB H3 := e3 ▸ AT.Same.up gpp
      have s23 := s2B.trans sB3
      have wpp : H3 pp = some (.lst (vs ++ [.ref t3])) := by rw [e3]; exact upd_same
      have lp3 : LPs H3 (vs ++ [.ref t3]) (ps ++ [(((60000 : Nat) : Rat), ((60000 : Nat) : Rat))]) := (lp.upT (sameT_of s23)).app ⟨t3, .ref t1, .ref t2, rfl, sB3 _ _ w3, ⟨t1, rfl, sB3 _ _ w1⟩, ⟨t2, rfl, sB3 _ _ w2⟩⟩
      have b3 := b2.up s23
      have sH3 : Same H' H3 := (same_x s2 hp x2).trans s23
      have hfine3 : ∀ q ∈ ps ++ [(((60000 : Nat) : Rat), ((60000 : Nat) : Rat))], BitsP 400 q := by
        intro q hq
        rcases List.mem_append.mp hq with z | z
        · exact ⟨((hfine q z).1.bits (by decide)).mono (by decide), ((hfine q z).2.bits (by decide)).mono (by decide)⟩
        · rw [List.mem_singleton.mp z]
          exact ⟨⟨by decide +kernel, by decide +kernel⟩, ⟨by decide +kernel, by decide +kernel⟩⟩
      have hris3 : Rising (ps ++ [(((60000 : Nat) : Rat), ((60000 : Nat) : Rat))]) := rising_app hris fun l hl => by
        have hf := hfine l (List.mem_of_getLast? hl)
        exact ⟨hf.1.lt (by decide), hf.2.lt (by decide)⟩
      have hlen3 : (ps ++ [(((60000 : Nat) : Rat), ((60000 : Nat) : Rat))]).length ≤ 8 := by simp; omega
      have hpos3 : 0 < (ps ++ [(((60000 : Nat) : Rat), ((60000 : Nat) : Rat))]).length := by simp
      rw [← e3]
      clear e3 eB y3 y2 y1 w1 w2 w3 w4 s2B sB3 gpp g1 g2 g3 g4 s23 hfine hris hlen lp hl2 hD hDp b2 x2 s2 b1
      generalize (ps ++ [(((60000 : Nat) : Rat), ((60000 : Nat) : Rat))]) = qs at lp3 hfine3 hris3 hlen3 hpos3
      generalize (vs ++ [V.ref t3]) = us at lp3 wpp
      clear hlen2
      have hlu := lp3.length
      -- the rows
      refine ⟨_, rfl, pp, rfl, ⟨_, SqL.of wpp⟩, fun G gG => ?_⟩
      refine lc_list (K := K) (a := pp) (xs := us) (fun j Hj => Same H3 Hj ∧ ∃ acc, Hj G = some (.lst acc) ∧ acc.length = j ∧ Off acc G ∧ Rws K Hj acc (qs.take j)) ⟨AT.Same.up gG, [], upd_same, rfl, (fun _ h => nomatch h), rfl, (fun _ _ _ h => by simp at h)⟩ (fun j Hj _ h => SqL.of (h.1 _ _ wpp)) (fun j x Hj hx hP => ?_) (fun Hj hP => ?_)
      · obtain ⟨q, hq, t, x1, y1, rfl, ht, ⟨a1, rfl, ha1⟩, ⟨a2, rfl, ha2⟩⟩ := lp3.at hx
        obtain ⟨sj, acc, hG, hacc, hoff, hrw⟩ := hP
        have bq := hfine3 q (List.mem_of_getElem? hq)
        have big8 : ∀ {q : Rat}, Bits 400 q → ((q.den : Int)).natAbs < 2 ^ 8000 := fun h => Nat.lt_trans (den_bits h) (Nat.pow_lt_pow_right (by decide) (by decide))
        refine ⟨t, _, rfl, SqT.of (sj _ _ ht), rfl, _, _, rfl, _, _, rfl, rfl, rfl, ?_⟩
        dsimp only [tYes]
        refine iteT ?_
        refine ⟨_, rfl, a1, _, 0, _, rfl, rfl, SqT.of (sj _ _ ha1), rfl, _, rfl, a1, _, 1, _, rfl, rfl, SqT.of (sj _ _ ha1), rfl, fun u1 e1 gu1 ge1 _ => ⟨u1, e1, _, _, rfl, upd_same, .int _, .int _, .inl ⟨_, _, rfl, rfl, den_ne _, big8 bq.1, rfl, ?_⟩⟩⟩
        have sA := made_same (o1 := .ins (cA K) e1 []) (o2 := .ins (cA K) e1 (amtQ (Rat.divInt q.1.num q.1.den))) gu1 ge1
        have ha2' := (sj.trans sA) _ _ ha2
        refine ⟨_, rfl, a2, _, 0, _, rfl, rfl, SqT.of ha2', rfl, _, rfl, a2, _, 1, _, rfl, rfl, SqT.of ha2', rfl, fun u2 e2 gu2 ge2 _ => ⟨u2, e2, _, _, rfl, upd_same, .int _, .int _, .inl ⟨_, _, rfl, rfl, den_ne _, big8 bq.2, rfl, ?_⟩⟩⟩
        have sB := made_same (o1 := .ins (cA K) e2 []) (o2 := .ins (cA K) e2 (amtQ (Rat.divInt q.2.num q.2.den))) gu2 ge2
        have qA : IsQ K _ u1 q.1 := ⟨e1, (sB _ _ upd_same).trans (congrArg (fun z => some (HO.ins (cA K) e1 (amtQ z))) (q_self q.1))⟩
        have qB : IsQ K (upd (upd (upd (upd (upd (upd Hj e1 (.own u1)) u1 (.ins (cA K) e1 [])) u1 (.ins (cA K) e1 (amtQ (Rat.divInt q.1.num q.1.den)))) e2 (.own u2)) u2 (.ins (cA K) e2 [])) u2 (.ins (cA K) e2 (amtQ (Rat.divInt q.2.num q.2.den)))) u2 q.2 := ⟨e2, upd_same.trans (congrArg (fun z => some (HO.ins (cA K) e2 (amtQ z))) (q_self q.2))⟩
        refine ⟨(by show 2 ≤ sizeLine; decide), fun r gr => ?_⟩
        have sR := AT.Same.up (o := .lst [.ref u1, .ref u2]) gr
        have sjR : Same Hj _ := (sA.trans sB).trans sR
        have hG4 := sjR _ _ hG
        have hjs : j < us.length := (List.getElem?_eq_some_iff.mp hx).1
        have hrG : r ≠ G := by rintro rfl; rw [(sA.trans sB) _ _ hG] at gr; cases gr
        have row : Row K _ (.ref r) q := ⟨r, u1, u2, rfl, upd_same, qA.up sR, qB.up sR⟩
        have et : qs.take (j + 1) = qs.take j ++ [q] := by rw [List.take_succ, hq]; rfl
        refine ⟨acc, hG4, (by omega), AT.Same.new (sj.trans sjR) gG, acc ++ [.ref r], upd_same, (by simp [hacc]), ?_, ?_⟩
        · intro v hv
          rcases List.mem_append.mp hv with z | z
          · exact hoff v z
          · rw [List.mem_singleton.mp z]
            intro z
            exact hrG (V.ref.inj z)
        · rw [et]
          refine ((hrw.up sjR).snoc row).upB sameO_upd fun b hb => ?_
          rw [List.mem_singleton.mp hb]
          refine ⟨fun v hv => ?_, _, hG4⟩
          rcases List.mem_append.mp hv with z | z
          · exact hoff v z
          · rw [List.mem_singleton.mp z]
            intro z
            exact hrG (V.ref.inj z)
      · obtain ⟨sj, gs, hG, hgl, hoffG, hrw⟩ := hP
        rw [hlu, List.take_length] at hrw
        have bj := b3.up sj
        have sHj := sH3.trans sj
        have hpj : H' p = none := hp
        -- passed, at
        refine ⟨_, rfl, G, gs, rfl, .inl (SqL.of hG), fun L gL => ?_⟩
        have sL := AT.Same.up (o := .lst gs) gL
        have offL := hrw.off gL
        have hwp := sj _ _ wpp
        refine ⟨_, rfl, _, rfl, pp, us, rfl, .inl (SqL.of (sL _ _ hwp)), p, _, _, rfl, bj.up sL, (by omega), (by omega), big (by omega), fun r H4 c1 c2 x4 b4 => ?_⟩
        obtain ⟨kk, rfl⟩ := Int.eq_ofNat_of_zero_le c1
        have hkk : kk < us.length := by omega
        have hgq : gs.length = qs.length := hrw.1
        have hpL : p ≠ L := Ne.symm (box_ne bj gL)
        have hGL : G ≠ L := by rintro rfl; rw [hG] at gL; cases gL
        have hGp : G ≠ p := box_ne b3 gG
        have ppp : pp ≠ p := by
          rintro rfl
          obtain ⟨_, _, _, e2, _⟩ := b3
          rw [wpp] at e2
          cases e2
          cases lp3 with | cons z _ => obtain ⟨_, _, _, z, _⟩ := z; cases z
        have ppL : pp ≠ L := by rintro rfl; rw [hwp] at gL; cases gL
        have s4 : Same H' H4 := same_x (sHj.trans sL) hp x4
        have hL4 : H4 L = some (.lst gs) := x4 _ _ (Ne.symm hpL) upd_same
        have hG4 : H4 G = some (.lst gs) := x4 _ _ hGp (sL _ _ hG)
        have hpp4 : H4 pp = some (.lst us) := x4 _ _ ppp (sL _ _ hwp)
        have xO : ∀ {Ha Hb : Hp}, SameX p Ha Hb → SameO [p] Ha Hb := fun x b o nb e => x _ _ (fun z => nb (by simp [z])) e
        have boxl : ∀ {Ha : Hp} {m : Nat}, BoxAt Ha p m → ∃ xs, Ha p = some (.lst xs) := fun ⟨_, _, _, e, _⟩ => ⟨_, e⟩
        have upP : ∀ {Ha Hb : Hp} {m : Nat}, Rws K Ha gs qs → BoxAt Ha p m → SameX p Ha Hb → Rws K Hb gs qs := fun h b x => h.upB (xO x) fun z hz => by
          rw [List.mem_singleton.mp hz]
          exact ⟨h.offB b, boxl b⟩
        have hrw4 : Rws K H4 gs qs := upP (hrw.up sL) (bj.up sL) x4
        have hLn : H' L = none := none_of sHj gL
        have hGn : H' G = none := none_of sH3 gG
        clear sL x4 bj hG hrw hwp sj wpp lp3 gG gL b3 sH3 sHj
        have rowK : ∀ {Ha : Hp} {xs : List V} {n : Nat}, Rws K Ha gs qs → n < gs.length → (∀ j, j ≤ n → xs[j]? = gs[j]?) → ∀ j, j ≤ n → ∃ v q, xs[j]? = some v ∧ qs[j]? = some q ∧ Row K Ha v q ∧ BitsP 400 q := by
          intro Ha xs n hr hn he j hj
          have h1 : j < gs.length := by omega
          have h2 : j < qs.length := by omega
          exact ⟨gs[j], qs[j], by rw [he j hj]; exact List.getElem?_eq_getElem h1, List.getElem?_eq_getElem h2, hr.2 j _ _ (List.getElem?_eq_getElem h1) (List.getElem?_eq_getElem h2), hfine3 _ (List.getElem_mem h2)⟩
        have offs : ∀ {Ha : Hp} {m : Nat} {ys : List V}, Rws K Ha gs qs → BoxAt Ha p m → Ha L = some (.lst ys) → ∀ b ∈ [p, L], Off gs b ∧ ∃ xs, Ha b = some (.lst xs) := by
          intro Ha m ys hr b hl z hz
          simp only [List.mem_cons, List.not_mem_nil, or_false] at hz
          rcases hz with rfl | rfl
          · exact ⟨hr.offB b, boxl b⟩
          · exact ⟨offL, _, hl⟩
        refine ⟨_, _, rfl, fun σ' H5 => ∃ xs o9, σ' = ([some (.ref a), some (.int (0 + (i : Int))), some (.ref p), some (.ref pp), none, none, some (.ref G), some (.ref L), some (.int kk), o9, o10, o11, o12, o13] : L2.St) ∧ Same H' H5 ∧ BoxAt H5 p 600 ∧ H5 L = some (.lst xs) ∧ xs.length = gs.length ∧ (∀ j, j ≤ kk → xs[j]? = gs[j]?) ∧ Rws K H5 gs qs ∧ H5 G = some (.lst gs), ?_, ?_⟩
        · refine ⟨_, rfl, _, _, rfl, rfl, _, rfl, pp, us, rfl, .inl (SqL.of hpp4), _, _, rfl, rfl, _, rfl, ?_⟩
          refine ite2 (fun h1 => ?_) (fun h1 => iteF ⟨gs, _, rfl, s4, b4.mono (by omega), hL4, rfl, fun _ _ => rfl, hrw4, hG4⟩)
          have h1' : (kk : Int) + 1 < us.length := of_decide_eq_true h1
          refine ⟨_, rfl, p, _, _, rfl, b4, (by omega), (by decide), (by decide +kernel), fun r2 H5 d1 d2 x5 b5 => ?_⟩
          have s5 := same_x s4 hp x5
          have hL5 := x5 _ _ (Ne.symm hpL) hL4
          have hG5 := x5 _ _ hGp hG4
          have hpp5 := x5 _ _ ppp hpp4
          have hrw5 := upP hrw4 b4 x5
          refine ⟨rfl, _, rfl, ite2 (fun h2 => ?_) (fun h2 => ⟨gs, _, rfl, s5, b5.mono (by omega), hL5, rfl, fun _ _ => rfl, hrw5, hG5⟩)⟩
          refine ⟨_, rfl, _, _, rfl, rfl, _, rfl, _, rfl, pp, us, rfl, .inl (SqL.of hpp5), _, rfl, _, _, rfl, rfl, _, _, rfl, rfl, p, _, _, rfl, b5, (by omega), (by omega), big (by omega), fun r3 H6 e1 e2 x6 b6 => ?_⟩
          obtain ⟨n3, rfl⟩ := Int.eq_ofNat_of_zero_le e1
          refine ⟨_, _, rfl, rfl, ?_⟩
          have hL6 := x6 _ _ (Ne.symm hpL) hL5
          have hrw6 := upP hrw5 b5 x6
          refine ⟨_, rfl, _, rfl, _, rfl, p, L, _, kk + 1 + n3, gs, qs, rfl, b6, (by omega), hL6, (by omega), rowK hrw6 (by omega) (fun _ _ => rfl), hpL, fun D2 v H7 sO b7 hL7 gD2 spo => ?_⟩
          refine ⟨gs.set (kk + 1 + n3) v, _, rfl, same_o (same_x s5 hp x6) (fun b hb => ?_) sO, b7.mono (by omega), hL7, (by simp), (fun j hj => List.getElem?_set_ne (by omega)), hrw6.upB sO (offs hrw6 b6 hL6), sO _ _ (by simp [hGp, hGL]) (x6 _ _ hGp hG5)⟩
          simp only [List.mem_cons, List.not_mem_nil, or_false] at hb
          rcases hb with rfl | rfl
          · exact hp
          · exact hLn
        · rintro σ' H5 ⟨xs, o9, rfl, s5, b5, hL5, hxl, hxe, hrw5, hG5⟩
          have hkg : kk < gs.length := by omega
          refine ⟨_, rfl, _, rfl, _, rfl, p, L, _, kk, xs, qs, rfl, b5, (by omega), hL5, (by omega), rowK hrw5 hkg hxe, hpL, fun D v H6 sO b6 hL6 gD spo => ?_⟩
          have bads : ∀ b ∈ [p, L], H' b = none := fun b hb => by
            simp only [List.mem_cons, List.not_mem_nil, or_false] at hb
            rcases hb with rfl | rfl
            · exact hp
            · exact hLn
          have s6 : Same H' H6 := same_o s5 bads sO
          have hrw6 : Rws K H6 gs qs := hrw5.upB sO (offs hrw5 b5 hL5)
          have hG6 : H6 G = some (.lst gs) := sO _ _ (by simp [hGp, hGL]) hG5
          have hset : ∀ j, j < kk → (xs.set kk v)[j]? = gs[j]? := fun j hj => by rw [List.getElem?_set_ne (by omega), hxe j (by omega)]
          have items : ∀ j, j < kk → ∃ x p, (xs.set kk v)[j]? = some x ∧ qs[j]? = some p ∧ Item K H6 x p ∧ BitsP 400 p := by
            intro j hj
            have h1 : j < gs.length := by omega
            have h2 : j < qs.length := by omega
            exact ⟨gs[j], qs[j], by rw [hset j hj]; exact List.getElem?_eq_getElem h1, List.getElem?_eq_getElem h2, (hrw6.2 j _ _ (List.getElem?_eq_getElem h1) (List.getElem?_eq_getElem h2)).item, hfine3 _ (List.getElem_mem h2)⟩
          have hkv : (xs.set kk v)[kk]? = some v := List.getElem?_set_self (by omega)
          have hlx : (xs.set kk v).length < 1000 := by rw [List.length_set]; omega
          obtain ⟨s0, v1, hD6, due, hany, hfr⟩ : ∃ s0 v1, H6 D = some (.lst [.str s0, v1, .bl true]) ∧ Due K H6 (xs.set kk v) qs kk [.str s0, v1, .bl true] ∧ AnyV K H6 v1 ∧ ∀ a, v1 = .ref a → a ≠ D ∧ H5 a = none ∧ ∀ ys, H6 a = some (.lst ys) → ys.length ≤ 3 := by
            rcases spo with ⟨ni, hD, nD, fr, ln⟩ | ⟨i', qB, q, e1, e2, e3, e4, e5, hD⟩
            · exact ⟨_, v, hD, ⟨hlx, items, v, hkv, .inl ⟨ni, rfl⟩⟩, ni.1, fun a e => ⟨fun z => nD (by rw [e, z]), fr a e, fun ys => ln a ys e⟩⟩
            · exact ⟨_, _, hD, ⟨hlx, items, v, hkv, .inr ⟨i', qB, q, e1, e2, e3, e4, e5, rfl⟩⟩, .int _, fun a e => nomatch e⟩
          generalize xs.set kk v = zs at hL6 due
          clear spo items hkv hlx hset hxe hxl hL5 sO b6 b5
          have okr : ∀ x ∈ ([.str s0, v1, .bl true] : List V), (∃ a, x = .ref a) ∨ flatV x = true := by
            intro x hx
            simp only [List.mem_cons, List.not_mem_nil, or_false] at hx
            rcases hx with rfl | rfl | rfl
            · exact .inr rfl
            · exact any_ok hany
            · exact .inr rfl
          have hkq : kk ≤ qs.length := by omega
          -- both ways given
          refine ⟨_, rfl, _, rfl, L, zs, rfl, .inl ⟨SqL.of hL6, fun tt gtt => ⟨(by show 2 ≤ sizeLine; decide), fun ll gll => ?_⟩⟩⟩
          have sT := AT.Same.up (o := .tup zs) gtt
          have sLl := AT.Same.up (o := .lst [.ref L, .ref tt]) gll
          have sTL := sT.trans sLl
          have wtt := sLl _ _ (upd_same (H := H6) (a := tt) (o := .tup zs))
          refine ⟨ll, rfl, ⟨_, SqL.of upd_same⟩, for_list (xs := [.ref L, .ref tt]) (fun j σ'' H'' => ∃ o11, σ'' = ([some (.ref a), some (.int (0 + (i : Int))), some (.ref p), some (.ref pp), none, none, some (.ref G), some (.ref L), some (.int kk), o9, some (.ref D), o11, o12, o13] : L2.St) ∧ Same (upd (upd H6 tt (.tup zs)) ll (.lst [.ref L, .ref tt])) H'') ⟨_, rfl, Same.refl _⟩ (fun j σ'' H'' _ h => SqL.of (h.choose_spec.2 _ _ upd_same)) ?_ ?_⟩
          · rintro j x σ'' H7 hx ⟨o11, rfl, s7⟩
            have hxm := List.mem_of_getElem? hx
            have s67 := sTL.trans s7
            have sq : Sq H7 x zs := by
              simp only [List.mem_cons, List.not_mem_nil, or_false] at hxm
              rcases hxm with rfl | rfl
              · exact ⟨L, rfl, .inl (s67 _ _ hL6)⟩
              · exact ⟨tt, rfl, .inr (s7 _ _ wtt)⟩
            refine ⟨_, rfl, x, _, rfl, sq.any, (due.up s67).told hris3 hkq sq, fun q H8 s8 gq hq => ?_⟩
            exact ⟨_, rfl, (fun _ => true), _, ne_lists hq (s8 _ _ (s67 _ _ hD6)) okr, false, rfl, iteF ⟨_, rfl, s7.trans s8⟩⟩
          · rintro σ'' H7 ⟨o11, rfl, s7⟩
            have s67 := sTL.trans s7
            have hD7 := s67 _ _ hD6
            have hrw7 := hrw6.up s67
            have hG7 := s67 _ _ hG6
            have sH7 := s6.trans s67
            refine ⟨fun σ'' H8 => ∃ o12, σ'' = ([some (.ref a), some (.int (0 + (i : Int))), some (.ref p), some (.ref pp), none, none, some (.ref G), some (.ref L), some (.int kk), o9, some (.ref D), o11, o12, o13] : L2.St) ∧ Same H' H8 ∧ Rws K H8 gs qs ∧ H8 G = some (.lst gs), ?_, ?_⟩
            · obtain ⟨ty, b, hty, hkit, hb⟩ := isi_lst T (hany.up s67)
              refine ⟨_, rfl, D, _, 1, _, rfl, rfl, SqL.of hD7, rfl, _, _, _, _, _, rfl, .ty _, hty, hkit, _, rfl, ?_⟩
              cases b with
              | false => exact iteF ⟨_, rfl, sH7, hrw7, hG7⟩
              | true =>
                obtain ⟨av, ys, rfl, hav⟩ := hb rfl
                obtain ⟨naD, frA, lnA⟩ := hfr av rfl
                refine iteT ?_
                refine ⟨_, rfl, .ref L, _, rfl, .lst (s67 _ _ hL6), (due.up s67).told hris3 hkq ⟨L, rfl, .inl (s67 _ _ hL6)⟩, fun q H8 s8 gq hq => ?_⟩
                have hav8 := s8 _ _ hav
                have hD8 := s8 _ _ hD7
                have hyl : ys.length ≤ 3 := by
                  cases e : H6 av with
                  | none => cases hany with
                    | lst e' => rw [e] at e'; cases e'
                    | tup e' => rw [e] at e'; cases e'
                    | dct e' => rw [e] at e'; cases e'
                    | amt e' => obtain ⟨_, e'⟩ := e'; rw [e] at e'; cases e'
                  | some o =>
                    have := s67 _ _ e
                    rw [hav] at this
                    cases this
                    exact lnA ys e
                refine ⟨_, rfl, D, _, 1, _, rfl, rfl, SqL.of hD8, rfl, tyV_lst hav8, av, ys, _, rfl, rfl, hav8, (by omega), ?_⟩
                have nq : q ≠ av := by rintro rfl; rw [hav] at gq; cases gq
                have hq9 : upd H8 av (.lst (ys ++ [.str "late1"])) q = some (.lst [.str s0, .ref av, .bl true]) := by rw [upd_ne nq]; exact hq
                have hD9 : upd H8 av (.lst (ys ++ [.str "late1"])) D = some (.lst [.str s0, .ref av, .bl true]) := by rw [upd_ne (Ne.symm naD)]; exact hD8
                refine ⟨_, rfl, q, _, 1, _, rfl, rfl, SqL.of hq9, rfl, _, rfl, D, _, 1, _, rfl, rfl, SqL.of hD9, rfl, av, _, rfl, rfl, SqL.of upd_same, _, rfl, iteF ⟨_, rfl, ?_, ?_, ?_⟩⟩
                · exact same_o (sH7.trans s8) (fun b hb => by rw [List.mem_singleton.mp hb]; exact none_of s5 frA) sameO_upd
                · refine (hrw7.up s8).upB sameO_upd fun b hb => ?_
                  rw [List.mem_singleton.mp hb]
                  exact ⟨hrw5.off frA, _, hav8⟩
                · rw [upd_ne (by rintro rfl; rw [hG5] at frA; cases frA)]
                  exact s8 _ _ hG7
            · rintro σ'' H8 ⟨o12', rfl, s8, hrw8, hG8⟩
              refine ⟨_, rfl, .ref G, _, rfl, .lst hG8, rws_told hrw8 ⟨G, rfl, .inl hG8⟩ hris3 hfine3 (by omega), fun q H9 s9 gq hq => ?_⟩
              refine ⟨(by show 2 ≤ sizeLine; decide), fun z gz => ?_⟩
              refine ⟨(fun _ => true), _, ne_lists (AT.Same.up gz _ _ hq) upd_same (fun v hv => ?ok), false, rfl, iteF ?_⟩
              case ok =>
                simp only [List.mem_cons, List.not_mem_nil, or_false] at hv
                rcases hv with rfl | rfl <;> exact .inr rfl
              have s10 := (s8.trans s9).trans (AT.Same.up (o := .lst [.str "told", .bl true]) gz)
              refine fun d gd => ?_
              have s11 := s10.trans (AT.Same.up (o := .dK []) gd)
              refine fun u e gu ge _ => ⟨u, e, _, _, rfl, upd_same, .int _, .int _, .inl ⟨1, 1, rfl, rfl, by decide, by decide +kernel, rfl, ?_⟩⟩
              have sm := made_same (o1 := .ins (cA K) e []) (o2 := .ins (cA K) e (amtQ (Rat.divInt 1 1))) gu ge
              refine ⟨(by show 6 ≤ sizeLine; decide), fun lo glo => ?_⟩
              have slo := AT.Same.up (o := .lst [.non, .bl true, .int 0, .str "ab", .ref d, .ref u]) glo
              have wd := slo _ _ (sm _ _ (upd_same (H := upd H9 z (.lst [.str "told", .bl true])) (a := d) (o := .dK [])))
              have wu := slo _ _ (upd_same (a := u) (o := .ins (cA K) e (amtQ (Rat.divInt 1 1))))
              have s12 := (s11.trans sm).trans slo
              refine ⟨lo, rfl, ⟨_, SqL.of upd_same⟩, for_list (xs := [.non, .bl true, .int 0, .str "ab", .ref d, .ref u]) (fun j σ'' H'' => ∃ o12 o13, σ'' = ([some (.ref a), some (.int (0 + (i : Int))), some (.ref p), some (.ref pp), none, none, some (.ref G), some (.ref L), some (.int kk), o9, some (.ref D), o11, o12, o13] : L2.St) ∧ Same _ H'') ⟨_, _, rfl, Same.refl _⟩ (fun j σ'' H'' _ h => SqL.of (h.choose_spec.choose_spec.2 _ _ upd_same)) ?_ ?_⟩
              · rintro j x σ'' HA hx ⟨o12, o13, rfl, sA⟩
                have hxm := List.mem_of_getElem? hx
                have wdA := sA _ _ wd
                have wuA : IsQ K HA u (Rat.divInt 1 1) := ⟨e, sA _ _ wu⟩
                have hv : AnyV K HA x ∧ ¬ ∃ xs, Sq HA x xs := by
                  simp only [List.mem_cons, List.not_mem_nil, or_false] at hxm
                  rcases hxm with rfl | rfl | rfl | rfl | rfl | rfl
                  · exact ⟨.non, fun ⟨_, _, q, _⟩ => nomatch q⟩
                  · exact ⟨.bl _, fun ⟨_, _, q, _⟩ => nomatch q⟩
                  · exact ⟨.int _, fun ⟨_, _, q, _⟩ => nomatch q⟩
                  · exact ⟨.str _, fun ⟨_, _, q, _⟩ => nomatch q⟩
                  · exact ⟨.dct wdA, no_dct wdA⟩
                  · refine ⟨.amt wuA, ?_⟩
                    rintro ⟨xs, b, q, z⟩
                    cases q
                    obtain ⟨_, w⟩ := wuA
                    rw [w] at z
                    rcases z with z | z <;> cases z
                refine ⟨_, rfl, x, _, rfl, hv.1, .inl ⟨hv.2, rfl⟩, fun q HB sB gq hq => ?_⟩
                have nes : ∀ Qz : VK, Qz (.bl false) HB → (rNe x x HB Qz ∨ rNeDA x x HB Qz ∨ rNeO K (cA K) (spEqA K) E0 x x HB Qz) := by
                  intro Qz h
                  have wuB := wuA.up sB
                  simp only [List.mem_cons, List.not_mem_nil, or_false] at hxm
                  rcases hxm with rfl | rfl | rfl | rfl | rfl | rfl
                  · exact .inl ⟨rfl, h⟩
                  · exact .inl ⟨rfl, h⟩
                  · exact .inl ⟨rfl, by rw [decide_eq_true rfl]; exact h⟩
                  · exact .inl ⟨rfl, by rw [decide_eq_true rfl]; exact h⟩
                  · exact .inr (.inl ⟨d, d, [], [], rfl, rfl, sB _ _ wdA, sB _ _ wdA, rfl, (fun _ z => nomatch z), h⟩)
                  · obtain ⟨du, eu⟩ := id wuB
                    exact .inr (.inr ⟨u, du, _, rfl, eu, (AnyV.amt wuB).ofTy T, u, u, _, _, rfl, wuB, wuB, _, rfl, by rw [decide_eq_true rfl]; exact h⟩)
                refine ⟨_, rfl, q, _, 0, _, rfl, rfl, SqL.of hq, rfl, rfl, _, rfl, ?_⟩
                rw [decide_eq_true rfl]
                refine iteF ⟨_, rfl, q, _, 1, _, rfl, rfl, SqL.of hq, rfl, _, rfl, ?_⟩
                refine nes _ ⟨false, rfl, iteF ⟨_, rfl, q, _, 2, _, rfl, rfl, SqL.of hq, rfl, true, true, rfl, rfl, false, rfl, iteF ⟨_, _, rfl, sA.trans sB⟩⟩⟩
              · rintro σ'' HA ⟨o12, o13, rfl, sA⟩
                exact ⟨_, _, _, _, _, _, _, _, _, _, _, rfl, s1.trans (s12.trans sA)⟩
    · rintro σ' H' ⟨o1, o2, o3, o6, o7, o8, o9, o10, o11, o12, o13, rfl, s1⟩
      exact k H'
end
end K11

set_option maxHeartbeats 0
namespace K11
open PySem PySem.Spec PyProof.Rows L2 AT
abbrev R : PySem.W.OpenRow := PySem.W.OpenLaw.row PySem.Challenge.rw_anytempo_k11_maps_refused
abbrev hk : PySem.W.Hook := hookA 5 fn ex
def ob (s : PySem.W.SharedT) : AlA := obsAG 5 fn ex (HandSHeadRun.getT s)
theorem ob_eq (s : PySem.W.SharedT) : ob s = hk.obs s.abs := obsAG_eq (HandSHeadRun.getT_eq s)
theorem run (w : World) : HandSHeadRun.RunEq R (PySem.W.view R.prog [lawAt]) hk ob 20000 names w := by
  intro os
  kernel_rfl
end K11

set_option maxHeartbeats 0
open PySem PySem.W PySem.Calls PyProof.Rows
theorem PySem.Challenge.cw_anytempo_k11_maps_refused_holds : PySem.Challenge.rw_anytempo_k11_maps_refused.Holds := by
  w_on; o_law
  refine HandSHeadRun.head_any (r := OpenLaw.row PySem.Challenge.rw_anytempo_k11_maps_refused) (q := view (OpenLaw.row PySem.Challenge.rw_anytempo_k11_maps_refused).prog [K11.lawAt]) (H := K11.hk) (ob := K11.ob) (M := 20000) (loose := K11.names) (d := HandSHeadRun.topDef (OpenLaw.row PySem.Challenge.rw_anytempo_k11_maps_refused).prog K11.lawAt) (kwd := []) K11.ob_eq
    (by kernel_rfl) (fun s => by kernel_rfl) K11.run (by kernel_rfl) (by kernel_rfl) (by kernel_rfl) (by rfl) (by first | assumption | decide +kernel) (by decide +kernel) ⟨rfl, rfl, rfl, rfl, rfl, by decide +kernel⟩ ?hw ?hc
  case hw => w_witness2
  case hc =>
    refine AT.walkO (l := PySem.Challenge.rw_anytempo_k11_maps_refused) (n := 63) (k := 15) (x := "_law_script") (CX := fun w => L2.CX PySem.Challenge.rw_anytempo_k11_maps_refused.prog w) rfl (by decide) (by kernel_rfl) ⟨rfl, by decide, by decide⟩ ?F (fun w H s e s' z => AT.cx_false z)
    intro w mg fa h Y G hmg0
    obtain ⟨K, KX, c⟩ := Y
    have e : (HandSHeadRun.topDef (OpenLaw.row PySem.Challenge.rw_anytempo_k11_maps_refused).prog K11.lawAt).name = ("law" : PySem.Str) := by kernel_rfl
    rw [e] at hmg0
    have T : K11.Tx K mg h := ⟨c, KX, G⟩
    have e2 := hmg0.symm.trans T.g_law
    cases e2
    refine ⟨K, K11.spLaw K, KX, fun H a ns hl _ hS => ⟨a, ns, rfl, hS, fun _ => rfl⟩, fun base kb gb => ?_⟩
    obtain ⟨fd, hF, hb, _⟩ := K11.ok_law (P := PySem.Challenge.rw_anytempo_k11_maps_refused.prog) (w := w) ⟨c, kb, gb⟩
    exact ⟨fd, ⟨hF.len, fun A outer s H args us vs Q E _ => hF.run A outer s H args us vs Q E⟩, hb⟩

